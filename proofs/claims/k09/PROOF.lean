import PyProof.Rows.All
import Wide.All
import OpenK.AllK
import Wide.FinOn
import HandS.ForMost
import HandS.ForExc
import HandS.IsInst
import HandS.Flow
import HandS.Style
import HandS.TupAny
import HandS.Strs
import HandS.Deep
import HandS.Defaults
import HandS.Codes
import HandS.Head0
import HandS.Head1
import HandS.Head2
import HandS.HeadEnd
import HandS.HeadHook1
import HandS.HeadHook2
import HandS.TupMul
import HandS.ExcInit
import HandS.ExcField
import HandS.TryMany
import KE.KExcIs
import HandS.CallSlots
import HandS.Ends
import KE.SortData
import KE.DataMinMax
import PyProof.ReprRoads
import PyProof.ReprText
import HandS.Walk
import HandS.Small
import PySem.Challenge.RW_tautropes_k09_roots
set_option Elab.async false
set_option linter.all false
set_option maxRecDepth 100000
set_option maxHeartbeats 4000000
/-! DL0: deep data, mutable objects, how both stand in the layer's heap, steps of the heap. -/
namespace DL
open PySem PySem.Spec L2

/-- data that never changes any more -/
inductive D where
  | non | bl (b : Bool) | int (i : Int) | str (s : Str)
  | lst (xs : List D) | tup (xs : List D) | tupK (xs : List D) | tupF (xs : List D) | scr (ns : List Int)
  | dct (kvs : List (Key × D)) | dctT (kvs : List (List Key × D))
  | obj (c : Str) (fs : List (Str × D))
  | fn (f : Str)
  | exc (a : Nat) (c : Str) (d : Option Nat) (fs : List (Str × D))
/-- what a name holds: data, or the number of an object that may still change -/
inductive W where
  | d (x : D) | ref (i : Nat)
/-- an object that may still change -/
inductive MO where
  | lst (xs : List D) | dct (kvs : List (Key × D)) | dctT (kvs : List (List Key × D)) | dcw (kvs : List (Key × W)) | ins (c : Str) (fs : List (Str × W))
abbrev MM := List (Option MO)
abbrev GG := List (Option W)
/-- what is fixed through a law -/
structure Bs where
  P : Program
  w : World
  K : PySem.W.Frag
  mg : Str → Option Value
  base : Heap
  F : Addr → Prop

def KLs (K : PySem.W.Frag) (a : Addr) (xs : List V) : Prop :=
  ∃ (o : Obj) (its : Array Value) (n : Nat), K.lookup a = some o ∧ o.cls = .type "list" ∧ o.dict = none ∧ o.data = .seq its n ∧ its.size ≤ sizeLine ∧ Vals xs its.toList
def KT (K : PySem.W.Frag) (a : Addr) (xs : List V) : Prop :=
  ∃ (o : Obj) (its : Array Value) (n : Nat), K.lookup a = some o ∧ o.cls = .type "tuple" ∧ o.data = .seq its n ∧ its.size ≤ sizeLine ∧ Vals xs its.toList

section
variable (B : Bs) (L : Addr → Prop) (H : Hp)
mutual
def Rep : D → V → Prop
  | .non, v => v = .non
  | .bl b, v => v = .bl b
  | .int i, v => v = .int i
  | .str s, v => v = .str s ∧ s.cps.all (· < 0x110000) = true
  | .lst xs, v => ∃ a vs, v = .ref a ∧ H a = some (.lst vs) ∧ ¬ L a ∧ RepL xs vs
  | .scr ns, v => ∃ a, v = .ref a ∧ ((Rd H a (.lst (ns.map V.int)) ∧ ¬ L a) ∨ KLs B.K a (ns.map V.int))
  | .tup xs, v => ∃ a vs, v = .ref a ∧ H a = some (.tup vs) ∧ ¬ L a ∧ RepL xs vs
  | .tupK xs, v => ∃ a vs, v = .ref a ∧ KT B.K a vs ∧ RepL xs vs
  | .tupF xs, v => ∃ a vs o, v = .ref a ∧ H a = some (.frz o (.tup vs)) ∧ o.dict = none ∧ ¬ L a ∧ RepL xs vs
  | .dct kvs, v => ∃ a ks, v = .ref a ∧ Rd H a (.dK ks) ∧ ¬ L a ∧ RepK kvs ks
  | .dctT kvs, v => ∃ a ks, v = .ref a ∧ Rd H a (.dT ks) ∧ ¬ L a ∧ RepT kvs ks
  | .obj c fs, v => ∃ a C dx vs, v = .ref a ∧ H a = some (.ins C dx vs) ∧ ¬ L a ∧ B.mg c = some (.ref C) ∧ RepF fs vs
  | .fn f, v => ∃ a, v = .ref a ∧ B.mg f = some (.ref a)
  | .exc a c d fs, v => v = .ref a ∧ (match d with
    | some dd => ∃ vs, H dd = some (.xd vs) ∧ ¬ L dd ∧ RepF fs vs
    | none => fs = [])
def RepL : List D → List V → Prop
  | [], vs => vs = []
  | d :: ds, vs => ∃ v r, vs = v :: r ∧ Rep d v ∧ RepL ds r
def RepF : List (Str × D) → List (Str × V) → Prop
  | [], vs => vs = []
  | (k, d) :: ds, vs => ∃ v r, vs = (k, v) :: r ∧ Rep d v ∧ RepF ds r
def RepK : List (Key × D) → List (Key × V) → Prop
  | [], vs => vs = []
  | (k, d) :: ds, vs => ∃ v r, vs = (k, v) :: r ∧ Rep d v ∧ RepK ds r
def RepT : List (List Key × D) → List (List Key × V) → Prop
  | [], vs => vs = []
  | (k, d) :: ds, vs => ∃ v r, vs = (k, v) :: r ∧ Rep d v ∧ RepT ds r
end
end

/-- all that is told and not live stays so -/
def Kept (L : Addr → Prop) (H : Hp) (L' : Addr → Prop) (H' : Hp) : Prop := ∀ a o, H a = some o → ¬ L a → H' a = some o ∧ ¬ L' a
theorem Kept.refl (L : Addr → Prop) (H : Hp) : Kept L H L H := fun _ _ e n => ⟨e, n⟩
theorem Kept.rd {L L' : Addr → Prop} {H H' : Hp} {a : Addr} {u : HO} (k : Kept L H L' H') (r : Rd H a u) (n : ¬ L a) : Rd H' a u ∧ ¬ L' a := by
  rcases r with r | ⟨o, r⟩
  · exact ⟨.inl (k a _ r n).1, (k a _ r n).2⟩
  · exact ⟨.inr ⟨o, (k a _ r n).1⟩, (k a _ r n).2⟩

section
variable {B : Bs} {L L' : Addr → Prop} {H H' : Hp}
mutual
theorem Rep.mono (k : Kept L H L' H') : ∀ (d : D) (v : V), Rep B L H d v → Rep B L' H' d v
  | .non, _, h => h
  | .bl _, _, h => h
  | .int _, _, h => h
  | .str _, _, h => h
  | .lst xs, v, h => by
    obtain ⟨a, vs, e, r, n, h2⟩ := h
    exact ⟨a, vs, e, (k a _ r n).1, (k a _ r n).2, RepL.mono k xs vs h2⟩
  | .scr ns, v, h => by
    obtain ⟨a, e, h⟩ := h
    rcases h with ⟨r, n⟩ | h
    · exact ⟨a, e, .inl ⟨(k.rd r n).1, (k.rd r n).2⟩⟩
    · exact ⟨a, e, .inr h⟩
  | .tup xs, v, h => by
    obtain ⟨a, vs, e, r, n, h2⟩ := h
    exact ⟨a, vs, e, (k a _ r n).1, (k a _ r n).2, RepL.mono k xs vs h2⟩
  | .tupF xs, v, h => by
    obtain ⟨a, vs, o, e, r, hd, n, h2⟩ := h
    exact ⟨a, vs, o, e, (k a _ r n).1, hd, (k a _ r n).2, RepL.mono k xs vs h2⟩
  | .tupK xs, v, h => by
    obtain ⟨a, vs, e, r, h2⟩ := h
    exact ⟨a, vs, e, r, RepL.mono k xs vs h2⟩
  | .dct kvs, v, h => by
    obtain ⟨a, ks, e, r, n, h2⟩ := h
    exact ⟨a, ks, e, (k.rd r n).1, (k.rd r n).2, RepK.mono k kvs ks h2⟩
  | .dctT kvs, v, h => by
    obtain ⟨a, ks, e, r, n, h2⟩ := h
    exact ⟨a, ks, e, (k.rd r n).1, (k.rd r n).2, RepT.mono k kvs ks h2⟩
  | .obj c fs, v, h => by
    obtain ⟨a, C, dx, vs, e, r, n, m, h2⟩ := h
    exact ⟨a, C, dx, vs, e, (k a _ r n).1, (k a _ r n).2, m, RepF.mono k fs vs h2⟩
  | .fn _, _, h => h
  | .exc a c d fs, v, h => by
    obtain ⟨e, h⟩ := h
    refine ⟨e, ?_⟩
    cases d with
    | none => exact h
    | some dd =>
      obtain ⟨vs, h1, h2, h3⟩ := h
      exact ⟨vs, (k dd _ h1 h2).1, (k dd _ h1 h2).2, RepF.mono k fs vs h3⟩
theorem RepL.mono (k : Kept L H L' H') : ∀ (ds : List D) (vs : List V), RepL B L H ds vs → RepL B L' H' ds vs
  | [], _, h => h
  | d :: ds, _, h => by
    obtain ⟨v, r, e, h1, h2⟩ := h
    exact ⟨v, r, e, Rep.mono k d v h1, RepL.mono k ds r h2⟩
theorem RepF.mono (k : Kept L H L' H') : ∀ (ds : List (Str × D)) (vs : List (Str × V)), RepF B L H ds vs → RepF B L' H' ds vs
  | [], _, h => h
  | (c, d) :: ds, _, h => by
    obtain ⟨v, r, e, h1, h2⟩ := h
    exact ⟨v, r, e, Rep.mono k d v h1, RepF.mono k ds r h2⟩
theorem RepK.mono (k : Kept L H L' H') : ∀ (ds : List (Key × D)) (vs : List (Key × V)), RepK B L H ds vs → RepK B L' H' ds vs
  | [], _, h => h
  | (c, d) :: ds, _, h => by
    obtain ⟨v, r, e, h1, h2⟩ := h
    exact ⟨v, r, e, Rep.mono k d v h1, RepK.mono k ds r h2⟩
theorem RepT.mono (k : Kept L H L' H') : ∀ (ds : List (List Key × D)) (vs : List (List Key × V)), RepT B L H ds vs → RepT B L' H' ds vs
  | [], _, h => h
  | (c, d) :: ds, _, h => by
    obtain ⟨v, r, e, h1, h2⟩ := h
    exact ⟨v, r, e, Rep.mono k d v h1, RepT.mono k ds r h2⟩
end

theorem RepL.len : ∀ {ds : List D} {vs : List V}, RepL B L H ds vs → vs.length = ds.length
  | [], _, h => by cases h; rfl
  | d :: ds, _, h => by
    obtain ⟨v, r, rfl, _, h2⟩ := h
    rw [List.length_cons, List.length_cons, RepL.len h2]
theorem RepL.get : ∀ {ds : List D} {vs : List V} {i : Nat} {d : D}, RepL B L H ds vs → ds[i]? = some d → ∃ v, vs[i]? = some v ∧ Rep B L H d v
  | [], _, _, _, h, e => by cases e
  | x :: ds, _, 0, d, h, e => by
    obtain ⟨v, r, rfl, h1, h2⟩ := h
    cases e
    exact ⟨v, rfl, h1⟩
  | x :: ds, _, i + 1, d, h, e => by
    obtain ⟨v, r, rfl, h1, h2⟩ := h
    exact RepL.get (i := i) h2 e
theorem RepL.get2 {ds : List D} {vs : List V} {i : Nat} {v : V} (h : RepL B L H ds vs) (e : vs[i]? = some v) : ∃ d, ds[i]? = some d ∧ Rep B L H d v := by
  have hl := h.len
  have hi := (List.getElem?_eq_some_iff.mp e).1
  obtain ⟨v', e', r⟩ := h.get (i := i) (d := ds[i]'(by omega)) (List.getElem?_eq_getElem _)
  rw [e] at e'
  cases e'
  exact ⟨_, List.getElem?_eq_getElem _, r⟩
theorem RepL.mk : ∀ {ds : List D} {vs : List V}, vs.length = ds.length → (∀ (i : Nat) (d : D) (v : V), ds[i]? = some d → vs[i]? = some v → Rep B L H d v) → RepL B L H ds vs
  | [], [], _, _ => rfl
  | [], _ :: _, h, _ => by cases h
  | _ :: _, [], h, _ => by cases h
  | d :: ds, v :: vs, h, f => ⟨v, vs, rfl, f 0 d v rfl rfl, RepL.mk (by simpa using h) fun i d v e1 e2 => f (i + 1) d v e1 e2⟩
theorem RepL.app : ∀ {ds es : List D} {vs ws : List V}, RepL B L H ds vs → RepL B L H es ws → RepL B L H (ds ++ es) (vs ++ ws)
  | [], _, _, _, h, g => by cases h; exact g
  | d :: ds, _, _, _, h, g => by
    obtain ⟨v, r, rfl, h1, h2⟩ := h
    exact ⟨v, r ++ _, rfl, h1, RepL.app h2 g⟩
theorem RepL.one {d : D} {v : V} (h : Rep B L H d v) : RepL B L H [d] [v] := ⟨v, [], rfl, h, rfl⟩
theorem RepL.ints : ∀ ns : List Int, RepL B L H (ns.map D.int) (ns.map V.int)
  | [] => rfl
  | n :: ns => ⟨.int n, ns.map V.int, rfl, rfl, RepL.ints ns⟩
theorem RepL.drop : ∀ {ds : List D} {vs : List V} (n : Nat), RepL B L H ds vs → RepL B L H (ds.drop n) (vs.drop n)
  | _, _, 0, h => h
  | [], _, n + 1, h => by cases h; rfl
  | d :: ds, _, n + 1, h => by
    obtain ⟨v, r, rfl, h1, h2⟩ := h
    exact RepL.drop n h2
theorem RepL.take : ∀ {ds : List D} {vs : List V} (n : Nat), RepL B L H ds vs → RepL B L H (ds.take n) (vs.take n)
  | _, _, 0, h => rfl
  | [], _, n + 1, h => by cases h; rfl
  | d :: ds, _, n + 1, h => by
    obtain ⟨v, r, rfl, h1, h2⟩ := h
    exact ⟨v, r.take n, rfl, h1, RepL.take n h2⟩
theorem RepL.rev : ∀ {ds : List D} {vs : List V}, RepL B L H ds vs → RepL B L H ds.reverse vs.reverse
  | [], _, h => by cases h; rfl
  | d :: ds, _, h => by
    obtain ⟨v, r, rfl, h1, h2⟩ := h
    rw [List.reverse_cons, List.reverse_cons]
    exact RepL.app (RepL.rev h2) (RepL.one h1)
theorem RepL.set : ∀ {ds : List D} {vs : List V} (n : Nat) {d : D} {v : V}, RepL B L H ds vs → Rep B L H d v → RepL B L H (ds.set n d) (vs.set n v)
  | [], _, n, _, _, h, g => by cases h; rfl
  | d :: ds, _, 0, _, _, h, g => by
    obtain ⟨v, r, rfl, h1, h2⟩ := h
    exact ⟨_, r, rfl, g, h2⟩
  | d :: ds, _, n + 1, _, _, h, g => by
    obtain ⟨v, r, rfl, h1, h2⟩ := h
    exact ⟨v, _, rfl, h1, RepL.set n h2 g⟩
theorem RepL.erase : ∀ {ds : List D} {vs : List V} (n : Nat), RepL B L H ds vs → RepL B L H (ds.eraseIdx n) (vs.eraseIdx n)
  | [], _, n, h => by cases h; rfl
  | d :: ds, _, 0, h => by
    obtain ⟨v, r, rfl, h1, h2⟩ := h
    exact h2
  | d :: ds, _, n + 1, h => by
    obtain ⟨v, r, rfl, h1, h2⟩ := h
    exact ⟨v, _, rfl, h1, RepL.erase n h2⟩
end

/-! ### the objects that may change, by number -/
def Live (α : List Addr) (M : MM) (a : Addr) : Prop := ∃ (i : Nat) (mo : MO), M[i]? = some (some mo) ∧ α[i]? = some a
/-- what data may not lie on: what the callers may change, what may change here -/
def Lv (B : Bs) (α : List Addr) (M : MM) (a : Addr) : Prop := B.F a ∨ Live α M a
def RepW (B : Bs) (α : List Addr) (M : MM) (H : Hp) : W → V → Prop
  | .d x, v => Rep B (Lv B α M) H x v
  | .ref i, v => ∃ a, α[i]? = some a ∧ v = .ref a
/-- a row of values, by any relation -/
def RepKW {κ : Type} (B : Bs) (α : List Addr) (M : MM) (H : Hp) : List (κ × W) → List (κ × V) → Prop
  | [], vs => vs = []
  | (k, x) :: r, vs => ∃ v s, vs = (k, v) :: s ∧ RepW B α M H x v ∧ RepKW B α M H r s
def RepO (B : Bs) (α : List Addr) (M : MM) (H : Hp) : MO → HO → Prop
  | .lst xs, o => ∃ vs, o = .lst vs ∧ RepL B (Lv B α M) H xs vs
  | .dct kvs, o => ∃ vs, o = .dK vs ∧ RepK B (Lv B α M) H kvs vs
  | .dctT kvs, o => ∃ vs, o = .dT vs ∧ RepT B (Lv B α M) H kvs vs
  | .dcw kvs, o => ∃ vs, o = .dK vs ∧ RepKW B α M H kvs vs
  | .ins c fs, o => ∃ C dx vs, o = .ins C dx vs ∧ B.mg c = some (.ref C) ∧ RepKW B α M H fs vs
structure Ok (B : Bs) (α : List Addr) (M : MM) (H : Hp) : Prop where
  len : α.length = M.length
  nd : α.Nodup
  trk : ∀ a ∈ α, ∃ o, H a = some o
  frs : ∀ a, B.F a → ∃ o, H a = some o
  sep : ∀ a ∈ α, ¬ B.F a
  obj : ∀ (i : Nat) (mo : MO) (a : Addr), M[i]? = some (some mo) → α[i]? = some a → ∃ o, H a = some o ∧ RepO B α M H mo o
structure Step (α : List Addr) (M : MM) (H : Hp) (α' : List Addr) (M' : MM) (H' : Hp) : Prop where
  pre : α <+: α'
  keep : ∀ a o, H a = some o → ¬ Live α M a → H' a = some o
  live : ∀ a, Live α' M' a → Live α M a ∨ H a = none
  new : ∀ a ∈ α', a ∈ α ∨ H a = none
def Vars (B : Bs) (α : List Addr) (M : MM) (H : Hp) (Γ : GG) (σ : L2.St) : Prop :=
  Γ.length = σ.length ∧ ∀ (i : Nat) (x : W), Γ[i]? = some (some x) → ∃ v, σ[i]? = some (some v) ∧ RepW B α M H x v

section
variable {B : Bs} {α α1 α2 α' : List Addr} {M M1 M2 M' : MM} {H H1 H2 H' : Hp} {Γ : GG} {σ : L2.St}
theorem Step.refl (α : List Addr) (M : MM) (H : Hp) : Step α M H α M H := ⟨List.prefix_refl _, fun _ _ e _ => e, fun _ h => .inl h, fun _ h => .inl h⟩
theorem Step.old (s : Step α M H α' M' H') {a : Addr} {o : HO} (e : H a = some o) (n : ¬ Live α M a) : H' a = some o ∧ ¬ Live α' M' a := ⟨s.keep a o e n, fun l => by
  rcases s.live a l with h | h
  · exact n h
  · rw [e] at h; cases h⟩
theorem Step.kept (s : Step α M H α' M' H') : Kept (Lv B α M) H (Lv B α' M') H' := fun a o e n => ⟨(s.old e fun l => n (.inr l)).1, fun l => by
  rcases l with l | l
  · exact n (.inl l)
  · exact (s.old e fun l => n (.inr l)).2 l⟩
theorem Step.trans (s : Step α M H α1 M1 H1) (t : Step α1 M1 H1 α2 M2 H2) : Step α M H α2 M2 H2 where
  pre := s.pre.trans t.pre
  keep := fun a o e n => t.keep a o (s.keep a o e n) (s.old e n).2
  live := fun a l => by
    rcases t.live a l with h | h
    · exact s.live a h
    · cases e : H a with
      | none => exact .inr rfl
      | some o =>
        by_cases n : Live α M a
        · exact .inl n
        · rw [s.keep a o e n] at h; cases h
  new := fun a l => by
    rcases t.new a l with h | h
    · exact s.new a h
    · cases e : H a with
      | none => exact .inr rfl
      | some o =>
        by_cases n : Live α M a
        · obtain ⟨i, mo, _, e2⟩ := n
          exact .inl (List.mem_of_getElem? e2)
        · rw [s.keep a o e n] at h; cases h
theorem get_prefix {α : Type} {l l' : List α} (p : l <+: l') {i : Nat} {a : α} (e : l[i]? = some a) : l'[i]? = some a := by
  obtain ⟨t, rfl⟩ := p
  have hi := (List.getElem?_eq_some_iff.mp e).1
  rw [List.getElem?_append_left hi]
  exact e
theorem RepW.mono {x : W} {v : V} (p : α <+: α') (k : Kept (Lv B α M) H (Lv B α' M') H') (h : RepW B α M H x v) : RepW B α' M' H' x v := by
  cases x with
  | d x => exact Rep.mono k x v h
  | ref i =>
    obtain ⟨a, e, r⟩ := h
    exact ⟨a, get_prefix p e, r⟩
theorem RepW.step {x : W} {v : V} (s : Step α M H α' M' H') (h : RepW B α M H x v) : RepW B α' M' H' x v := h.mono s.pre s.kept
theorem RepKW.mono {κ : Type} (p : α <+: α') (k : Kept (Lv B α M) H (Lv B α' M') H') : ∀ {xs : List (κ × W)} {vs : List (κ × V)}, RepKW B α M H xs vs → RepKW B α' M' H' xs vs
  | [], _, h => h
  | (c, x) :: xs, _, h => by
    obtain ⟨v, r, e, h1, h2⟩ := h
    exact ⟨v, r, e, h1.mono p k, RepKW.mono p k h2⟩
theorem RepO.mono {mo : MO} {o : HO} (p : α <+: α') (k : Kept (Lv B α M) H (Lv B α' M') H') (h : RepO B α M H mo o) : RepO B α' M' H' mo o := by
  cases mo with
  | lst xs => obtain ⟨vs, e, h⟩ := h; exact ⟨vs, e, RepL.mono k xs vs h⟩
  | dct kvs => obtain ⟨vs, e, h⟩ := h; exact ⟨vs, e, RepK.mono k kvs vs h⟩
  | dctT kvs => obtain ⟨vs, e, h⟩ := h; exact ⟨vs, e, RepT.mono k kvs vs h⟩
  | dcw kvs => obtain ⟨vs, e, h⟩ := h; exact ⟨vs, e, RepKW.mono p k h⟩
  | ins c fs => obtain ⟨C, dx, vs, e, m, h⟩ := h; exact ⟨C, dx, vs, e, m, RepKW.mono p k h⟩
theorem Vars.mono (p : α <+: α') (k : Kept (Lv B α M) H (Lv B α' M') H') (h : Vars B α M H Γ σ) : Vars B α' M' H' Γ σ := ⟨h.1, fun i x e => by
  obtain ⟨v, e1, r⟩ := h.2 i x e
  exact ⟨v, e1, r.mono p k⟩⟩
theorem Vars.step (s : Step α M H α' M' H') (h : Vars B α M H Γ σ) : Vars B α' M' H' Γ σ := h.mono s.pre s.kept
theorem Vars.set (h : Vars B α M H Γ σ) (i : Nat) {x : W} {v : V} (r : RepW B α M H x v) : Vars B α M H (Γ.set i (some x)) (σ.set i (some v)) := by
  refine ⟨by rw [List.length_set, List.length_set]; exact h.1, fun j y e => ?_⟩
  by_cases hj : j = i
  · subst hj
    have hl : j < (Γ.set j (some x)).length := (List.getElem?_eq_some_iff.mp e).1
    rw [List.length_set] at hl
    rw [List.getElem?_set_self hl] at e
    cases e
    exact ⟨v, List.getElem?_set_self (h.1 ▸ hl), r⟩
  · rw [List.getElem?_set_ne (fun q => hj q.symm)] at e
    obtain ⟨w, e1, r1⟩ := h.2 j y e
    exact ⟨w, by rw [List.getElem?_set_ne (fun q => hj q.symm)]; exact e1, r1⟩
theorem Vars.unset (h : Vars B α M H Γ σ) (i : Nat) (u : Option V) : Vars B α M H (Γ.set i none) (σ.set i u) := by
  refine ⟨by rw [List.length_set, List.length_set]; exact h.1, fun j y e => ?_⟩
  by_cases hj : j = i
  · subst hj
    have hl : j < (Γ.set j none).length := (List.getElem?_eq_some_iff.mp e).1
    rw [List.length_set] at hl
    rw [List.getElem?_set_self hl] at e
    cases e
  · rw [List.getElem?_set_ne (fun q => hj q.symm)] at e
    obtain ⟨w, e1, r1⟩ := h.2 j y e
    exact ⟨w, by rw [List.getElem?_set_ne (fun q => hj q.symm)]; exact e1, r1⟩

theorem Ok.notLive (ok : Ok B α M H) {p : Addr} (hp : H p = none) : ¬ Lv B α M p := fun l => by
  rcases l with l | ⟨i, mo, e1, e2⟩
  · obtain ⟨o, e⟩ := ok.frs p l
    rw [hp] at e; cases e
  · obtain ⟨o, e⟩ := ok.trk p (List.mem_of_getElem? e2)
    rw [hp] at e; cases e
theorem Ok.fresh (ok : Ok B α M H) {p : Addr} (hp : H p = none) : p ∉ α := fun h => by
  obtain ⟨o, e⟩ := ok.trk p h
  rw [hp] at e; cases e
/-- a new object at p, not among those that may change -/
theorem kept_new (ok : Ok B α M H) {p : Addr} {o : HO} (hp : H p = none) : Step α M H α M (upd H p o) :=
  ⟨List.prefix_refl _, fun a u e n => by rw [upd_ne (ne_of_none e hp)]; exact e, fun a h => .inl h, fun a h => .inl h⟩
theorem Ok.new (ok : Ok B α M H) {p : Addr} {o : HO} (hp : H p = none) : Ok B α M (upd H p o) := by
  have s := kept_new (o := o) ok hp
  refine ⟨ok.len, ok.nd, fun a h => ?_, fun a h => ?_, ok.sep, fun i mo a e1 e2 => ?_⟩
  · obtain ⟨u, e⟩ := ok.trk a h
    exact ⟨u, by rw [upd_ne (ne_of_none e hp)]; exact e⟩
  · obtain ⟨u, e⟩ := ok.frs a h
    exact ⟨u, by rw [upd_ne (ne_of_none e hp)]; exact e⟩
  · obtain ⟨u, e, r⟩ := ok.obj i mo a e1 e2
    exact ⟨u, by rw [upd_ne (ne_of_none e hp)]; exact e, r.mono s.pre s.kept⟩
theorem live_push {p a : Addr} {mo : MO} (hl : α.length = M.length) (h : Live (α ++ [p]) (M ++ [some mo]) a) : Live α M a ∨ a = p := by
  obtain ⟨i, m, e1, e2⟩ := h
  by_cases hi : i < M.length
  · rw [List.getElem?_append_left hi] at e1
    rw [List.getElem?_append_left (by omega)] at e2
    exact .inl ⟨i, m, e1, e2⟩
  · have hi2 := (List.getElem?_eq_some_iff.mp e2).1
    have : i = α.length := by
      rw [List.length_append, List.length_singleton] at hi2
      omega
    subst this
    rw [List.getElem?_append_right (Nat.le_refl _), Nat.sub_self] at e2
    cases e2
    exact .inr rfl
/-- a new object at p that may change -/
theorem step_push (ok : Ok B α M H) {p : Addr} {o : HO} {mo : MO} (hp : H p = none) : Step α M H (α ++ [p]) (M ++ [some mo]) (upd H p o) :=
  ⟨List.prefix_append _ _, fun a u e n => by rw [upd_ne (ne_of_none e hp)]; exact e, fun a h => by
    rcases live_push ok.len h with h | rfl
    · exact .inl h
    · exact .inr hp, fun a h => by
    rcases List.mem_append.mp h with h | h
    · exact .inl h
    · rw [List.mem_singleton] at h
      subst h
      exact .inr hp⟩
theorem Ok.push (ok : Ok B α M H) {p : Addr} {o : HO} {mo : MO} (hp : H p = none) (ro : RepO B α M H mo o) : Ok B (α ++ [p]) (M ++ [some mo]) (upd H p o) := by
  have s := step_push (o := o) (mo := mo) ok hp
  refine ⟨by simp [ok.len], ?_, fun a h => ?_, fun a h => ?_, fun a h => ?_, fun i m a e1 e2 => ?_⟩
  · rw [List.nodup_append]
    refine ⟨ok.nd, by simp, fun a ha b hb => ?_⟩
    rw [List.mem_singleton] at hb
    subst hb
    rintro rfl
    exact ok.fresh hp ha
  · rcases List.mem_append.mp h with h | h
    · obtain ⟨u, e⟩ := ok.trk a h
      exact ⟨u, by rw [upd_ne (ne_of_none e hp)]; exact e⟩
    · rw [List.mem_singleton] at h
      subst h
      exact ⟨o, upd_same⟩
  · obtain ⟨u, e⟩ := ok.frs a h
    exact ⟨u, by rw [upd_ne (ne_of_none e hp)]; exact e⟩
  · rcases List.mem_append.mp h with h | h
    · exact ok.sep a h
    · rw [List.mem_singleton] at h
      subst h
      intro f
      obtain ⟨u, e⟩ := ok.frs _ f
      rw [hp] at e; cases e
  · by_cases hi : i < M.length
    · rw [List.getElem?_append_left hi] at e1
      rw [List.getElem?_append_left (by rw [ok.len]; exact hi)] at e2
      obtain ⟨u, e, r⟩ := ok.obj i m a e1 e2
      exact ⟨u, by rw [upd_ne (ne_of_none e hp)]; exact e, r.mono s.pre s.kept⟩
    · have hi2 := (List.getElem?_eq_some_iff.mp e2).1
      have hl := ok.len
      have : i = α.length := by
        rw [List.length_append, List.length_singleton] at hi2
        omega
      subst this
      rw [List.getElem?_append_right (Nat.le_refl _), Nat.sub_self] at e2
      rw [List.getElem?_append_right (by omega), hl, Nat.sub_self] at e1
      cases e2
      cases e1
      exact ⟨o, upd_same, ro.mono s.pre s.kept⟩
theorem nodup_get {α : Type} {l : List α} (h : l.Nodup) {i j : Nat} {a : α} (e1 : l[i]? = some a) (e2 : l[j]? = some a) : i = j := by
  have hi := (List.getElem?_eq_some_iff.mp e1)
  have hj := (List.getElem?_eq_some_iff.mp e2)
  obtain ⟨hi, ei⟩ := hi
  obtain ⟨hj, ej⟩ := hj
  exact (List.getElem_inj h).mp (ei.trans ej.symm)
theorem live_set (nd : α.Nodup) {i : Nat} {mo mo' : MO} (hm : M[i]? = some (some mo)) {a : Addr} : Live α (M.set i (some mo')) a ↔ Live α M a := by
  have hi := (List.getElem?_eq_some_iff.mp hm).1
  constructor
  · rintro ⟨j, m, e1, e2⟩
    by_cases hj : i = j
    · subst hj; exact ⟨i, mo, hm, e2⟩
    · rw [List.getElem?_set_ne hj] at e1
      exact ⟨j, m, e1, e2⟩
  · rintro ⟨j, m, e1, e2⟩
    by_cases hj : i = j
    · subst hj; exact ⟨i, mo', by rw [List.getElem?_set_self hi], e2⟩
    · exact ⟨j, m, by rw [List.getElem?_set_ne hj]; exact e1, e2⟩
/-- a live object changes -/
theorem step_write (ok : Ok B α M H) {i : Nat} {a : Addr} {mo mo' : MO} {o : HO} (hm : M[i]? = some (some mo)) (ha : α[i]? = some a) : Step α M H α (M.set i (some mo')) (upd H a o) :=
  ⟨List.prefix_refl _, fun b u e n => by
    have hb : b ≠ a := fun q => n (q ▸ ⟨i, mo, hm, ha⟩)
    rw [upd_ne hb]; exact e, fun b h => .inl ((live_set ok.nd hm).mp h), fun b h => .inl h⟩
theorem Ok.write (ok : Ok B α M H) {i : Nat} {a : Addr} {mo mo' : MO} {o : HO} (hm : M[i]? = some (some mo)) (ha : α[i]? = some a) (ro : RepO B α M H mo' o) : Ok B α (M.set i (some mo')) (upd H a o) := by
  have s := step_write (mo' := mo') (o := o) ok hm ha
  have hi := (List.getElem?_eq_some_iff.mp hm).1
  refine ⟨by rw [List.length_set]; exact ok.len, ok.nd, fun b h => ?_, fun b h => ?_, ok.sep, fun j m b e1 e2 => ?_⟩
  · obtain ⟨u, e⟩ := ok.trk b h
    by_cases hb : b = a
    · subst hb; exact ⟨o, upd_same⟩
    · exact ⟨u, by rw [upd_ne hb]; exact e⟩
  · obtain ⟨u, e⟩ := ok.frs b h
    by_cases hb : b = a
    · subst hb; exact ⟨o, upd_same⟩
    · exact ⟨u, by rw [upd_ne hb]; exact e⟩
  · by_cases hj : i = j
    · subst hj
      rw [List.getElem?_set_self hi] at e1
      cases e1
      rw [ha] at e2
      cases e2
      exact ⟨o, upd_same, ro.mono s.pre s.kept⟩
    · rw [List.getElem?_set_ne hj] at e1
      obtain ⟨u, e, r⟩ := ok.obj j m b e1 e2
      have hb : b ≠ a := fun q => hj (nodup_get ok.nd ha (q ▸ e2))
      exact ⟨u, by rw [upd_ne hb]; exact e, r.mono s.pre s.kept⟩
theorem live_kill {i : Nat} {a : Addr} (h : Live α (M.set i none) a) : Live α M a := by
  obtain ⟨j, m, e1, e2⟩ := h
  by_cases hj : i = j
  · subst hj
    have hl := (List.getElem?_eq_some_iff.mp e1).1
    rw [List.length_set] at hl
    rw [List.getElem?_set_self hl] at e1
    cases e1
  · rw [List.getElem?_set_ne hj] at e1
    exact ⟨j, m, e1, e2⟩
theorem dead_kill (nd : α.Nodup) {i : Nat} {a : Addr} (ha : α[i]? = some a) : ¬ Live α (M.set i none) a := by
  rintro ⟨j, m, e1, e2⟩
  have hj := nodup_get nd ha e2
  subst hj
  have hl := (List.getElem?_eq_some_iff.mp e1).1
  rw [List.length_set] at hl
  rw [List.getElem?_set_self hl] at e1
  cases e1
/-- a live object changes no more -/
theorem step_kill (i : Nat) : Step α M H α (M.set i none) H := ⟨List.prefix_refl _, fun _ _ e _ => e, fun a h => .inl (live_kill h), fun a h => .inl h⟩
theorem Ok.kill (ok : Ok B α M H) (i : Nat) : Ok B α (M.set i none) H := by
  have s := step_kill (α := α) (M := M) (H := H) i
  refine ⟨by rw [List.length_set]; exact ok.len, ok.nd, ok.trk, ok.frs, ok.sep, fun j m b e1 e2 => ?_⟩
  by_cases hj : i = j
  · subst hj
    have hl := (List.getElem?_eq_some_iff.mp e1).1
    rw [List.length_set] at hl
    rw [List.getElem?_set_self hl] at e1
    cases e1
  · rw [List.getElem?_set_ne hj] at e1
    obtain ⟨u, e, r⟩ := ok.obj j m b e1 e2
    exact ⟨u, e, r.mono s.pre s.kept⟩
end
end DL

/-! DX0: a tuple once. -/
namespace DL
open PySem PySem.Spec L2 PyProof.Rows
theorem tuple_mul1 (l : Addr) (items : Array Value) (n : Nat) (dd : Option Addr) (sl : Array (Option Value)) (x : Int) (u : Tok) (c0 : (decide (x < -(2 ^ 63)) || decide (x ≥ 2 ^ 63)) = false) (c1 : (items.isEmpty || x == 1) = true) :
    Meets (Builtin.«tuple.__mul__» ⟨[.ref l, .int x u], []⟩) (fun _ R s => s.heap.get? l = some { cls := .type "tuple", dict := dd, data := .seq items n, slots := sl } ∧ R (.ok (.ret (Value.ref l))) s) :=
  .of_wp fun prog w A R s h => by
    obtain ⟨hp, g, d, tk, os⟩ := s
    obtain ⟨hl, h⟩ := h
    have f1 := AutoSeq1.idx_int
    wp_walk using wpAny_loadPart' hl
    repeat (first
      | (refine wpAny_ite_false (decide_eq_false (by rw [c0]; exact Bool.false_ne_true)) ?_; wp_walk using wpAny_loadPart' hl)
      | (refine wpAny_ite_true (decide_eq_true (by rw [c1])) ?_; wp_walk using wpAny_loadPart' hl))
    exact ⟨_, rfl, h⟩
def rRep1 (K : PySem.W.Frag) : R2 := fun x y H Q => ∃ l k xs, x = .ref l ∧ y = .int k ∧ SqT K H l xs ∧ (xs = [] ∨ k = 1) ∧ 0 ≤ k ∧ k < 2 ^ 62 ∧ Q (.ref l) H
theorem op_rep1 {X : Cx} : OpR X (binaryOp .Mult) (rRep1 X.K) := by
  intro pins s σ H x y v u Q I rx ry h
  obtain ⟨l, k, xs, rfl, rfl, hT, hk, h0, h2, q⟩ := h
  cases rx
  obtain ⟨t, rfl⟩ := ry
  obtain ⟨its, r, ⟨⟨cls, dd, data, sl⟩, ho, hc, n, hd⟩, hs⟩ := I.tuple hT
  simp only at hc hd
  subst hc hd
  have hle : its.length = xs.length := r.length.symm
  have c0 : (decide (k < -(2 ^ 63)) || decide (k ≥ 2 ^ 63)) = false := by
    rw [decide_eq_false (by omega), decide_eq_false (by omega)] <;> rfl
  have c1 : (its.toArray.isEmpty || k == 1) = true := by
    rcases hk with rfl | rfl
    · have : its = [] := List.eq_nil_of_length_eq_zero hle
      subst this
      rfl
    · simp
  refine wpAny_binaryOp_repeat_ref (T := "tuple") (U := "int") (by decide) ⟨_, ho, rfl⟩ (fun s' => typeIs_int s' k t) noFill_tuple_mul F.fills_int_mul F.slot_int_rmul repeat_tuple F.slot_int_index.lookup
    (call_meets F.slot_int_rmul (typeIs_int s k t) F.entry_int_rmul (F.args_int_rmul_2 _ _) (int_rmul_tuple k t l its.toArray n dd sl)
      ⟨ho, rfl, ⟨_, ho, rfl⟩, call_meets F.slot_tuple_mul ⟨_, ho, rfl⟩ F.entry_tuple_mul (F.args_tuple_mul_2 _ _) (tuple_mul1 l its.toArray n dd sl k t c0 c1) ⟨ho, ?_⟩⟩)
  exact ⟨.ref l, H, I.tok (t := s.toks), rfl, q⟩
def rRepN (K : PySem.W.Frag) : R2 := fun x y H Q => ∃ l k xs, x = .ref l ∧ y = .int k ∧ SqT K H l xs ∧ xs ≠ [] ∧ 2 ≤ k ∧ k < 2 ^ 62 ∧ xs.length * k.toNat ≤ sizeLine ∧ ∀ p, H p = none → Q (.ref p) (upd H p (.tup (List.replicate k.toNat xs).flatten))
theorem op_repN {X : Cx} : OpR X (binaryOp .Mult) (rRepN X.K) := by
  intro pins s σ H x y v u Q I rx ry h
  obtain ⟨l, k, xs, rfl, rfl, hT, hne, h1, h2, hz, q⟩ := h
  cases rx
  obtain ⟨t, rfl⟩ := ry
  obtain ⟨its, r, ⟨⟨cls, dd, data, sl⟩, ho, hc, n, hd⟩, hs⟩ := I.tuple hT
  simp only at hc hd
  subst hc hd
  have hle : its.length = xs.length := r.length.symm
  have hn : its ≠ [] := fun e => hne (by rw [e] at hle; exact List.eq_nil_of_length_eq_zero hle.symm)
  have hi : its.toArray.isEmpty = false := by
    cases its with
    | nil => exact absurd rfl hn
    | cons a b => rfl
  have hm : ((its.toArray.size : Nat) : Int) * k ≤ 16777216 := by
    rw [List.size_toArray, hle]
    rw [sizeLine_eq] at hz
    have e : k = (k.toNat : Int) := by omega
    rw [e, ← Int.natCast_mul]
    omega
  have flen : (List.replicate k.toNat its).flatten.length ≤ sizeLine := by
    rw [PyProof.Rows.lm_len_rep_flat, hle, Nat.mul_comm]
    exact hz
  have c0 : (decide (k < -(2 ^ 63)) || decide (k ≥ 2 ^ 63)) = false := by
    rw [decide_eq_false (by omega), decide_eq_false (by omega)] <;> rfl
  have c1 : (its.toArray.isEmpty || k == 1) = false := by
    rw [hi, Bool.false_or]
    exact beq_eq_false_iff_ne.mpr (by omega)
  have c2 : (decide (k ≤ 0) || its.toArray.isEmpty) = false := by
    rw [hi, Bool.or_false]
    exact decide_eq_false (by omega)
  have c4 : Builtin.Tuple.tupleTooMany (((its.toArray.size : Nat) : Int) * k) = false := by
    unfold Builtin.Tuple.tupleTooMany
    rw [sizeLine_eq]
    exact decide_eq_false (by omega)
  refine wpAny_binaryOp_repeat_ref (T := "tuple") (U := "int") (by decide) ⟨_, ho, rfl⟩ (fun s' => typeIs_int s' k t) noFill_tuple_mul F.fills_int_mul F.slot_int_rmul repeat_tuple F.slot_int_index.lookup
    (call_meets F.slot_int_rmul (typeIs_int s k t) F.entry_int_rmul (F.args_int_rmul_2 _ _) (int_rmul_tuple k t l its.toArray n dd sl)
      ⟨ho, rfl, ⟨_, ho, rfl⟩, call_meets F.slot_tuple_mul ⟨_, ho, rfl⟩ F.entry_tuple_mul (F.args_tuple_mul_2 _ _) (tuple_mulW l its.toArray n dd sl k t c0 c1 c2 (by omega) c4 (by rw [size_rep, List.size_toArray]; exact flen)) ⟨ho, ?_⟩⟩)
  rw [size_rep]
  refine ⟨.ref s.heap.objs.size, _, I.laid (t' := s.toks) (o := .tup (List.replicate k.toNat xs).flatten) (fun b ob q => Heap.get?_push_of_some _ q) (Nat.le_refl _) ?_, rfl, q _ (I.hok.fresh (Nat.le_refl _))⟩
  exact ⟨by rw [PyProof.Rows.lm_len_rep_flat, Nat.mul_comm]; exact hz, _, r.rep k.toNat, IsTup.new _ _⟩
end DL

/-! DX1: own error classes: made without a field, asked by isinstance, several named clauses. -/
namespace DL
open PySem PySem.Spec L2 PyProof.Rows
/-- the written part's look at an own error class over ValueError -/
def oexB (K : PySem.W.Frag) (C : Addr) : Bool := (match K.lookup C with
  | some ⟨.type "type", _, .cls cd, sl⟩ => (match cd.mro, sl.toList with
    | .ref C' :: bm, [_, _, _, _, some (.builtin n), _] => C' == C && n == "ValueError.__new__" && !cd.hasDel && cd.hasDict && PySem.HandSPX.refsVE bm
    | _, _ => false)
  | _ => false) && decide (PySem.W.findIn K (.ref C) "__setattr__" = some (some (.builtin "object.__setattr__"))) && decide (PySem.W.subIn K (.ref C) (.type "BaseException") = some true) && decide (PySem.W.typeIn K (.ref C) = some (.type "type")) && PySem.W.keepIn K (.ref C)
theorem oexB_ok {K : PySem.W.Frag} {C : Addr} (h : oexB K C = true) : OexC K C := by
  unfold oexB at h
  simp only [Bool.and_eq_true, decide_eq_true_eq] at h
  obtain ⟨⟨⟨⟨h1, h2⟩, h3⟩, h4⟩, h5⟩ := h
  refine ⟨?_, h2, h3, h4, h5⟩
  split at h1
  · rename_i dd cd sl ho
    split at h1
    · rename_i C' bm k0 k1 k2 k3 n k5 hm hs
      simp only [Bool.and_eq_true, beq_iff_eq, Bool.not_eq_true'] at h1
      obtain ⟨⟨⟨⟨rfl, rfl⟩, hdel⟩, hdict⟩, hv⟩ := h1
      obtain ⟨nm, bs, mro, ns, qn, hd, sn, sub, ab, col, del⟩ := cd
      dsimp only at hm hdel hdict
      subst hm hdel hdict
      have hsl : sl = #[k0, k1, k2, k3, some (.builtin "ValueError.__new__"), k5] := by
        obtain ⟨l⟩ := sl
        simp only at hs
        rw [hs]
      subst hsl
      exact ⟨nm, qn, ns, bs, bm, sn, sub, ab, col, dd, k0, k1, k2, k3, k5, ho, hv⟩
    · cases h1
  · cases h1
/-- .. for isinstance -/
def excB (K : PySem.W.Frag) (D : Addr) : Bool := decide (PySem.W.findIn K (.ref D) "__getattribute__" = some (some (.builtin "BaseException.__getattribute__"))) && decide (PySem.W.findIn K (.ref D) "__getattr__" = some none) && decide (PySem.W.subIn K (.ref D) (.type "BaseException") = some true) && PySem.W.hasDictIn K D &&
  decide (PySem.W.findIn K (.ref D) "__class__" = some (some (.builtin "object.__class__"))) && decide (PySem.W.specialIn K (.builtin "object.__class__") "__get__" = some (some (.builtin "getset_descriptor.__get__"))) && decide (PySem.W.takesIn K (.builtin "object.__class__") = some true) && decide (PySem.W.mroIn K D (.type "object") = some true)
structure ExcQ (K : PySem.W.Frag) (D : Addr) : Prop where
  hg : PySem.W.findIn K (.ref D) "__getattribute__" = some (some (.builtin "BaseException.__getattribute__"))
  hk : PySem.W.findIn K (.ref D) "__getattr__" = some none
  hs : PySem.W.subIn K (.ref D) (.type "BaseException") = some true
  hd : PySem.W.hasDictIn K D = true
  ha : PySem.W.findIn K (.ref D) "__class__" = some (some (.builtin "object.__class__"))
  hn : PySem.W.specialIn K (.builtin "object.__class__") "__get__" = some (some (.builtin "getset_descriptor.__get__"))
  ht : PySem.W.takesIn K (.builtin "object.__class__") = some true
  hm : PySem.W.mroIn K D (.type "object") = some true
theorem excB_ok {K : PySem.W.Frag} {C : Addr} (h : excB K C = true) : ExcQ K C := by
  unfold excB at h
  simp only [Bool.and_eq_true, decide_eq_true_eq] at h
  obtain ⟨⟨⟨⟨⟨⟨⟨h1, h2⟩, h3⟩, h4⟩, h5⟩, h6⟩, h7⟩, h8⟩ := h
  exact ⟨h1, h2, h3, h4, h5, h6, h7, h8⟩
theorem has_cls {K : PySem.W.Frag} {C : Addr} (h : PySem.W.hasDictIn K C = true) : (PySem.W.clsIn K C).isSome = true := by
  obtain ⟨cd, hc, _⟩ := PySem.W.any_some h
  rw [hc]; rfl
/-! ### a class without fields, called without arguments -/
def tMkO0 (C : Addr) (sp : Sp) (dvs : List V) : L2.St → Hp → XK → Prop := fun _ H Q => ∀ a, H a = none → sp (.ref a :: dvs) (upd H a (exo a C none)) (fun v H2 => v = .non ∧ H2 a = some (exo a C none) ∧ Q (.ref C) none (del H2 a)) (fun _ _ _ => False)
section
variable {X : Cx}
theorem mk_endN {pins : List (Addr × Obj)} {σ : L2.St} {H1 H2 : Hp} {Q : XK} {hp hp2 h2 : Heap} {g1 g2 : Array GenState} {d1 d2 : Drawn} {t1 t2 : Nat} {os1 os2 : OsState} {a C : Addr} (T : Raises X (.ref C)) (I1 : Inv X pins σ H1 ⟨hp, g1, d1, t1, os1⟩)
    (ha : hp.objs.size ≤ a) (k : ∀ b o, hp.get? b = some o → hp2.get? b = some o) (un : Un (frs X.stack) [] (upd H1 a (exo a C none)) H2 hp2 h2) (hok : HOk X.prog X.w H2 h2) (ho : os2 = os1) (hb : AllBare g2)
    (ea : H2 a = some (exo a C none)) (q : Q (.ref C) none (del H2 a)) : MkP X pins σ Q (.ref a) ⟨h2, g2, d2, t2, os2⟩ := by
  obtain ⟨t0, hoe⟩ := exo_at hok ea
  have hn : H1 a = none := I1.hok.fresh ha
  obtain ⟨G, g1', g2'⟩ := restrict h2 fun b => decide (b ≠ a)
  have gk : ∀ b, b ≠ a → G.get? b = h2.get? b := fun b hb => g1' b (decide_eq_true hb)
  have ge : G.get? a = none := g2' a (by simp)
  have nha : ∀ {b : Addr} {o : Obj}, hp.get? b = some o → b ≠ a := fun {b o} z => Nat.ne_of_lt (Nat.lt_of_lt_of_le (Heap.lt_size z) ha)
  have up : ∀ {b : Addr}, b ≠ a → H1 b = none → upd H1 a (exo a C none) b = none := fun {b} hb n => by rw [upd_ne hb]; exact n
  have U : Un (frs X.stack) [] H1 (del H2 a) hp G := {
    keep := fun b o z n hf hx => by
      rw [gk b (nha z)]
      exact un.keep b o (k b o z) (up (nha z) n) hf hx
    slot := fun b o z n hf hx => by
      rw [gk b (nha z)]
      exact un.slot b o (k b o z) (up (nha z) n) hf hx
    free := fun b o z n hx => by
      rw [del_ne (nha z)]
      exact un.free b o (k b o z) (up (nha z) n) hx
    there := fun b o z hx => by
      rw [gk b (nha z)]
      exact un.there b o (k b o z) hx
    tups := fun b xs z => by
      rw [del_ne (ne_of_none z hn)]
      exact un.tups b xs (by rw [upd_ne (ne_of_none z hn)]; exact z)
    frzs := fun b o v z => by
      rw [del_ne (ne_of_none z hn)]
      exact un.frzs b o v (by rw [upd_ne (ne_of_none z hn)]; exact z)
    tbls := fun b ps z => by
      rw [del_ne (ne_of_none z hn)]
      exact un.tbls b ps (by rw [upd_ne (ne_of_none z hn)]; exact z) }
  have hok3 : HOk X.prog X.w (del H2 a) G := fun b o z => by
    have hba : b ≠ a := fun e => by
      rw [e, del_same] at z
      cases z
    rw [del_ne hba] at z
    have noa : ∀ {c : Addr}, H2 c = some (.own b) → c ≠ a := fun {c} hc => at_ne ea hc exo_own
    exact (hok b o z).stay (fun c v hc y => by
        have hca : c ≠ a := by
          rcases hc with hc | hc
          · rw [hc]
            exact hba
          · exact noa hc
        rw [gk c hca]
        exact y)
      (fun c hc => by rw [del_ne (noa hc)]; exact hc) (fun c xs hc => by rw [del_ne (at_ne ea hc exo_tup)]; exact hc)
  have J : Inv X pins σ (del H2 a) ⟨G, g2, d2, t2, os2⟩ := I1.call' (ch := []) ho U hok3 hb (fun b z => absurd z (by simp))
  refine ⟨a, _, _, ⟨G, g2, d2, t2, os2⟩, _, .ref C, none, rfl, J, fun b o z => ?_, ge, hoe, ⟨rfl, rfl⟩, rfl, rfl, del_same, rfl, hb, T, q⟩
  by_cases hba : b = a
  · rw [hba, ge] at z
    cases z
  · exact (gk b hba).symm.trans z
theorem pmk_oex0 {CX : CXT} {x : Str} {p pos : Pos} {C fI : Addr} {k : Nat} {fd : FuncData} {ps : List Str} {sp : Sp} {ds : List Value} {dvs : List V} (T : OexC X.K C) (iC : PySem.W.findIn X.K (.ref C) "__init__" = some (some (.ref fI))) (tI : PySem.W.typeIn X.K (.ref fI) = some (.type "function"))
    (F1 : FnOk X.prog X.w X.K X.mg X.base CX k fI fd ps sp) (hr : Room (k + 1) X.A) (hb : Binds X.K fd ps ds) (hd : Vals dvs ds) (hx : Passes CX X (fun _ _ _ => False)) (hg : Gl X x) (hm : X.mg x = some (.ref C))
    (hdb : (x == ("__debug__" : Str)) = false) :
    PMk X (.Call (.Name x p) [] [] pos) (tMkO0 C sp dvs) := by
  intro pins s σ H1 Q I1 q1
  obtain ⟨nm, q, N, bs, bm, sn, sub, ab, col, dd, k0, k1, k2, k3, k5, hC, hbm⟩ := T.cls
  refine wpAny_Call_Name_kw (ld_glob I1 hg hm ?_ hdb)
  refine PySem.W.callWith_K0 I1.kIn T.kC ?_
  show wpAny _ _ (call (.ref C) []) _ _ _
  obtain ⟨hp, g, dr, tk, os⟩ := s
  have hsz : hp.objs.size ≤ hp.objs.size + 1 := Nat.le_succ _
  have hn : H1 (hp.objs.size + 1) = none := I1.hok.fresh hsz
  have hq := q1 (hp.objs.size + 1) hn
  have kk : ∀ b o, hp.get? b = some o → ((hp.push (PySem.W.kdv_tup [])).push (PySem.HandSPX.excO C hp.objs.size)).get? b = some o := fun b o e => Heap.get?_push_of_some _ (Heap.get?_push_of_some _ e)
  have hget : ((hp.push (PySem.W.kdv_tup [])).push (PySem.HandSPX.excO C hp.objs.size)).get? (hp.objs.size + 1) = some (PySem.HandSPX.excO C hp.objs.size) := by heap_get
  have I2 : Inv X pins σ (upd H1 (hp.objs.size + 1) (exo (hp.objs.size + 1) C none)) ⟨(hp.push (PySem.W.kdv_tup [])).push (PySem.HandSPX.excO C hp.objs.size), g, dr, tk, os⟩ :=
    I1.laid (t' := tk) (a := hp.objs.size + 1) (o := exo (hp.objs.size + 1) C none) (h' := (hp.push (PySem.W.kdv_tup [])).push (PySem.HandSPX.excO C hp.objs.size)) kk hsz (exo_ok hget)
  have r2 : Vals (V.ref (hp.objs.size + 1) :: dvs) (Value.ref (hp.objs.size + 1) :: ds) := .cons rfl hd
  have hl : (Value.ref (hp.objs.size + 1) :: ds).length = ps.length := by
    have e := r2.length
    rw [F1.len _ _ _ _ hq] at e
    exact e.symm
  refine wpAny_call (PySem.HandSPX.call_own F.excBase_ValueError (fun Y => PySem.HandSPX.refsVE_contains Y bm hbm) (I1.kIn _ _ hC) (PySem.W.looks_findIn I1.kIn iC) (fun self => PySem.W.bind_fn I1.kIn self tI) (Nat.zero_le _)
    (codeAny_mono (F1.run _ X.stack _ _ ⟨[Value.ref (hp.objs.size + 1)], []⟩ (Value.ref (hp.objs.size + 1) :: ds) _ _ (fun _ _ _ => False) (hr.make C [] []) (I2.env0.make C [] []) (hb _ [Value.ref (hp.objs.size + 1)] I2.kIn hl) r2 hq) fun r s' hq' => ?_))
  cases r with
  | error er => exact hx pins σ _ _ er s' I2 hq'
  | ok fl =>
    cases fl with
    | ret u =>
      obtain ⟨v, H2, os2, bare2, un2, hok2, rv, ev, ea, q2⟩ := hq'
      subst ev
      obtain ⟨h2, g2, d2, t2, os'⟩ := s'
      exact ⟨rv, mk_endN (raises_own T.exC T.tyC) I1 hsz kk un2 hok2 os2 bare2 ea q2⟩
    | next => exact False.elim hq'
    | brk => exact False.elim hq'
    | cont => exact False.elim hq'
end
end DL

/-! DX2: clauses with and without a name, one behind another; isinstance of what is held. -/
namespace DL
open PySem PySem.Spec L2 PyProof.Rows
/-- the name of a clause goes behind its suite -/
def dropN (D : Ends) : Option Nat → Ends
  | none => D
  | some i => { nx := fun σ' H' => D.nx (σ'.set i none) H', rt := D.rt, bk := fun σ' H' => D.bk (σ'.set i none) H', ct := fun σ' H' => D.ct (σ'.set i none) H' }
def putN (σ : L2.St) (a : Addr) : Option Nat → L2.St
  | none => σ
  | some i => σ.set i (some (.ref a))
abbrev Hand := Value × Option Nat × (Addr → Value → Option Addr → TS)
/-- what clauses wish of an error of the body -/
def wHand (K : PySem.W.Frag) (Wout : WX) (D : Ends) : List Hand → WX
  | [] => Wout
  | (c, i, ts) :: r => fun cls d σ H => ∃ b, PySem.W.exmOne K cls c = some b ∧ (b = true → ∀ a, H a = none → ts a cls d (dropN D i) (putN σ a i) H) ∧ (b = false → wHand K Wout D r cls d σ H)
inductive HandsOk (X : Cx) : List ExceptHandler → List Hand → Prop
  | nil : HandsOk X [] []
  | cons {x : Str} {c : Value} {ts : Addr → Value → Option Addr → TS} {b₀ : Stmt} {suite : List Stmt} {np pos' : Pos} {hds : List ExceptHandler} {l : List Hand} {nm : Option Str} {i : Option Nat} (hc : Names X x c)
      (hn : ∀ n, nm = some n → ∃ j, i = some j ∧ X.N[j]? = some n ∧ X.env.kindOf n = some .local) (hn0 : nm = none → i = none)
      (hsu : ∀ (a : Addr) (oe : Obj) (cls : Value) (d : Option Addr) (pn : List (Addr × Obj)), Zc cls d oe → (∃ vs, oe.data = .fields vs) → PSs (X.suite a ((a, oe) :: pn)) (b₀ :: suite) (ts a cls d)) (r : HandsOk X hds l) :
      HandsOk X (.ExceptHandler (some (.Name x np)) nm (b₀ :: suite) pos' :: hds) ((c, i, ts) :: l)
section
variable {X : Cx} {body : List Stmt} {h₀ : ExceptHandler} {hds : List ExceptHandler} {l : List Hand} {pos : Pos} {tb : WX → TS} {Wout : WX}
theorem ps_tryN (hs : X.stack = X.env :: X.outer) (hf : X.env.frame = some X.env.locals) (hN : X.N.Nodup) (tk : Takes X Wout)
    (hb : ∀ (W : WX) (pn : List (Addr × Obj)) (xe : Value → Shared → Prop), Takes (X.tr pn xe) W → PassesOwn (model X.prog X.w) X.A X.env xe → PSs (X.tr pn xe) body (tb W))
    (hh : HandsOk X (h₀ :: hds) l) : PS X (.Try body (h₀ :: hds) [] [] pos) (fun D σ H => tb (wHand X.K Wout D l) D σ H) := by
  refine ⟨fun pins s σ H D I h => ?_⟩
  have ok := I.ok
  have hfr : X.A.frames = some (X.env :: X.outer) := by rw [ok.frames, hs]
  refine wpAny_Try_except ?_
  refine wpAny_mono ((hb (wHand X.K Wout D l) (X.pn ++ pins) (fun e s₁ => wpAny (model X.prog X.w) X.A (noteFrame e X.env) (fun _ s₂ => wpAny (model X.prog X.w) X.A (setFlight e none) (fun _ s₃ =>
    wpAny (model X.prog X.w) X.A (handleBy e X.env (h₀ :: hds)) (SP X pins D) X.xe s₃) X.xe s₂) X.xe s₁) (fun u s' xx => ?_) PassesOwn.looking).run [] s σ H D (I.toTry _) h) (fun f s1 hsp => ?_) (fun e s1 he => he)
  · obtain ⟨a, B, sI, pins', σ', H', cls, d, rfl, J', nb, up, sky, na, os, ag, w⟩ := xx
    have J : Inv X pins σ' H' sI := J'.ofTry ok
    have sky' : Sky B (X.env :: X.outer) a (Zc cls d) X.env.locals s'.heap := by rw [← hs]; exact sky
    show wpAny (model X.prog X.w) X.A (noteFrame (.ref a) X.env) _ _ _
    refine Sky.land Zc.steady hfr hf sky' fun h3 fl3 up3 => ?_
    have J3 : Inv X pins σ' H' { s' with heap := h3 } := J.landed nb fl3.1 (up.trans up3) os ag
    obtain ⟨oe3, vs3, he3, hz3, hd3⟩ := fl3.there
    have nfr : a ∉ frs (X.env :: X.outer) := fun hm => by
      obtain ⟨_, o', e', hnf⟩ := fl3.2.2.1.mem hm
      rw [he3] at e'; cases e'
      exact hnf _ hd3
    have nL : a ≠ X.env.locals := fun z => nfr (List.mem_filterMap.mpr ⟨X.env, List.mem_cons_self, by rw [hf, z]⟩)
    have nF : a ∉ X.fs := fun hm => by
      obtain ⟨e, he, q⟩ := List.mem_filterMap.mp hm
      exact nfr (List.mem_filterMap.mpr ⟨e, List.mem_cons_of_mem _ he, q⟩)
    have S3 := J3.suite he3 hd3 na nL nF
    have go : ∀ {hds' : List ExceptHandler} {l' : List Hand}, HandsOk X hds' l' → wHand X.K Wout D l' cls d σ' H' →
        wpAny (model X.prog X.w) X.A (handleBy (.ref a) X.env hds') (SP X pins D) X.xe { s' with heap := h3 } := by
      intro hds' l' hk
      induction hk with
      | nil =>
        intro w
        refine wpAny_handleBy_nil ?_
        obtain ⟨k1, k2, k3, oe, vs, T, oT, ts', he, hz, hd, h1, hr⟩ := id fl3
        unfold PySem.passOn
        refine wpAny_bind (wpAny_field he hd h1 ?_)
        rw [if_neg (show ¬ ((Value.ref T == Value.none) = true) from by simp)]
        have fin : wpAny (model X.prog X.w) X.A (setFlight (.ref a) X.env.frame) (fun _ s4 => wpAny (model X.prog X.w) X.A (throw (.ref a) : Sem Flow) (SP X pins D) X.xe s4) X.xe { s' with heap := h3 } := by
          rw [hf]
          refine HandSPX.setFlight_upZ fl3 fun h4 hh4 up4 => wpAny_throw (tk _ _ ?_)
          exact ⟨a, B, sI, pins, σ', H', cls, d, rfl, J, nb, (up.trans up3).trans up4, .inr (.inr (by rw [hs]; exact hh4)), na, os, ag, w⟩
        first
          | exact wpAny_bind (wpAny_pure (wpAny_bind fin))
          | exact wpAny_bind fin
      | @cons x c ts b₀ suite np pos' hds2 l2 nm i hc hn hn0 hsu r ih =>
        intro w
        obtain ⟨b, hb1, hyes, hno⟩ := w
        refine wpAny_handleBy_cons (codeAny_handlers_test ?_) (by intro q; cases q)
        have LT : PySem.W.Looks (model X.prog X.w) h3 (typeOf (.ref a)) cls := fun A Q E s k q => wpAny_typeOf_ref (k _ _ he3) (by rw [hz3.1]; exact q)
        have LM := PySem.W.exm_one (M := model X.prog X.w) (J3.kIn) LT hb1
        have test : ∀ {Q : Value → Shared → Prop} {E : Value → Shared → Prop}, Q c { s' with heap := h3 } → wpAny (model X.prog X.w) (X.A.mark (some (.ref a))) (eval (.Name x np) X.env) Q E { s' with heap := h3 } := fun {Q E} q => by
          obtain ⟨hg, hdbg, hm | ⟨hm, hv, hnn⟩⟩ := hc
          · exact ld_glob (X := X.suite a ((a, oe3) :: (X.pn ++ pins))) S3 hg hm q hdbg
          · exact ld_blt (X := X.suite a ((a, oe3) :: (X.pn ++ pins))) S3 hg hm hv q hnn hdbg
        refine test (LM.here ?_)
        cases b with
        | false =>
          show wpAny _ X.A (handleBy (.ref a) X.env hds2) _ _ _
          exact ih (hno rfl)
        | true =>
          cases nm with
          | none =>
            obtain rfl := hn0 rfl
            refine codeAny_handlers_suite ?_
            refine HandSPX.lands_againZ fl3 fun h4 fl4 up4 => ?_
            have J4 : Inv X pins σ' H' { s' with heap := h4 } := J.landed nb fl4.1 ((up.trans up3).trans up4) os ag
            obtain ⟨oe4, vs4, he4, hz4, hd4⟩ := fl4.there
            have S4 := J4.suite he4 hd4 na nL nF
            refine wpAny_mono ((hsu a oe4 cls d (X.pn ++ pins) hz4 ⟨_, hd4⟩).run [] _ _ H' _ S4 (hyes rfl a na)) (fun f s6 hsp => ?_) (fun _ _ z => False.elim z)
            cases f with
            | ret u =>
              obtain ⟨v6, σ6, H6, S6, r6, q6⟩ := hsp
              exact ⟨_, _, _, S6.unsuite ok, r6, q6⟩
            | _ =>
              obtain ⟨σ6, H6, S6, q6⟩ := hsp
              exact ⟨_, _, S6.unsuite ok, q6⟩
          | some n =>
            obtain ⟨j, rfl, hi, hln⟩ := hn n rfl
            have hloc : Loc X.env.scope n := .inl hln
            refine codeAny_handlers_suite_as ?_
            refine HandSPX.lands_againZ fl3 fun h4 fl4 up4 => ?_
            have J4 : Inv X pins σ' H' { s' with heap := h4 } := J.landed nb fl4.1 ((up.trans up3).trans up4) os ag
            obtain ⟨oe4, vs4, he4, hz4, hd4⟩ := fl4.there
            have S4 := J4.suite he4 hd4 na nL nF
            refine store_ok (X := X.suite a ((a, oe4) :: (X.pn ++ pins))) (v := .ref a) S4 hN hi hloc rfl (fun s5 S5 => ?_) (.inr hln)
            refine wpAny_mono ((hsu a oe4 cls d (X.pn ++ pins) hz4 ⟨_, hd4⟩).run [] s5 _ H' _ S5 (hyes rfl a na)) (fun f s6 hsp => ?_) (fun _ _ z => False.elim z)
            have end_ : ∀ {σ6 : L2.St} {H6 : Hp} {Q : Shared → Prop}, Inv (X.suite a ((a, oe4) :: (X.pn ++ pins))) [] σ6 H6 s6 → (∀ s7, Inv X pins (σ6.set j none) H6 s7 → Q s7) →
                wpAny (model X.prog X.w) X.A (do bindName X.env n .none; unbindBehindTheSuite X.env n pos') (fun _ s7 => Q s7) X.xe s6 := fun {σ6 H6 Q} S6 hq => gone_ok (S6.unsuite ok) hN hi hln hq
            cases f with
            | ret u =>
              obtain ⟨v6, σ6, H6, S6, r6, q6⟩ := hsp
              exact end_ S6 fun s7 J7 => ⟨_, _, _, J7, r6, q6⟩
            | _ =>
              obtain ⟨σ6, H6, S6, q6⟩ := hsp
              exact end_ S6 fun s7 J7 => ⟨_, _, J7, q6⟩
    exact go hh w
  · cases f with
    | ret u =>
      obtain ⟨v, σ', H', J', r, q⟩ := hsp
      exact ⟨v, σ', H', J'.ofTry ok, r, q⟩
    | next =>
      obtain ⟨σ', H', J', q⟩ := hsp
      exact wpAny_execs_nil ⟨σ', H', J'.ofTry ok, q⟩
    | _ =>
      obtain ⟨σ', H', J', q⟩ := hsp
      exact ⟨σ', H', J'.ofTry ok, q⟩
end
/-! ### isinstance of what the suite holds -/
section
variable {X : Cx} {a D : Addr} {oe : Obj} {d : Option Addr} {pn : List (Addr × Obj)}
/-- its dict, where it has one, is an error's dict -/
def dicOk (H : Hp) : Option Addr → Prop
  | none => True
  | some dd => ∃ fs, H dd = some (.xd fs)
theorem inst_exc {pins : List (Addr × Obj)} {σ : L2.St} {H : Hp} {s : Shared} (I : Inv (X.suite a ((a, oe) :: pn)) pins σ H s) (hz : Zc (.ref D) d oe) (hf : ∃ vs, oe.data = .fields vs) (hd : dicOk H d) : ∃ od, PySem.W.InstAt s.heap a oe D od := by
  obtain ⟨hget, _⟩ := I.pin (a, oe) (List.mem_append.mpr (.inl List.mem_cons_self))
  obtain ⟨vs, hv⟩ := hf
  cases d with
  | none =>
    obtain ⟨oc, od, oda, osl⟩ := oe
    obtain ⟨h1, h2⟩ := hz
    dsimp only at h1 h2 hv
    subst h1 h2 hv
    exact ⟨none, hget, rfl, rfl, trivial⟩
  | some dd =>
    obtain ⟨fs, ea⟩ := hd
    have hx : ObjOk X.prog X.w H s.heap dd (.xd fs) := I.hok dd _ ea
    obtain ⟨mA, hns, hr⟩ := hx
    obtain ⟨od, ho, hl⟩ := lookIn_ns hns
    exact ⟨some od, hget, hz.1, by unfold PySem.W.notCls; rw [hv] <;> rfl, by rw [hz.2]; exact ho⟩
/-- one class -/
def rIs1 (K : PySem.W.Frag) (D a : Addr) (d : Option Addr) : List V → Hp → VK → Prop := fun xs H Q => ∃ (c : V) (u : Value) (b : Bool), xs = [.ref a, c] ∧ dicOk H d ∧ ClsV c u ∧ PySem.W.kitOne K (.ref D) u = some b ∧ Q (.bl b) H
theorem call_is1 (C : ExcQ X.K D) (hz : Zc (.ref D) d oe) (hf : ∃ vs, oe.data = .fields vs) : CallR (X.suite a ((a, oe) :: pn)) (.builtin "isinstance") (rIs1 X.K D a d) := by
  intro pins s σ H xs us Q I r h
  obtain ⟨c, u, b, rfl, hd, k, e, q⟩ := h
  obtain ⟨u1, u2, rfl, r1, r2⟩ := vals2 r
  have e2 := k.eq r2
  subst e2
  cases (show u1 = Value.ref a from r1)
  obtain ⟨od, J⟩ := inst_exc I hz hf hd
  exact PySem.W.kia_one (PySem.W.kitx_exc (has_cls C.hd) C.hg C.hk C.hs C.ha C.hn C.ht C.hm) I.kIn J e (fun z => nomatch z) fun tk => ⟨.bl b, H, I.tok tk, rfl, q⟩
/-- a row of classes -/
def rIsN (K : PySem.W.Frag) (D a : Addr) (d : Option Addr) : List V → Hp → VK → Prop := fun xs H Q => ∃ (tp : Addr) (cs : List V) (us : List Value) (b : Bool), xs = [.ref a, .ref tp] ∧ dicOk H d ∧ H tp = some (.tup cs) ∧ Paired ClsV cs us ∧ PySem.W.kitAny K (.ref D) us = some b ∧ Q (.bl b) H
theorem call_isN (C : ExcQ X.K D) (hz : Zc (.ref D) d oe) (hf : ∃ vs, oe.data = .fields vs) : CallR (X.suite a ((a, oe) :: pn)) (.builtin "isinstance") (rIsN X.K D a d) := by
  intro pins s σ H xs us Q I r h
  obtain ⟨tp, cs, ws, b, rfl, hd, hT, k, e, q⟩ := h
  obtain ⟨u1, u2, rfl, r1, r2⟩ := vals2 r
  cases (show u2 = Value.ref tp from r2)
  cases (show u1 = Value.ref a from r1)
  obtain ⟨od, J⟩ := inst_exc I hz hf hd
  obtain ⟨_, its, rv, o, h1, h2, n, h3⟩ := (show ObjOk X.prog X.w H s.heap tp (.tup cs) from I.hok tp _ hT)
  have e3 := ClsV.all k rv
  subst e3
  obtain ⟨oc, od, dt, sl⟩ := o
  simp only at h2 h3
  subst h2 h3
  exact PySem.W.kia_tup (PySem.W.kitx_exc (has_cls C.hd) C.hg C.hk C.hs C.ha C.hn C.ht C.hm) I.kIn J h1 e (fun z => nomatch z) fun tk => ⟨.bl b, H, I.tok tk, rfl, q⟩
end
end DL

/-! DG1: promises that are kept where no guard stands below (so that repr of data can be told). -/
namespace DL
open PySem PySem.Spec L2 PyProof.Rows
structure RoomG (k : Nat) (A : Around) : Prop where
  r : Room k A
  g : A.guards = some []
theorem RoomG.mono {j k : Nat} {A : Around} (h : RoomG k A) (q : j ≤ k) : RoomG j A := ⟨h.r.mono q, h.g⟩
theorem RoomG.deeper {k : Nat} {A : Around} (h : RoomG (k + 1) A) (env : Env) : RoomG k (A.deeper env) := ⟨h.r.deeper env, h.g⟩
theorem make_guards {A : Around} {C : Addr} {us : List Value} {kw : List (Str × Value)} (h : A.guards = some []) : (A.under (.builtin "type.__call__" ⟨.ref C :: us, kw⟩)).guards = some [] := by
  simp [Around.under, pushGuards_eq, Code.guards, Code.isGuard, guardIds, h]
theorem RoomG.make {k : Nat} {A : Around} (h : RoomG (k + 1) A) (C : Addr) (us : List Value) (kw : List (Str × Value)) : RoomG k (A.under (.builtin "type.__call__" ⟨.ref C :: us, kw⟩)) := ⟨h.r.make C us kw, make_guards h.g⟩
/-- a def's promise there -/
structure FnG (P : Program) (w : World) (K : PySem.W.Frag) (mg : Str → Option Value) (base : Heap) (CX : CXT) (k : Nat) (f : Addr) (fd : FuncData) (ps : List Str) (sp : Sp) : Prop where
  len : ∀ vs H Q E, sp vs H Q E → vs.length = ps.length
  run : ∀ A outer s H args us vs Q E, RoomG k A → Env0 P w K mg base A outer s H → BindsTo s fd args (ps.zip us) → Vals vs us → sp vs H Q E → codeAny (model P w) A (.call (.ref f) args) (CR CX outer P w H s Q E) s
section
variable {P : Program} {w : World} {K : PySem.W.Frag} {mg : Str → Option Value} {base : Heap} {CX : CXT} {j k : Nat} {f : Addr} {fd : FuncData} {ps : List Str} {sp sp' : Sp}
theorem FnG.mono (F : FnG P w K mg base CX j f fd ps sp) (h : j ≤ k) : FnG P w K mg base CX k f fd ps sp := ⟨F.len, fun A o s H a us vs Q E hr => F.run A o s H a us vs Q E (hr.mono h)⟩
theorem FnG.imp (F : FnG P w K mg base CX k f fd ps sp) (h : ∀ vs H Q E, sp' vs H Q E → sp vs H Q E) : FnG P w K mg base CX k f fd ps sp' :=
  ⟨fun vs H Q E q => F.len vs H Q E (h vs H Q E q), fun A o s H a us vs Q E hr he hb hv hs => F.run A o s H a us vs Q E hr he hb hv (h vs H Q E hs)⟩
theorem FnG.of (F : FnOk P w K mg base CX k f fd ps sp) : FnG P w K mg base CX k f fd ps sp := ⟨F.len, fun A o s H a us vs Q E hr => F.run A o s H a us vs Q E hr.r⟩
theorem FunD.okG {x qual : Str} {params : Arguments} {body : List Stmt} {scope : Scope} {dvs : List V} {kws : List (Str × V)} {N : List Str} (F : FunD K x qual params body scope dvs kws f fd) (S : FnScope N ps scope) (len : ∀ vs H Q E, sp vs H Q E → vs.length = ps.length)
    (hbody : ∀ (cdv : Value) (A : Around) (outer : List Env) (s : Shared) (H : Hp) (vs : List V) (Q : VK) (E : XK), RoomG k (A.deeper (envOfC qual scope s.heap.objs.size f cdv)) → sp vs H Q E →
      ∃ t, PSs (cxOf CX P w K mg base N qual scope f cdv A outer s H E) body t ∧ t { nx := fun _ H' => Q .non H', rt := Q } (start N vs) H) : FnG P w K mg base CX (k + 1) f fd ps sp := by
  obtain ⟨oc, od, dV, kV, doc, pm, an, cdv, ct, osl, rfl, lk, hcd, _, _⟩ := F.ex
  refine ⟨len, fun A outer s H args us vs Q E hr e0 hb rv hs => ?_⟩
  have inK : K.In s.heap := e0.mod.kin.keeps fun b o e => (e0.bs b o e).1
  have noL : s.heap.NoLimit := e0.mod.nolimit.keeps fun b o e => (e0.bs b o e).1
  have kinds : ∀ y ∈ ps.zip us, scope.names.lookup y.1 = some .local ∨ (scope.names.lookup y.1 = some .cell ∧ ((cellsFrom (s.heap.objs.size + 1) scope.names []).lookup y.1).isSome = true) := by
    rintro ⟨n, v⟩ hy
    exact (S.par n (List.of_mem_zip hy).1).imp id fun q => ⟨q, PySem.W.cellsFrom_some _ _ _ (.inl q)⟩
  refine codeAny_call_function hr.r.depth (inK f _ lk) rfl S.co S.gen rfl (PySem.W.codeRec_of inK hcd) (hb _ _ _ _ (wpAny_newFunctionEnv_cells S.kind kinds fun env he s1 x => ?_))
  subst he
  obtain ⟨t, ht, hq⟩ := hbody cdv A outer s H vs Q E (hr.deeper _) hs
  have J := inv_start (CX := CX) (P := P) (w := w) (f := f) (cd := cdv) (E := E) (A := A) (qual := qual) S hr.r.hd e0 (len _ _ _ _ hs) rv x
  refine ⟨noL.keeps x.toInCall.keep, codeAny_func (wpAny_mono (ht.run [] s1 (start N vs) H _ J hq) (fun fl s' h => ?_) fun e s' h => h)⟩
  have tell : ∀ {σ' : L2.St} {H' : Hp} {v : V} {u : Value}, Inv (cxOf CX P w K mg base N qual scope f cdv A outer s H E) [] σ' H' s' → RelV v u → Q v H' → CE outer P w H s Q u s' := fun {σ' H' v u} J rv q => ⟨v, H', J.os, J.bare, J.base, J.hok, rv, q⟩
  cases fl with
  | ret u => obtain ⟨v, σ', H', J, rv, q⟩ := h; exact tell J rv q
  | next => obtain ⟨σ', H', J, q⟩ := h; exact tell (v := .non) (u := .none) J rfl q
  | brk => obtain ⟨_, _, _, z⟩ := h; exact z.elim
  | cont => obtain ⟨_, _, _, z⟩ := h; exact z.elim
end
section
variable {X : Cx} {CX : CXT} {k : Nat} {f C : Addr} {fd : FuncData} {ps : List Str} {sp : Sp} {dvs : List V} {ds : List Value} {E : L2.St → XK} {x m : Str} {p pos apos : Pos} {e o : Expr} {es : List Expr} {ta : TE} {t : TA}
/-- the callee runs -/
theorem run_g {pins : List (Addr × Obj)} {σ : L2.St} {H : Hp} {s : Shared} {Q : VK} {us : List Value} {vs : List V} {E : XK} (F : FnG X.prog X.w X.K X.mg X.base CX k f fd ps sp) (hr : RoomG k X.A) (hb : Binds X.K fd ps ds) (hd : Vals dvs ds) (hx : PassesAt CX X σ E)
    (I : Inv X pins σ H s) (r : Vals vs us) (h : sp (vs ++ dvs) H Q E) : wpAny (model X.prog X.w) X.A (call (.ref f) us) (EP X pins σ Q) X.xe s := by
  have both := r.append hd
  have ln := F.len _ _ _ _ h
  rw [both.length] at ln
  refine wpAny_call (codeAny_mono (F.run X.A X.stack s H ⟨us, []⟩ (us ++ ds) (vs ++ dvs) Q E hr I.env0 (hb s us I.kIn ln) both h) ?_)
  rintro (e | fl) s' q
  · exact hx pins H s e s' I q
  · cases fl
    case ret u => exact I.after q
    all_goals exact (show False from q).elim
theorem pe_callG (F : FnG X.prog X.w X.K X.mg X.base CX k f fd ps sp) (hr : RoomG k X.A) (hg : Gl X x) (hm : X.mg x = some (.ref f)) (hk : PySem.W.keepIn X.K (.ref f) = true) (hb : Binds X.K fd ps ds) (hd : Vals dvs ds) (hx : ∀ σ, PassesAt CX X σ (E σ))
    (ha : PA X (e :: es) t) (hdb : (x == ("__debug__" : Str)) = false) (he : starEach (e :: es) X.env = (false, eval e X.env) :: starEach es X.env) (hpl : (backTo pos (starEach es X.env)).any (·.1) = false) :
    PE X (.Call (.Name x p) (e :: es) [] pos) (tCallSD sp dvs E t) := ⟨fun pins s σ H Q I h => wpAny_Call_Name_kw (ld_glob I hg hm
    (PySem.W.callWith_K (h₀ := X.base) I.ok.mod.kin hk (thn (ha.run pos pins s σ H _ I h) fun us s1 ⟨vs, H1, I1, r, q⟩ => ⟨I1.kIn, run_g F hr hb hd (hx σ) I1 r q⟩) he hpl) hdb)⟩
end
end DL

/-! DG2: a law's end from a promise that is kept where no guard stands below. -/
namespace DL
open PySem PySem.Spec L2 PyProof.Rows
section
variable {P : Program} {w : World} {K : PySem.W.Frag} {mg mb : Str → Option Value} {k : Nat} {fa a : Addr} {fd : FuncData} {x : Str} {sp : Sp} {s : Shared} {vs : List Value} {ns : List Int}
/-- the wanted end of the law's call -/
abbrev Kept1 (h : Heap) (os : OsState) (r : Result) (s' : Shared) : Prop := r = .ok (.ret (.bool true)) ∧ OldK h s'.heap ∧ s'.os = os ∧ AllBare s'.gens
theorem ends_core (KX : K.In s.heap) (hns : s.heap.Ns mainGlobals mg) (hb : s.heap.Ns builtinsNs mb) (hbb : ∀ x : Str, x ≠ "__name__" → mb x = bootBuiltins x) (hlim : s.heap.NoLimit) (hg : s.gens = #[])
    (ha : s.heap.get? a = some { cls := .type "list", data := .seq vs.toArray }) (hr : Room k callerA)
    (F : ∀ base : Heap, K.In base → base.Ns mainGlobals mg → FnG P w K mg base CX0 k fa fd [x] sp) (hbind : ∀ (s : Shared) (u : Value), BindsTo s fd ⟨[u], []⟩ [(x, u)])
    (H : Hp) (hO : Only H) (hsp : sp [.ref a] H (fun v _ => v = .bl true) fun _ _ _ => False) (hok : HOk P w H s.heap) (hA : ∀ b, H b ≠ none → b = a) (hK : H a ≠ none → K.lookup a = none) :
    codeAny (model P w) callerA (.call (.ref fa) ⟨[.ref a], []⟩) (Kept1 s.heap s.os) s := by
  have free : ∀ b : Addr, b ≠ a → H b = none := fun b hne => Classical.byContradiction fun z => hne (hA b z)
  have seen : ∀ {b : Addr} {o : Obj}, s.heap.get? b = some o → b ≠ a ∨ H b = none → (hidT s.heap H).get? b = some o := fun e n => hidT_get e (n.elim (free _) id)
  have names : ∀ {b : Addr} {m : Str → Option Value}, s.heap.Ns b m → (hidT s.heap H).Ns b m := by
    rintro b m ⟨o, es, ep, e, d, r⟩
    refine ⟨o, es, ep, seen e (.inl ?_), d, r⟩
    rintro rfl
    rw [ha] at e
    cases e
    cases d
  have inK : K.In (hidT s.heap H) := fun b o e => seen (KX b o e) (by
    by_cases hba : b = a
    · subst hba
      refine .inr (Classical.byContradiction fun z => ?_)
      rw [hK z] at e
      cases e
    · exact .inl hba)
  obtain ⟨mc, l1, l2⟩ := hlim
  have env : Env0 P w K mg (hidT s.heap H) callerA [] s H :=
    ⟨rfl, ⟨inK, names hns, ⟨mb, names hb, hbb⟩, mc, names l1, l2⟩, fun b o e => of_hidT e, Nat.le_of_eq (hidT_size s.heap H), trivial, fun b z => (List.not_mem_nil z).elim, hok, .of_eq hg⟩
  have main := (F _ inK (names hns)).run callerA [] s H ⟨[.ref a], []⟩ [.ref a] [.ref a] _ _ ⟨hr, rfl⟩ env (hbind s (.ref a)) (.cons rfl .nil) hsp
  refine codeAny_mono main ?_
  rintro (e | fl) s' q
  · exact (show False from q).elim
  · cases fl
    case ret u =>
      obtain ⟨v, H', os, bare, un, ok', rv, rfl⟩ := (show CE _ _ _ _ _ _ _ _ from q)
      obtain rfl : u = Value.bool true := rv
      refine ⟨rfl, OldK.of_keep fun b o e => ?_, os, bare⟩
      rcases hO b with z | ⟨o2, xs, z⟩
      · exact un.keep b o e z (fun z => (List.not_mem_nil z).elim) (fun z => (List.not_mem_nil z).elim)
      · have h1 := (hok b _ z).1
        rw [e] at h1
        cases h1
        exact (ok' b _ (un.frzs b o _ z)).1
    all_goals exact (show False from q).elim
theorem ends_call (KX : K.In s.heap) (hns : s.heap.Ns mainGlobals mg) (hb : s.heap.Ns builtinsNs mb) (hbb : ∀ x : Str, x ≠ "__name__" → mb x = bootBuiltins x) (hlim : s.heap.NoLimit) (hg : s.gens = #[])
    (ha : s.heap.get? a = some { cls := .type "list", data := .seq vs.toArray }) (hi : IntsAre vs ns) (hl : ns.length ≤ sizeLine) (hr : Room k callerA)
    (F : ∀ base : Heap, K.In base → base.Ns mainGlobals mg → FnG P w K mg base CX0 k fa fd [x] sp) (hbind : ∀ (s : Shared) (u : Value), BindsTo s fd ⟨[u], []⟩ [(x, u)])
    (hsp : ∀ H : Hp, Only H → SqL K H a (ns.map V.int) → sp [.ref a] H (fun v _ => v = .bl true) fun _ _ _ => False) :
    codeAny (model P w) callerA (.call (.ref fa) ⟨[.ref a], []⟩) (Kept1 s.heap s.os) s := by
  have rv := vals_ints hi
  have ln : (ns.map V.int).length = vs.length := rv.length
  by_cases hk : K.lookup a = none
  · let o : Obj := { cls := .type "list", data := .seq vs.toArray }
    have at_a : ∀ b, b = a ∨ (if b = a then some (HO.frz o (.lst (ns.map V.int))) else none) = none := fun b => (Classical.em (b = a)).imp id fun h => if_neg h
    have only : Only fun b => if b = a then some (HO.frz o (.lst (ns.map V.int))) else none := fun b => (Classical.em (b = a)).elim (fun h => .inr ⟨o, _, if_pos h⟩) fun h => .inl (if_neg h)
    refine ends_core KX hns hb hbb hlim hg ha hr F hbind (fun b => if b = a then some (HO.frz o (.lst (ns.map V.int))) else none) only (hsp _ only (.inl (.inr ⟨o, if_pos rfl⟩))) ?_ (fun b z => (at_a b).elim id fun h => absurd h z) fun _ => hk
    intro b u z
    rcases at_a b with rfl | h
    · have z2 := (if_pos rfl).symm.trans z
      cases z2
      exact ⟨ha, by rw [List.length_map]; exact hl, vs, _, rv, ha⟩
    · cases h.symm.trans z
  · obtain ⟨o, ho⟩ := Option.ne_none_iff_exists'.mp hk
    have e := KX a o ho
    rw [ha] at e
    cases e
    refine ends_core KX hns hb hbb hlim hg ha hr F hbind (fun _ => none) (fun _ => .inl rfl) (hsp _ (fun _ => .inl rfl) (.inr ⟨_, vs.toArray, _, ho, rfl, rfl, rfl, ?_, ?_⟩)) (fun b u z => nomatch z) (fun b z => absurd rfl z) fun z => absurd rfl z
    · rw [List.size_toArray, ← ln, List.length_map]; exact hl
    · simpa using rv
end
/-- a law, from such a promise over every base -/
theorem walk_g {l : PySem.W.OpenLaw} {n k : Nat} {q : Program} {loose : List Str} {XP : (Str → Option Value) → Heap → Prop} {YP : World → Heap → Prop} {d : DefRec} {x : Str}
    (hn : l.most = some n) (hn2 : n ≤ sizeLine) (hdf : d.params.defaults = []) (hr : Room k callerA)
    (F : ∀ (w : World) (mg : Str → Option Value) (fa : Addr) (h : Heap), YP w h → h.Ns mainGlobals mg → mg d.name = some (.ref fa) →
      ∃ (K : PySem.W.Frag) (fd : FuncData) (sp : Sp), K.In h ∧ (∀ (s : Shared) (u : Value), BindsTo s fd ⟨[u], []⟩ [(x, u)]) ∧
        (∀ (H : Hp) (a : Addr) (ns : List Int), ns.length ≤ n → Only H → SqL K H a (ns.map V.int) → sp [.ref a] H (fun v _ => v = .bl true) fun _ _ _ => False) ∧
        ∀ base : Heap, K.In base → base.Ns mainGlobals mg → FnG l.prog w K mg base CX0 k fa fd [x] sp) :
    PySem.W.WalkO q loose XP YP l.row.toRowW d [] (fun f vs => PySem.call f vs) :=
  Att.attach_call hn hdf fun w _ s₁ mg mb fa _ _ _ _ a vs ns G Y _ _ _ hmg hobj hints hlen hg => by
    obtain ⟨K, fd, sp, KX, hb, hsp, hF⟩ := F w mg fa _ Y G.T.g hmg
    exact ends_call KX G.T.g G.T.b G.T.builtins G.T.nolimit hg hobj hints (Nat.le_trans hlen hn2) hr hF hb fun H hO hS => hsp H a ns hlen hO hS
end DL

/-! DL1: a small syntax without places, and what must hold so that it runs to what is wanted (over data, not the heap). -/
namespace DL
open PySem PySem.Spec L2

abbrev XR := Str → List (Str × D) → MM → Prop
abbrev Spec := List W → MM → (W → MM → Prop) → XR → Prop
/-- what the defs promise: functions, methods, constructors -/
structure Sg where
  fn : Str → Nat → Option Spec
  me : Str → Str → Nat → Option Spec
  nw : Str → Nat → Option Spec
  gl : Str → Option D
  fa : Str → Str → Bool
  /-- error classes: their fields; whether one's errors are of a class -/
  xc : Str → Option (List Str)
  sub : Str → Str → Option Bool
  /-- the error that a suite holds: where, of which class, its dict -/
  ex : Option (Nat × Str × Option Nat)

inductive Bi where
  | len | abs | max | min | list | tuple | sorted | int | sum | all | any | repr
  deriving DecidableEq
inductive Bm where
  | append | pop | extend | join | split | index | indexF | upper | get | clear | reverse
  deriving DecidableEq
inductive Pr where
  | bin (op : Operator) (m : Bool) | neg | cmp (op : CmpOp) | idx | slc (lo hi m : Bool) | rev (m : Bool)
  | tup (f : Bool) | lst (m : Bool) | dnT (m : Bool)
  | fld (f : Str) | bi (f : Bi) (m : Bool) | isi (T : String)
  | call (f : Str) (bs : List Bool) | new (c : Str) (bs : List Bool)
  | exi (Ts : List Str) | exf (f : Str)
inductive Tg where
  | n (i : Nat) | t (is : List Nat)
inductive It where
  | seq | rng
inductive Ex where
  | v (i : Nat) | non | bl (b : Bool) | int (i : Int) | str (s : Str) | gl (x : Str)
  | pr (p : Pr) (es : List Ex) | me (f : Bm) (m : Bool) (o : Ex) (es : List Ex) | mt (m : Str) (bs : List Bool) (o : Ex) (es : List Ex)
  | and (a b : Ex) | or (a b : Ex) | not (a : Ex) | ife (c a b : Ex) | chn (o1 o2 : CmpOp) (a b c : Ex)
  | sl2 (m : Bool) (a b c : Ex) | dk1 (m : Bool) (k v : Ex) | dsp (ks : List Key) (m : Bool) (es : List Ex)
  | lc (tg : Tg) (own : List Nat) (k : It) (its : List Ex) (cs : List Ex) (e : Ex) (m : Bool)
inductive Sx where
  | asg (i : Nat) (e : Ex) | asgT (is : List Nat) (e : Ex) | par (is : List Nat) (es : List Ex)
  | sub (a k e : Ex) | fld (a : Ex) (f : Str) (e : Ex)
  | aug (i : Nat) (op : Operator) (e : Ex)
  | exp (e : Ex) | ret (e : Ex) | retN | ite (c : Ex) (a b : List Sx) | whl (c : Ex) (b : List Sx)
  | fors (tg : Tg) (k : It) (its : List Ex) (b : List Sx)
  | brk | cnt | pss | rse (c : Str) (es : List Ex) | frz (i : Nat)
  | bad | tri (b hs : List Sx) | hnd (c : Str) (i : Option Nat) (s : List Sx)

/-- one of two, by a truth -/
def ifB (c : Bool) (A B : Prop) : Prop := match c with
  | true => A
  | false => B
theorem ifB_iff {c : Bool} {A B : Prop} : ifB c A B ↔ if c = true then A else B := by cases c <;> simp [ifB]
/-! ### data -/
def vw (M : MM) : W → Option D
  | .d x => some x
  | .ref i => match M[i]? with
    | some (some (.lst xs)) => some (.lst xs)
    | some (some (.dct k)) => some (.dct k)
    | some (some (.dctT k)) => some (.dctT k)
    | _ => none
def ap1 (M : MM) : List W → (D → Prop) → Prop
  | [x], k => match vw M x with
    | some a => k a
    | none => False
  | _, _ => False
def ap2 (M : MM) : List W → (D → D → Prop) → Prop
  | [x, y], k => match vw M x, vw M y with
    | some a, some b => k a b
    | _, _ => False
  | _, _ => False
/-- data alone -/
def allD : List W → Option (List D)
  | [] => some []
  | .d x :: r => match allD r with
    | some xs => some (x :: xs)
    | none => none
  | .ref _ :: _ => none
def alloc (m : Bool) (mo : MO) (x : D) (M : MM) (Q : W → MM → Prop) : Prop := match m with
  | true => Q (.ref M.length) (M ++ [some mo])
  | false => Q (.d x) M
abbrev allocL (m : Bool) (xs : List D) (M : MM) (Q : W → MM → Prop) : Prop := alloc m (.lst xs) (.lst xs) M Q
def keyD : D → Option Key
  | .int i => some (.inl i)
  | .str s => some (.inr s)
  | _ => none
def keysD : List D → Option (List Key)
  | [] => some []
  | x :: r => match keyD x, keysD r with
    | some k, some ks => some (k :: ks)
    | _, _ => none
def lookG {κ β : Type} [DecidableEq κ] : List (κ × β) → κ → Option β
  | [], _ => none
  | (j, v) :: r, k => (match decide (j = k) with
    | true => some v
    | false => lookG r k)
theorem lookG_eq {κ β : Type} [DecidableEq κ] : ∀ (kvs : List (κ × β)) (k : κ), lookG kvs k = (kvs.find? fun kv => decide (kv.1 = k)).map (·.2)
  | [], k => rfl
  | (j, v) :: r, k => by
    rw [lookG, List.find?_cons]
    cases h : decide (j = k)
    · exact lookG_eq r k
    · rfl
def putG {κ β : Type} [DecidableEq κ] (kvs : List (κ × β)) (k : κ) (v : β) : List (κ × β) :=
  if (kvs.any fun kv => decide (kv.1 = k)) = true then kvs.map (fun kv => if kv.1 = k then (kv.1, v) else kv) else kvs ++ [(k, v)]
def truD : D → Option Bool
  | .non => some false
  | .bl b => some b
  | .int i => some (i != 0)
  | .str s => if s.length ≤ sizeLine then some ((s.length : Int) != 0) else none
  | .lst xs => some (!xs.isEmpty)
  | .tup xs => some (!xs.isEmpty)
  | _ => none
def truW (M : MM) (x : W) (k : Bool → Prop) : Prop := match vw M x with
  | some d => (match truD d with
    | some b => k b
    | none => False)
  | none => False
mutual
def toPy : D → Option PyData
  | .non => some .none
  | .bl b => some (.bool b)
  | .int i => some (.int i)
  | .str s => some (.str s)
  | .lst xs => match toPys xs with
    | some ys => some (.list ys)
    | none => none
  | .tup xs => match toPys xs with
    | some ys => some (.tuple ys)
    | none => none
  | .tupF xs => match toPys xs with
    | some ys => some (.tuple ys)
    | none => none
  | _ => none
def toPys : List D → Option (List PyData)
  | [] => some []
  | x :: xs => match toPy x, toPys xs with
    | some y, some ys => some (y :: ys)
    | _, _ => none
end
def flatD : D → Bool
  | .non => true
  | .bl _ => true
  | .int _ => true
  | .str _ => true
  | _ => false
def eqF : D → D → Bool
  | .non, .non => true
  | .bl a, .bl b => a == b
  | .bl a, .int b => (if a then 1 else 0) == b
  | .int a, .bl b => a == (if b then 1 else 0)
  | .int a, .int b => a == b
  | .str a, .str b => a == b
  | _, _ => false
/-- == of any data, with its bound of depth -/
@[irreducible] def eqDG (x y : D) (k : Bool → Prop) : Prop := match toPy x, toPy y with
    | some p, some q => p.depth ≤ 64 ∧ q.depth ≤ 64 ∧ k (PyData.eqv p q)
    | _, _ => False
theorem eqDG_def {x y : D} {k : Bool → Prop} : eqDG x y k = (match toPy x, toPy y with
    | some p, some q => p.depth ≤ 64 ∧ q.depth ≤ 64 ∧ k (PyData.eqv p q)
    | _, _ => False) := by unfold eqDG; rfl
theorem eqDG_of {x y : D} {k : Bool → Prop} {p q : PyData} {b : Bool} (h1 : toPy x = some p) (h2 : toPy y = some q) (d1 : p.depth ≤ 64) (d2 : q.depth ≤ 64) (e : PyData.eqv p q = b) (h : k b) : eqDG x y k := by
  rw [eqDG_def, h1, h2]
  exact ⟨d1, d2, by rw [e]; exact h⟩
/-- what there may be -/
@[irreducible] def optK {α : Type} (o : Option α) (k : α → Prop) : Prop := match o with
  | some d => k d
  | none => False
theorem optK_def {α : Type} {o : Option α} {k : α → Prop} : optK o k = (match o with
  | some d => k d
  | none => False) := by unfold optK; rfl
theorem optK_some {α : Type} {o : Option α} {k : α → Prop} {d : α} (h : o = some d) (hk : k d) : optK o k := by rw [optK_def, h]; exact hk
theorem optK_elim {α : Type} {o : Option α} {k : α → Prop} (h : optK o k) : ∃ d, o = some d ∧ k d := by
  rw [optK_def] at h
  cases o with
  | none => exact h.elim
  | some d => exact ⟨d, rfl, h⟩
/-- == of data -/
def eqDD (x y : D) (k : Bool → Prop) : Prop := match x, y with
  | .int a, .int b => k (decide (a = b))
  | .str a, .str b => k (decide (a = b))
  | x, y => eqDG x y k
def inL (x : D) (ys : List D) (k : Bool → Prop) : Prop :=
  ifB (flatD x && ys.all flatD) (k (ys.any fun y => eqF y x)) False
@[irreducible] def inLst (x : D) (ys : List D) (k : Bool → Prop) : Prop := ifB (flatD x && ys.all flatD) (k (ys.any fun y => eqF y x)) (match toPy x, toPys ys with
    | some p, some q => p.depth ≤ 64 ∧ (PyData.list q).depth ≤ 64 ∧ k (q.any fun z => PyData.eqv z p)
    | _, _ => False)
theorem inLst_def {x : D} {ys : List D} {k : Bool → Prop} : inLst x ys k = ifB (flatD x && ys.all flatD) (k (ys.any fun y => eqF y x)) (match toPy x, toPys ys with
    | some p, some q => p.depth ≤ 64 ∧ (PyData.list q).depth ≤ 64 ∧ k (q.any fun z => PyData.eqv z p)
    | _, _ => False) := by unfold inLst; rfl
def inDD (x y : D) (k : Bool → Prop) : Prop := match y with
  | .lst ys => inLst x ys k
  | .tup ys => inL x ys k
  | .tupF ys => inL x ys k
  | .dct kvs => (match keyD x with
    | some q => k (lookG kvs q).isSome
    | none => False)
  | .dctT kvs => (match x with
    | .tup xs => (match keysD xs with
      | some q => k (lookG kvs q).isSome
      | none => False)
    | _ => False)
  | _ => False
def ltDD (x y : D) (k : Bool → Prop) : Prop := match x, y with
  | .int a, .int b => k (decide (a < b))
  | .str a, .str b => k (decide (a.cps.toList < b.cps.toList))
  | _, _ => False
def leDD (x y : D) (k : Bool → Prop) : Prop := match x, y with
  | .int a, .int b => k (decide (a ≤ b))
  | .str a, .str b => k (!decide (b.cps.toList < a.cps.toList))
  | _, _ => False
def cmpD (op : CmpOp) (x y : D) (k : Bool → Prop) : Prop := match op with
  | .Eq => eqDD x y k
  | .NotEq => eqDD x y fun b => k (!b)
  | .Lt => ltDD x y k
  | .LtE => leDD x y k
  | .Gt => ltDD y x k
  | .GtE => leDD y x k
  | .In => inDD x y k
  | .NotIn => inDD x y fun b => k (!b)
  | .Is => (match y with
    | .non => k (match x with | .non => true | _ => false)
    | _ => False)
  | .IsNot => (match y with
    | .non => k (match x with | .non => false | _ => true)
    | _ => False)
def binD (op : Operator) (m : Bool) (x y : D) (M : MM) (Q : W → MM → Prop) : Prop := match op with
  | .Add => (match x, y with
    | .int a, .int b => Q (.d (.int (a + b))) M
    | .str a, .str b => a.length + b.length ≤ sizeLine ∧ Q (.d (.str (a ++ b))) M
    | .lst a, .lst b => a.length + b.length ≤ sizeLine ∧ allocL m (a ++ b) M Q
    | .tup a, .tup b => a.length + b.length ≤ sizeLine ∧ Q (.d (.tup (a ++ b))) M
    | _, _ => False)
  | .Sub => (match x, y with
    | .int a, .int b => Q (.d (.int (a - b))) M
    | _, _ => False)
  | .Mult => (match x, y with
    | .int a, .int b => CMul a b ∧ Q (.d (.int (a * b))) M
    | .tup a, .int b => ((1 ≤ b ∧ b ≤ 1000 ∧ a.length ≤ 1000) ∨ (1 ≤ b ∧ b < 2 ^ 62 ∧ a.length * b.toNat ≤ sizeLine)) ∧ Q (.d (.tup (List.replicate b.toNat a).flatten)) M
    | .lst a, .int b => (-(2 ^ 63) ≤ b ∧ b < 2 ^ 63 ∧ a.length * b.toNat ≤ sizeLine) ∧ allocL m (List.replicate b.toNat a).flatten M Q
    | _, _ => False)
  | .Mod => (match x, y with
    | .int a, .int b => b ≠ 0 ∧ Q (.d (.int (a.fmod b))) M
    | _, _ => False)
  | .FloorDiv => (match x, y with
    | .int a, .int b => CDivN a b ∧ Q (.d (.int (a.fdiv b))) M
    | _, _ => False)
  | .Pow => (match x, y with
    | .int a, .int b => CPow a b ∧ Q (.d (.int (a ^ b.toNat))) M
    | _, _ => False)
  | _ => False
def cutG {α : Type} (xs : List α) (lo hi : Option Int) : List α := (xs.drop (HT.sIx xs.length 0 lo)).take (HT.sIx xs.length xs.length hi - HT.sIx xs.length 0 lo)
def intO : D → Option Int
  | .int i => some i
  | _ => none
def slcD (m : Bool) (x : D) (lo hi : Option Int) (M : MM) (Q : W → MM → Prop) : Prop := match x with
  | .lst xs => allocL m (cutG xs lo hi) M Q
  | .tup xs => Q (.d (.tup (cutG xs lo hi))) M
  | .str s => s.length ≤ sizeLine ∧ Q (.d (.str (cutS s lo hi))) M
  | .scr ns => allocL m (cutG (ns.map .int) lo hi) M Q
  | _ => False
def slcW (lo hi m : Bool) (ws : List W) (M : MM) (Q : W → MM → Prop) : Prop := match lo, hi, ws with
  | false, false, [x] => (match vw M x with
    | some a => slcD m a none none M Q
    | none => False)
  | true, false, [x, .d (.int i)] => (match vw M x with
    | some a => slcD m a (some i) none M Q
    | none => False)
  | false, true, [x, .d (.int j)] => (match vw M x with
    | some a => slcD m a none (some j) M Q
    | none => False)
  | _, _, _ => False
def idxD (x y : D) (k : D → Prop) : Prop := match x, y with
  | .lst xs, .int i => optK (atI xs i) k
  | .tup xs, .int i => optK (atI xs i) k
  | .tupF xs, .int i => optK (atI xs i) k
  | .str s, .int i => s.length ≤ sizeLine ∧ optK (atI s.cps.toList i) fun c => k (.str ⟨#[c]⟩)
  | .dct kvs, y => (match keyD y with
    | some q => (match lookG kvs q with
      | some d => k d
      | none => False)
    | none => False)
  | .dctT kvs, .tup ys => (match keysD ys with
    | some q => (match lookG kvs q with
      | some d => k d
      | none => False)
    | none => False)
  | _, _ => False
def idxW (ws : List W) (M : MM) (Q : W → MM → Prop) : Prop := match ws with
  | [.d x, .d y] => idxD x y fun d => Q (.d d) M
  | [.ref i, .d y] => (match M[i]? with
    | some (some (.lst xs)) => idxD (.lst xs) y fun d => Q (.d d) M
    | some (some (.dct xs)) => idxD (.dct xs) y fun d => Q (.d d) M
    | some (some (.dctT xs)) => idxD (.dctT xs) y fun d => Q (.d d) M
    | some (some (.dcw kvs)) => (match keyD y with
      | some q => (match lookG kvs q with
        | some w => Q w M
        | none => False)
      | none => False)
    | _ => False)
  | _ => False
def lenD : D → Option Nat
  | .str s => some s.length
  | .lst xs => some xs.length
  | .tup xs => some xs.length
  | .dct kvs => some kvs.length
  | .dctT kvs => some kvs.length
  | _ => none
def strL : List D → Option (List Str)
  | [] => some []
  | .str s :: r => match strL r with
    | some ss => some (s :: ss)
    | none => none
  | _ :: _ => none
def intL : List D → Option (List Int)
  | [] => some []
  | .int s :: r => match intL r with
    | some ss => some (s :: ss)
    | none => none
  | _ :: _ => none
def blL : List D → Option (List Bool)
  | [] => some []
  | .bl s :: r => match blL r with
    | some ss => some (s :: ss)
    | none => none
  | _ :: _ => none
def pyT (d : D) : PyData := match toPy d with
  | some p => p
  | none => .none
def leD (a b : D) : Bool := PySem.W.dataLe false pyT a b
def sortD (xs : List D) : List D := xs.mergeSort leD
structure SrtOk (xs : List D) : Prop where
  py : ∀ x ∈ xs, (toPy x).isSome = true
  alike : PySem.W.AllAlike (xs.map pyT)
  able : PySem.W.Sortable (xs.map pyT)
  depth : ∀ x ∈ xs, (pyT x).depth ≤ 64
/-- min, max of a list of data -/
structure MinOk (xs : List D) : Prop where
  py : ∀ x ∈ xs, (toPy x).isSome = true
  alike : PySem.W.AlikeAll (xs.map pyT)
  depth : PyData.depthAll (xs.map pyT) ≤ 64
def ltD (xs : List D) (i j : Nat) : Bool := PySem.W.dataLt ((xs.map pyT).getD i .none) ((xs.map pyT).getD j .none)
def bestMin (xs : List D) : Option D := xs[argBest (ltD xs) (xs.length - 1)]?
def bestMax (xs : List D) : Option D := xs[argBest (fun i j => ltD xs j i) (xs.length - 1)]?
def sLe (a b : Str) : Bool := !decide (b.cps.toList < a.cps.toList)
def sortS (xs : List Str) : List Str := xs.mergeSort sLe
def strOK (s : Str) : Bool := s.cps.all (· < 0x110000)
def seqD : D → Option (List D)
  | .lst xs => some xs
  | .tup xs => some xs
  | .tupK xs => some xs
  | .tupF xs => some xs
  | _ => none
/-- the text that repr tells -/
@[irreducible] def reprD (p : PyData) : Str := p.shown
/-- small enough to be told -/
@[irreducible] def ShowOk (p : PyData) : Prop := p.showable = true ∧ p.depth ≤ 64 ∧ p.shown.length ≤ sizeLine
def biW (f : Bi) (m : Bool) (ws : List W) (M : MM) (Q : W → MM → Prop) : Prop := match f with
  | .len => ap1 M ws fun x => (match x with
    | .scr xs => Q (.d (.int xs.length)) M
    | .str s => s.length ≤ sizeLine ∧ Q (.d (.int s.length)) M
    | .lst xs => Q (.d (.int xs.length)) M
    | .tup xs => Q (.d (.int xs.length)) M
    | .tupF xs => Q (.d (.int xs.length)) M
    | .dct xs => Q (.d (.int xs.length)) M
    | _ => False)
  | .abs => ap1 M ws fun x => (match x with
    | .int i => Q (.d (.int (if i < 0 then -i else i))) M
    | _ => False)
  | .max => (match ws with
    | [.d (.int i), .d (.int j)] => Q (.d (.int (if j > i then j else i))) M
    | [.d (.lst xs)] => MinOk xs ∧ optK (bestMax xs) fun d => Q (.d d) M
    | _ => False)
  | .min => (match ws with
    | [.d (.int i), .d (.int j)] => Q (.d (.int (if j < i then j else i))) M
    | [.d (.lst xs)] => MinOk xs ∧ optK (bestMin xs) fun d => Q (.d d) M
    | _ => False)
  | .list => ap1 M ws fun x => (match seqD x with
    | some xs => allocL m xs M Q
    | none => False)
  | .tuple => ap1 M ws fun x => (match x with
    | .lst xs => Q (.d (.tup xs)) M
    | .tup xs => Q (.d (.tup xs)) M
    | _ => False)
  | .sorted => ap1 M ws fun x => (match seqD x with
    | some xs => SrtOk xs ∧ allocL m (sortD xs) M Q
    | none => False)
  | .int => ap1 M ws fun x => (match x with
    | .int i => Q (.d (.int i)) M
    | .bl b => Q (.d (.int (if b then 1 else 0))) M
    | _ => False)
  | .all => ap1 M ws fun x => (match x with
    | .lst xs => (match blL xs with
      | some bs => Q (.d (.bl (bs.all id))) M
      | none => False)
    | _ => False)
  | .any => ap1 M ws fun x => (match x with
    | .lst xs => (match blL xs with
      | some bs => Q (.d (.bl (bs.any id))) M
      | none => False)
    | _ => False)
  | .sum => ap1 M ws fun x => (match x with
    | .lst xs => (match intL xs with
      | some bs => Q (.d (.int bs.sum)) M
      | none => False)
    | _ => False)
  | .repr => ap1 M ws fun x => optK (toPy x) fun p => ShowOk p ∧ Q (.d (.str (reprD p))) M
/-- a method of a built-in type: the receiver first -/
def meW (f : Bm) (m : Bool) (ws : List W) (M : MM) (Q : W → MM → Prop) : Prop := match f with
  | .append => (match ws with
    | [.ref i, .d y] => (match M[i]? with
      | some (some (.lst xs)) => xs.length < sizeLine ∧ Q (.d .non) (M.set i (some (.lst (xs ++ [y]))))
      | _ => False)
    | _ => False)
  | .pop => (match ws with
    | [.ref i] => (match M[i]? with
      | some (some (.lst xs)) => (match xs[xs.length - 1]? with
        | some y => Q (.d y) (M.set i (some (.lst xs.dropLast)))
        | none => False)
      | _ => False)
    | [.ref i, .d (.int k)] => (match M[i]? with
      | some (some (.lst xs)) => (match ixN xs.length k with
        | some j => (match xs[j]? with
          | some y => Q (.d y) (M.set i (some (.lst (xs.eraseIdx j))))
          | none => False)
        | none => False)
      | _ => False)
    | _ => False)
  | .extend => (match ws with
    | [.ref i, y] => (match M[i]?, vw M y with
      | some (some (.lst xs)), some (.lst ys) => xs.length + ys.length ≤ sizeLine ∧ Q (.d .non) (M.set i (some (.lst (xs ++ ys))))
      | _, _ => False)
    | _ => False)
  | .clear => (match ws with
    | [.ref i] => (match M[i]? with
      | some (some (.lst xs)) => Q (.d .non) (M.set i (some (.lst [])))
      | _ => False)
    | _ => False)
  | .reverse => (match ws with
    | [.ref i] => (match M[i]? with
      | some (some (.lst xs)) => Q (.d .non) (M.set i (some (.lst xs.reverse)))
      | _ => False)
    | _ => False)
  | .join => ap2 M ws fun x y => (match x, seqD y with
    | .str a, some ys => (match strL ys with
      | some ss => (ss.map (·.length)).sum + ss.length * a.length ≤ 16777216 ∧ Q (.d (.str (Txt.join a ss))) M
      | none => False)
    | _, _ => False)
  | .split => ap2 M ws fun x y => (match x, y with
    | .str a, .str b => (b.length == 0) = false ∧ a.length + 2 ≤ sizeLine ∧ (∀ t ∈ Txt.split a b, strOK t = true) ∧ allocL m ((Txt.split a b).map .str) M Q
    | _, _ => False)
  | .index => ap2 M ws fun x y => (match x with
    | .lst xs => ifB (flatD y && xs.all flatD) (match xs.findIdx? (fun z => eqF z y) with
      | some j => Q (.d (.int (j : Nat))) M
      | none => False) False
    | _ => False)
  | .indexF => ap2 M ws fun x y => (match x, y with
    | .tupF xs, .str s => (match strL xs with
      | some ss => (match ss.idxOf? s with
        | some j => Q (.d (.int (j : Nat))) M
        | none => False)
      | none => False)
    | _, _ => False)
  | .upper => ap1 M ws fun x => (match x with
    | .str a => a.length ≤ 5592405 ∧ strOK (Txt.upper a) = true ∧ Q (.d (.str (Txt.upper a))) M
    | _ => False)
  | .get => False

def isLst (M : MM) (w : W) : Prop := match vw M w with
  | some (.lst _) => True
  | _ => False
def isStr : W → Prop
  | .d (.str _) => True
  | _ => False
def isTupF : W → Prop
  | .d (.tupF _) => True
  | _ => False
def meT (f : Bm) (w : W) (M : MM) : Prop := match f with
  | .join => isStr w
  | .split => isStr w
  | .upper => isStr w
  | .indexF => isTupF w
  | .get => False
  | _ => isLst M w
/-! ### numbers of objects carried over to a callee and back -/
def refsW : List W → List Nat
  | [] => []
  | .ref i :: r => i :: refsW r
  | .d _ :: r => refsW r
def refsM : Option MO → List Nat
  | some (.ins _ fs) => refsW (fs.map (·.2))
  | some (.dcw fs) => refsW (fs.map (·.2))
  | _ => []
def reach (M : MM) (ws : List W) : List Nat :=
  let r := (refsW ws).eraseDups
  (r ++ r.flatMap fun i => refsM (M.getD i none)).eraseDups
def renW (ix : List Nat) : W → W
  | .d x => .d x
  | .ref i => .ref (ix.idxOf i)
def mapMO (f : W → W) : MO → MO
  | .ins c fs => .ins c (fs.map fun q => (q.1, f q.2))
  | .dcw fs => .dcw (fs.map fun q => (q.1, f q.2))
  | x => x
def backI (ix : List Nat) (n : Nat) (j : Nat) : Nat := if j < ix.length then ix.getD j 0 else n + (j - ix.length)
def backW (ix : List Nat) (n : Nat) : W → W
  | .d x => .d x
  | .ref j => .ref (backI ix n j)
def putAll (M : MM) : List (Nat × Option MO) → MM
  | [] => M
  | (i, mo) :: r => putAll (M.set i mo) r
def splice (M : MM) (ix : List Nat) (M' : MM) : MM :=
  putAll M (ix.zip ((M'.take ix.length).map fun mo => mo.map (mapMO (backW ix M.length)))) ++ (M'.drop ix.length).map fun mo => mo.map (mapMO (backW ix M.length))
def okIx (M : MM) (ws : List W) (ix : List Nat) : Bool :=
  decide ix.Nodup && (refsW ws).all (fun j => decide (j ∈ ix)) && ix.all fun i => decide (i < M.length) && (refsM (M.getD i none)).all fun j => decide (j ∈ ix)
def callI (ix : List Nat) (sp : Spec) (ws : List W) (M : MM) (Q : W → MM → Prop) (R : XR) : Prop :=
  okIx M ws ix = true ∧ sp (ws.map (renW ix)) (ix.map fun i => (M.getD i none).map (mapMO (renW ix)))
    (fun x M' => Q (backW ix M.length x) (splice M ix M')) (fun c fs M' => R c fs (splice M ix M'))
def callW (sp : Spec) (ws : List W) (M : MM) (Q : W → MM → Prop) (R : XR) : Prop := callI (reach M ws) sp ws M Q R
/-- an object and what it holds change no more -/
def frzK {κ : Type} (f : MM → W → Option (D × MM)) : MM → List (κ × W) → Option (List (κ × D) × MM)
  | M, [] => some ([], M)
  | M, (k, w) :: r => match f M w with
    | some (x, M1) => (match frzK f M1 r with
      | some (xs, M2) => some ((k, x) :: xs, M2)
      | none => none)
    | none => none
def frzW : Nat → MM → W → Option (D × MM)
  | _, M, .d x => some (x, M)
  | 0, _, .ref _ => none
  | n + 1, M, .ref i => match M[i]? with
    | some (some (.lst xs)) => some (.lst xs, M.set i none)
    | some (some (.dct kvs)) => some (.dct kvs, M.set i none)
    | some (some (.dctT kvs)) => some (.dctT kvs, M.set i none)
    | some (some (.dcw kvs)) => (match frzK (frzW n) (M.set i none) kvs with
      | some (ks, M') => some (.dct ks, M')
      | none => none)
    | some (some (.ins c fs)) => (match frzK (frzW n) (M.set i none) fs with
      | some (ks, M') => some (.obj c ks, M')
      | none => none)
    | _ => none
/-- a class called: a new instance, then __init__; data at once (fr) or an object that may change -/
def newSpec (fr : Bool) (c : Str) (init : Spec) : Spec := fun ws M Q R =>
  init (.ref M.length :: ws) (M ++ [some (.ins c [])]) (fun r M' => match r with
    | .d .non => ifB fr (match frzW 4 M' (.ref M.length) with
      | some (x, M'') => Q (.d x) M''
      | none => False) (Q (.ref M.length) M')
    | _ => False) R
/-- arguments lent: read, not kept -/
def lend (M : MM) : List Bool → List W → Option (List W × MM)
  | true :: bs, w :: ws => match frzW 4 M w with
    | some (d, M1) => (match lend M1 bs ws with
      | some (r, M2) => some (.d d :: r, M2)
      | none => none)
    | none => none
  | false :: bs, w :: ws => match lend M bs ws with
    | some (r, M2) => some (w :: r, M2)
    | none => none
  | [], ws => some (ws, M)
  | _ :: _, [] => none
def isScal : W → Bool
  | .d .non => true
  | .d (.bl _) => true
  | .d (.int _) => true
  | .d (.str _) => true
  | _ => false
def lendW (sp : Spec) (bs : List Bool) (ws : List W) (M : MM) (Q : W → MM → Prop) (R : XR) : Prop := match bs with
  | [] => callW sp ws M Q R
  | bs => (match lend M bs ws with
    | some (us, _) => (allD us).isSome = true ∧ sp us [] (fun x _ => isScal x = true ∧ Q x M) (fun c fs _ => (fs.all fun q => flatD q.2) = true ∧ R c fs M)
    | none => False)
def lendO (sp : Option Spec) (bs : List Bool) (ws : List W) (M : MM) (Q : W → MM → Prop) (R : XR) : Prop := match sp with
  | some sp => lendW sp bs ws M Q R
  | none => False
/-- the class of an instance that has no field of that name -/
def clsOf (M : MM) (m : Str) : W → Option Str
  | .d (.obj c fs) => if (fs.lookup m).isNone = true then some c else none
  | .ref i => match M[i]? with
    | some (some (.ins c fs)) => if (fs.lookup m).isNone = true then some c else none
    | _ => none
  | _ => none
def fldW (fa : Str → Str → Bool) (f : Str) (w : W) (M : MM) (Q : W → MM → Prop) : Prop := match w with
  | .d (.obj c fs) => fa c f = true ∧ (match fs.lookup f with
    | some x => Q (.d x) M
    | none => False)
  | .ref i => (match M[i]? with
    | some (some (.ins c fs)) => fa c f = true ∧ (match fs.lookup f with
      | some x => Q x M
      | none => False)
    | _ => False)
  | _ => False
/-- the type of data, as isinstance asks it -/
def tyD : D → Option String
  | .non => some "NoneType"
  | .bl _ => some "bool"
  | .int _ => some "int"
  | .str _ => some "str"
  | .lst _ => some "list"
  | .tup _ => some "tuple"
  | .tupF _ => some "tuple"
  | .tupK _ => some "tuple"
  | .dct _ => some "dict"
  | _ => none
def isiD (T : String) (x : D) (k : Bool → Prop) : Prop := match tyD x with
  | some t => (match kitB t T with
    | some b => k b
    | none => False)
  | none => False
def subAny (f : Str → Option Bool) : List Str → Option Bool
  | [] => some false
  | T :: r => match f T, subAny f r with
    | some a, some b => some (a || b)
    | _, _ => none
def exiW (sg : Sg) (Ts : List Str) (ws : List W) (M : MM) (Q : W → MM → Prop) : Prop := match ws with
  | [.d (.exc a c d _)] => sg.ex = some (a, c, d) ∧ optK (subAny (sg.sub c) Ts) fun b => Q (.d (.bl b)) M
  | _ => False
def exfW (sg : Sg) (f : Str) (ws : List W) (M : MM) (Q : W → MM → Prop) : Prop := match ws with
  | [.d (.exc a c d fs)] => sg.ex = some (a, c, d) ∧ optK (sg.xc c) fun ns => f ∈ ns ∧ optK (fs.lookup f) fun x => Q (.d x) M
  | _ => False
def wP (sg : Sg) (p : Pr) (ws : List W) (M : MM) (Q : W → MM → Prop) (R : XR) : Prop := match p with
  | .bin op m => ap2 M ws fun x y => binD op m x y M Q
  | .neg => ap1 M ws fun x => (match x with
    | .int i => Q (.d (.int (-i))) M
    | _ => False)
  | .cmp op => ap2 M ws fun x y => cmpD op x y fun b => Q (.d (.bl b)) M
  | .idx => idxW ws M Q
  | .slc lo hi m => slcW lo hi m ws M Q
  | .rev m => ap1 M ws fun x => (match x with
    | .lst xs => allocL m xs.reverse M Q
    | .tup xs => Q (.d (.tup xs.reverse)) M
    | .tupF xs => Q (.d (.tup xs.reverse)) M
    | _ => False)
  | .tup f => (match allD ws with
    | some ds => (match f with
      | true => Q (.d (.tupF ds)) M
      | false => Q (.d (.tup ds)) M)
    | none => False)
  | .lst m => (match allD ws with
    | some ds => allocL m ds M Q
    | none => False)
  | .dnT m => (match ws with
    | [] => alloc m (.dctT []) (.dctT []) M Q
    | _ => False)
  | .fld f => (match ws with
    | [w] => fldW sg.fa f w M Q
    | _ => False)
  | .bi f m => biW f m ws M Q
  | .isi T => ap1 M ws fun x => isiD T x fun b => Q (.d (.bl b)) M
  | .call f bs => lendO (sg.fn f ws.length) bs ws M Q R
  | .new c bs => lendO (sg.nw c ws.length) bs ws M Q R
  | .exi Ts => exiW sg Ts ws M Q
  | .exf f => exfW sg f ws M Q

/-- what must be known ahead of the arguments -/
def prOk (sg : Sg) (p : Pr) (n : Nat) : Prop := match p with
  | .call f _ => (sg.fn f n).isSome = true
  | .new f _ => (sg.nw f n).isSome = true
  | _ => True

def prK (sg : Sg) (p : Pr) (n : Nat) (P : Prop) : Prop := match p with
  | .call f _ => (sg.fn f n).isSome = true ∧ P
  | .new f _ => (sg.nw f n).isSome = true ∧ P
  | _ => P
theorem prK_iff {sg : Sg} {p : Pr} {n : Nat} {P : Prop} : prK sg p n P ↔ prOk sg p n ∧ P := by
  cases p <;> first | exact Iff.rfl | exact ⟨fun h => ⟨trivial, h⟩, fun h => h.2⟩
def meK (f : Bm) (w : W) (M : MM) (P : Prop) : Prop := match f with
  | .join => (match w with
    | .d (.str _) => P
    | _ => False)
  | .split => (match w with
    | .d (.str _) => P
    | _ => False)
  | .upper => (match w with
    | .d (.str _) => P
    | _ => False)
  | .indexF => (match w with
    | .d (.tupF _) => P
    | _ => False)
  | .get => False
  | _ => (match vw M w with
    | some (.lst _) => P
    | _ => False)
theorem meK_iff {f : Bm} {w : W} {M : MM} {P : Prop} (h : meK f w M P) : meT f w M ∧ P := by
  cases f
  case get => exact h.elim
  all_goals (unfold meK at h; dsimp only at h; split at h <;> first | exact h.elim | skip)
  all_goals (refine ⟨?_, h⟩; first | exact True.intro | (show isLst _ _; unfold isLst; simp [*]))
/-! ### loops -/
def clipW (n : Nat) : W → Bool
  | .d _ => true
  | .ref i => decide (i < n)
def clipM (n : Nat) : Option MO → Option MO
  | some (.ins c fs) => if (fs.all fun q => clipW n q.2) = true then some (.ins c fs) else none
  | some (.dcw fs) => if (fs.all fun q => clipW n q.2) = true then some (.dcw fs) else none
  | x => x
def trunc (n : Nat) (M : MM) : MM := if M.length = n then M else (M.take n).map (clipM n)
def clipG (n : Nat) (Γ : GG) : GG := Γ.map fun x => match x with
  | some w => if clipW n w = true then some w else none
  | none => none
def itW (k : It) (ws : List W) (c : List D → Prop) : Prop := match k with
  | .seq => (match ws with
    | [.d (.lst xs)] => c xs
    | [.d (.tup xs)] => c xs
    | [.d (.tupK xs)] => c xs
    | [.d (.tupF xs)] => c xs
    | [.d (.str s)] => c (s.cps.toList.map fun n => .str ⟨#[n]⟩)
    | _ => False)
  | .rng => (match ws with
    | [.d (.int j)] => (-(2 ^ 62) ≤ j ∧ j < 2 ^ 62) ∧ c ((List.range j.toNat).map fun (i : Nat) => .int (0 + (i : Int)))
    | [.d (.int i), .d (.int j)] => (-(2 ^ 62) ≤ i ∧ i < 2 ^ 62 ∧ -(2 ^ 62) ≤ j ∧ j < 2 ^ 62) ∧ c ((List.range (j - i).toNat).map fun (n : Nat) => .int (i + (n : Int)))
    | _ => False)
def setAll (Γ : GG) : List Nat → List W → Option GG
  | [], [] => some Γ
  | i :: is, w :: ws => setAll (Γ.set i (some w)) is ws
  | _, _ => none
def tgW (tg : Tg) (x : D) (Γ : GG) (k : GG → Prop) : Prop := match tg with
  | .n i => k (Γ.set i (some (.d x)))
  | .t is => (match x with
    | .tup xs => (match setAll Γ is (xs.map .d) with
      | some Γ' => k Γ'
      | none => False)
    | .tupF xs => (match setAll Γ is (xs.map .d) with
      | some Γ' => k Γ'
      | none => False)
    | _ => False)
def wipeG (Γ : GG) : List Nat → GG
  | [] => Γ
  | v :: vs => (wipeG Γ vs).set v none
/-- one by one; what is found is gathered -/
def goLc0 (f : D → MM → (Option D → MM → Prop) → Prop) : List D → List D → MM → (List D → MM → Prop) → Prop
  | [], acc, M, Q => Q acc M
  | x :: xs, acc, M, Q => f x M fun r M' => goLc0 f xs (match r with | some y => acc ++ [y] | none => acc) (trunc M.length M') Q

@[irreducible] def goLc (f : D → MM → (Option D → MM → Prop) → Prop) (xs acc : List D) (M : MM) (Q : List D → MM → Prop) : Prop := goLc0 f xs acc M Q
theorem goLc_nil {f : D → MM → (Option D → MM → Prop) → Prop} {acc : List D} {M : MM} {Q : List D → MM → Prop} : goLc f [] acc M Q = Q acc M := by unfold goLc; rfl
theorem goLc_cons {f : D → MM → (Option D → MM → Prop) → Prop} {x : D} {xs acc : List D} {M : MM} {Q : List D → MM → Prop} : goLc f (x :: xs) acc M Q = f x M fun r M' => goLc f xs (match r with | some y => acc ++ [y] | none => acc) (trunc M.length M') Q := by unfold goLc; rfl

structure DE where
  nx : GG → MM → Prop
  rt : W → MM → Prop
  bk : GG → MM → Prop
  ct : GG → MM → Prop
  xr : GG → XR

/-- a dict of one pair -/
def dk1W (m : Bool) (x y : W) (n : Nat) (M : MM) (Q : W → MM → Prop) : Prop := match x with
  | .d kd => (match keyD kd with
    | some q => (match y with
      | .d d => ifB m (Q (.ref n) (M.set n (some (.dct [(q, d)])))) (Q (.d (.dct [(q, d)])) (M.set n none))
      | .ref j => Q (.ref n) (M.set n (some (.dcw [(q, .ref j)]))))
    | none => False)
  | _ => False
def noX : XR := fun _ _ _ => False
mutual
def wE (sg : Sg) : Ex → GG → MM → (W → MM → Prop) → XR → Prop
  | .v i, Γ, M, Q, _ => (match Γ[i]? with
    | some (some x) => Q x M
    | _ => False)
  | .non, _, M, Q, _ => Q (.d .non) M
  | .bl b, _, M, Q, _ => Q (.d (.bl b)) M
  | .int i, _, M, Q, _ => Q (.d (.int i)) M
  | .str s, _, M, Q, _ => Q (.d (.str s)) M
  | .gl x, _, M, Q, _ => (match sg.gl x with
    | some d => Q (.d d) M
    | none => False)
  | .pr p es, Γ, M, Q, R => prK sg p es.length (wEs sg es Γ M (fun ws M' => wP sg p ws M' Q R) R)
  | .me f m o es, Γ, M, Q, R => wE sg o Γ M (fun w M1 => meK f w M1 (wEs sg es Γ M1 (fun ws M2 => meW f m (w :: ws) M2 Q) R)) R
  | .mt m bs o es, Γ, M, Q, R => wE sg o Γ M (fun w M1 => (match clsOf M1 m w with
    | some c => (sg.me c m es.length).isSome = true ∧ wEs sg es Γ M1 (fun ws M2 => lendO (sg.me c m ws.length) bs (w :: ws) M2 Q R) R
    | none => False)) R
  | .and a b, Γ, M, Q, R => wE sg a Γ M (fun x M1 => truW M1 x fun c => ifB c (wE sg b Γ M1 Q R) (Q x M1)) R
  | .or a b, Γ, M, Q, R => wE sg a Γ M (fun x M1 => truW M1 x fun c => ifB c (Q x M1) (wE sg b Γ M1 Q R)) R
  | .not a, Γ, M, Q, R => wE sg a Γ M (fun x M1 => truW M1 x fun c => Q (.d (.bl (!c))) M1) R
  | .ife c a b, Γ, M, Q, R => wT sg c Γ M (fun k M1 => ifB k (wE sg a Γ M1 Q R) (wE sg b Γ M1 Q R)) R
  | .chn o1 o2 a b c, Γ, M, Q, R => wE sg a Γ M (fun x M1 => wE sg b Γ M1 (fun y M2 => ap2 M2 [x, y] fun p q => cmpD o1 p q fun k =>
      ifB k (wE sg c Γ M2 (fun z M3 => ap2 M3 [y, z] fun p q => cmpD o2 p q fun k => Q (.d (.bl k)) M3) R) (Q (.d (.bl false)) M2)) R) R
  | .sl2 m a b c, Γ, M, Q, R => wE sg a Γ M (fun x M1 => wE sg b Γ M1 (fun y M2 => match y with
    | .d (.int i) => wE sg c Γ M2 (fun z M3 => match z with
      | .d (.int j) => (match vw M3 x with
        | some d => slcD m d (some i) (some j) M3 Q
        | none => False)
      | _ => False) R
    | _ => False) R) R
  | .dk1 m a b, Γ, M, Q, R => wE sg a Γ (M ++ [some (.dct [])]) (fun x M1 => wE sg b Γ M1 (fun y M2 => M2[M.length]? = some (some (.dct [])) ∧ dk1W m x y M.length M2 Q) R) R
  | .dsp ks m es, Γ, M, Q, R => (ks.length = es.length ∧ ks.length ≤ 15 ∧ ks.Nodup) ∧ wEs sg es Γ (M ++ [some (.dct [])]) (fun ws M' => M'[M.length]? = some (some (.dct [])) ∧ (match allD ws with
      | some ds => ifB m (Q (.ref M.length) (M'.set M.length (some (.dct (ks.zip ds))))) (Q (.d (.dct (ks.zip ds))) (M'.set M.length none))
      | none => Q (.ref M.length) (M'.set M.length (some (.dcw (ks.zip ws)))))) R
  | .lc tg own k its cs e m, Γ, M, Q, R => wEs sg its Γ M (fun ws M1 => itW k ws fun items => items.length ≤ sizeLine ∧
      goLc (fun x M2 q => tgW tg x (wipeG Γ own) fun Γ2 => wCs sg cs Γ2 M2 (fun b M3 => ifB b (wE sg e Γ2 M3 (fun y M4 => match y with
        | .d d => q (some d) M4
        | .ref _ => False) noX) (q none M3)) noX) items [] M1 fun acc M2 => allocL m acc M2 Q) R
def wEs (sg : Sg) : List Ex → GG → MM → (List W → MM → Prop) → XR → Prop
  | [], _, M, Q, _ => Q [] M
  | e :: es, Γ, M, Q, R => wE sg e Γ M (fun x M1 => wEs sg es Γ M1 (fun xs M2 => Q (x :: xs) M2) R) R
def wCs (sg : Sg) : List Ex → GG → MM → (Bool → MM → Prop) → XR → Prop
  | [], _, M, Q, _ => Q true M
  | c :: _, Γ, M, Q, R => wT sg c Γ M Q R
def wT (sg : Sg) : Ex → GG → MM → (Bool → MM → Prop) → XR → Prop
  | .and a b, Γ, M, Q, R => wT sg a Γ M (fun c M1 => ifB c (wT sg b Γ M1 Q R) (Q false M1)) R
  | .or a b, Γ, M, Q, R => wT sg a Γ M (fun c M1 => ifB c (Q true M1) (wT sg b Γ M1 Q R)) R
  | .not a, Γ, M, Q, R => wT sg a Γ M (fun c M1 => Q (!c) M1) R
  | .v i, Γ, M, Q, _ => (match Γ[i]? with
    | some (some x) => truW M x fun b => Q b M
    | _ => False)
  | .pr (.cmp op) es, Γ, M, Q, R => wEs sg es Γ M (fun ws M' => ap2 M' ws fun x y => cmpD op x y fun b => Q b M') R
  | .pr p es, Γ, M, Q, R => prK sg p es.length (wEs sg es Γ M (fun ws M' => wP sg p ws M' (fun x M2 => truW M2 x fun b => Q b M2) R) R)
  | .me f m o es, Γ, M, Q, R => wE sg o Γ M (fun w M1 => meK f w M1 (wEs sg es Γ M1 (fun ws M2 => meW f m (w :: ws) M2 fun x M3 => truW M3 x fun b => Q b M3) R)) R
  | .mt m bs o es, Γ, M, Q, R => wE sg o Γ M (fun w M1 => (match clsOf M1 m w with
    | some c => (sg.me c m es.length).isSome = true ∧ wEs sg es Γ M1 (fun ws M2 => lendO (sg.me c m ws.length) bs (w :: ws) M2 (fun x M3 => truW M3 x fun b => Q b M3) R) R
    | none => False)) R
  | .chn o1 o2 a b c, Γ, M, Q, R => wE sg a Γ M (fun x M1 => wE sg b Γ M1 (fun y M2 => ap2 M2 [x, y] fun p q => cmpD o1 p q fun k =>
      ifB k (wE sg c Γ M2 (fun z M3 => ap2 M3 [y, z] fun p q => cmpD o2 p q fun k => Q k M3) R) (Q false M2)) R) R
  | .bl b, _, M, Q, _ => Q b M
  | _, _, _, _, _ => False
end

/-! ### statements -/
def setItemW (o k : W) (v : W) (M : MM) (q : MM → Prop) : Prop := match o, k, v with
  | .ref i, .d k, .d v => (match M[i]? with
    | some (some (.lst xs)) => (match k with
      | .int z => (match ixN xs.length z with
        | some j => q (M.set i (some (.lst (xs.set j v))))
        | none => False)
      | _ => False)
    | some (some (.dct kvs)) => (match keyD k with
      | some y => kvs.length < sizeLine ∧ q (M.set i (some (.dct (putG kvs y v))))
      | none => False)
    | some (some (.dctT kvs)) => (match k with
      | .tup xs => (match keysD xs with
        | some y => kvs.length < sizeLine ∧ q (M.set i (some (.dctT (putG kvs y v))))
        | none => False)
      | _ => False)
    | some (some (.dcw kvs)) => (match keyD k with
      | some y => kvs.length < sizeLine ∧ q (M.set i (some (.dcw (putG kvs y (.d v)))))
      | none => False)
    | _ => False)
  | _, _, _ => False
def putF' (f : Str) (v : W) : List (Str × W) → List (Str × W)
  | [] => [(f, v)]
  | (g, x) :: r => if g = f then (f, v) :: r else (g, x) :: putF' f v r
def setFldW (fa : Str → Str → Bool) (o : W) (f : Str) (v : W) (M : MM) (q : MM → Prop) : Prop := match o with
  | .ref i => (match M[i]? with
    | some (some (.ins c fs)) => fa c f = true ∧ fs.length < 1000 ∧ q (M.set i (some (.ins c (putF' f v fs))))
    | _ => False)
  | _ => False
def augW (op : Operator) (x y : W) (M : MM) (Q : W → MM → Prop) : Prop := match op, x, y with
  | .Add, .d (.int a), .d (.int b) => Q (.d (.int (a + b))) M
  | .Sub, .d (.int a), .d (.int b) => Q (.d (.int (a - b))) M
  | .Add, .ref i, y => (match M[i]?, vw M y with
    | some (some (.lst xs)), some (.lst ys) => xs.length + ys.length ≤ sizeLine ∧ Q (.ref i) (M.set i (some (.lst (xs ++ ys))))
    | _, _ => False)
  | .Add, .d (.str a), .d (.str b) => a.length + b.length ≤ sizeLine ∧ Q (.d (.str (a ++ b))) M
  | _, _, _ => False
def goFor0 (f : D → GG → MM → DE → Prop) : List D → GG → MM → DE → Prop
  | [], Γ, M, E => E.nx Γ M
  | x :: xs, Γ, M, E => f x Γ M { E with
      nx := fun Γ' M' => goFor0 f xs (clipG M.length Γ') (trunc M.length M') E
      ct := fun Γ' M' => goFor0 f xs (clipG M.length Γ') (trunc M.length M') E
      bk := fun Γ' M' => E.nx (clipG M.length Γ') (trunc M.length M') }
@[irreducible] def goFor (f : D → GG → MM → DE → Prop) (xs : List D) (Γ : GG) (M : MM) (E : DE) : Prop := goFor0 f xs Γ M E
theorem goFor_nil {f : D → GG → MM → DE → Prop} {Γ : GG} {M : MM} {E : DE} : goFor f [] Γ M E = E.nx Γ M := by unfold goFor; rfl
theorem goFor_cons {f : D → GG → MM → DE → Prop} {x : D} {xs : List D} {Γ : GG} {M : MM} {E : DE} : goFor f (x :: xs) Γ M E = f x Γ M { E with
      nx := fun Γ' M' => goFor f xs (clipG M.length Γ') (trunc M.length M') E
      ct := fun Γ' M' => goFor f xs (clipG M.length Γ') (trunc M.length M') E
      bk := fun Γ' M' => E.nx (clipG M.length Γ') (trunc M.length M') } := by unfold goFor; rfl
def goWhl (c : GG → MM → (Bool → MM → Prop) → XR → Prop) (f : GG → MM → DE → Prop) : Nat → GG → MM → DE → Prop
  | 0, _, _, _ => False
  | n + 1, Γ, M, E => c Γ M (fun b M1 => ifB b (f Γ M1 { E with
      nx := fun Γ' M' => goWhl c f n (clipG M.length Γ') (trunc M.length M') E
      ct := fun Γ' M' => goWhl c f n (clipG M.length Γ') (trunc M.length M') E
      bk := fun Γ' M' => E.nx (clipG M.length Γ') (trunc M.length M') })
    (E.nx Γ M1)) (E.xr Γ)
def hOk (sg : Sg) : List Sx → Prop
  | .hnd T _ _ :: r => (sg.xc T).isSome = true ∧ hOk sg r
  | _ => True
def putG' (Γ : GG) (i : Option Nat) (x : D) : GG := match i with
  | some j => Γ.set j (some (.d x))
  | none => Γ
def dropG (Γ : GG) (i : Option Nat) : GG := match i with
  | some j => Γ.set j none
  | none => Γ
def dropE (E : DE) (i : Option Nat) : DE := { nx := fun Γ M => E.nx (dropG Γ i) M, rt := E.rt, bk := fun Γ M => E.bk (dropG Γ i) M, ct := fun Γ M => E.ct (dropG Γ i) M, xr := fun _ => noX }
mutual
def wS (sg : Sg) : Sx → GG → MM → DE → Prop
  | .asg i e, Γ, M, E => wE sg e Γ M (fun x M' => E.nx (Γ.set i (some x)) M') (E.xr Γ)
  | .asgT is e, Γ, M, E => wE sg e Γ M (fun x M' => match x with
    | .d d => tgW (.t is) d Γ fun Γ' => E.nx Γ' M'
    | .ref _ => False) (E.xr Γ)
  | .par is es, Γ, M, E => wEs sg es Γ M (fun ws M' => match setAll Γ is ws with
    | some Γ' => E.nx Γ' M'
    | none => False) (E.xr Γ)
  | .sub a k e, Γ, M, E => wE sg e Γ M (fun v M1 => wE sg a Γ M1 (fun o M2 => wE sg k Γ M2 (fun i M3 => setItemW o i v M3 fun M4 => E.nx Γ M4) (E.xr Γ)) (E.xr Γ)) (E.xr Γ)
  | .fld a f e, Γ, M, E => wE sg e Γ M (fun v M1 => wE sg a Γ M1 (fun o M2 => setFldW sg.fa o f v M2 fun M3 => E.nx Γ M3) (E.xr Γ)) (E.xr Γ)
  | .aug i op e, Γ, M, E => (match Γ[i]? with
    | some (some x) => wE sg e Γ M (fun y M1 => augW op x y M1 fun z M2 => E.nx (Γ.set i (some z)) M2) (E.xr Γ)
    | _ => False)
  | .exp e, Γ, M, E => wE sg e Γ M (fun _ M' => E.nx Γ M') (E.xr Γ)
  | .ret e, Γ, M, E => wE sg e Γ M E.rt (E.xr Γ)
  | .retN, Γ, M, E => E.rt (.d .non) M
  | .ite c a b, Γ, M, E => wT sg c Γ M (fun k M1 => ifB k (wSs sg a Γ M1 E) (wSs sg b Γ M1 E)) (E.xr Γ)
  | .whl c b, Γ, M, E => ∃ n : Nat, goWhl (wT sg c) (wSs sg b) n Γ M E
  | .fors tg k its b, Γ, M, E => wEs sg its Γ M (fun ws M1 => itW k ws fun items => goFor (fun x Γ M E => tgW tg x Γ fun Γ' => wSs sg b Γ' M E) items Γ M1 E) (E.xr Γ)
  | .brk, Γ, M, E => E.bk Γ M
  | .cnt, Γ, M, E => E.ct Γ M
  | .pss, Γ, M, E => E.nx Γ M
  | .rse c es, Γ, M, E => (sg.xc c).isSome = true ∧ wEs sg es Γ M (fun ws M' => optK (sg.xc c) fun fs => fs.length = ws.length ∧ optK (allD ws) fun ds => E.xr Γ c (fs.zip ds).reverse M') (E.xr Γ)
  | .bad, _, _, _ => False
  | .hnd _ _ _, _, _, _ => False
  | .tri b hs, Γ, M, E => hOk sg hs ∧ wSs sg b Γ M { E with xr := fun Γ' c fs M' => wHs sg hs c fs Γ' M' E }
  | .frz i, Γ, M, E => (match Γ[i]? with
    | some (some w) => (match frzW 4 M w with
      | some (x, M') => E.nx (Γ.set i (some (.d x))) M'
      | none => False)
    | _ => False)
def wSs (sg : Sg) : List Sx → GG → MM → DE → Prop
  | [], Γ, M, E => E.nx Γ M
  | s :: r, Γ, M, E => wS sg s Γ M { E with nx := fun Γ' M' => wSs sg r Γ' M' E }
def wHs (sg : Sg) : List Sx → Str → List (Str × D) → GG → MM → DE → Prop
  | [], c, fs, Γ, M, E => E.xr Γ c fs M
  | h :: r, c, fs, Γ, M, E => wH sg h c fs Γ M E (wHs sg r c fs Γ M E)
def wH (sg : Sg) : Sx → Str → List (Str × D) → GG → MM → DE → Prop → Prop
  | .hnd T i s, c, fs, Γ, M, E, O => optK (sg.sub c T) fun b => ifB b (∀ a d, wSs { sg with ex := some (a, c, d) } s (putG' Γ i (.exc a c d fs)) M (dropE E i)) O
  | _, _, _, _, _, _, _ => False
end
end DL

/-! DL2: the wishes over data as readings of the layer; operators, subscripts, slices, calls of built-ins. -/
namespace DL
open PySem PySem.Spec L2

def XRep (B : Bs) (α : List Addr) (M : MM) (H : Hp) (cls : Value) (d : Option Addr) (c : Str) (fs : List (Str × D)) : Prop :=
  ∃ C, cls = .ref C ∧ B.mg c = some (.ref C) ∧ (match d with
    | some a => ∃ vs, H a = some (.xd vs) ∧ ¬ Lv B α M a ∧ RepF B (Lv B α M) H fs vs
    | none => fs = [])
def QOk (B : Bs) (α : List Addr) (M : MM) (H : Hp) (Qd : W → MM → Prop) (Q : VK) : Prop :=
  ∀ α' M' x v H', Step α M H α' M' H' → Ok B α' M' H' → RepW B α' M' H' x v → Qd x M' → Q v H'
def BOk (B : Bs) (α : List Addr) (M : MM) (H : Hp) (Qd : Bool → MM → Prop) (Q : Bool → Hp → Prop) : Prop :=
  ∀ α' M' b H', Step α M H α' M' H' → Ok B α' M' H' → Qd b M' → Q b H'
def XOk (B : Bs) (Wx : WX) (σ : L2.St) (α : List Addr) (M : MM) (H : Hp) (R : XR) : Prop :=
  ∀ α' M' H' cls d c fs, Step α M H α' M' H' → Ok B α' M' H' → XRep B α' M' H' cls d c fs → R c fs M' → Wx cls d σ H'
abbrev WE := GG → MM → (W → MM → Prop) → XR → Prop
abbrev WT := GG → MM → (Bool → MM → Prop) → XR → Prop
abbrev WA := GG → MM → (List W → MM → Prop) → XR → Prop
abbrev WS := GG → MM → DE → Prop
def lE (B : Bs) (Wx : WX) (w : WE) : TE := fun σ H Q => ∃ α Γ M Qd R, Ok B α M H ∧ Vars B α M H Γ σ ∧ w Γ M Qd R ∧ QOk B α M H Qd Q ∧ XOk B Wx σ α M H R
def lT (B : Bs) (Wx : WX) (w : WT) : TT := fun σ H Q => ∃ α Γ M Qd R, Ok B α M H ∧ Vars B α M H Γ σ ∧ w Γ M Qd R ∧ BOk B α M H Qd Q ∧ XOk B Wx σ α M H R
def RepWs (B : Bs) (α : List Addr) (M : MM) (H : Hp) : List W → List V → Prop
  | [], vs => vs = []
  | x :: r, vs => ∃ v s, vs = v :: s ∧ RepW B α M H x v ∧ RepWs B α M H r s
def AOk (B : Bs) (α : List Addr) (M : MM) (H : Hp) (Qd : List W → MM → Prop) (Q : List V → Hp → Prop) : Prop :=
  ∀ α' M' xs vs H', Step α M H α' M' H' → Ok B α' M' H' → RepWs B α' M' H' xs vs → Qd xs M' → Q vs H'
def lA (B : Bs) (Wx : WX) (w : WA) : TA := fun σ H Q => ∃ α Γ M Qd R, Ok B α M H ∧ Vars B α M H Γ σ ∧ w Γ M Qd R ∧ AOk B α M H Qd Q ∧ XOk B Wx σ α M H R

theorem _root_.L2.PE.imp {X : Cx} {e : Expr} {t t' : TE} (h : PE X e t) (f : ∀ σ H Q, t' σ H Q → t σ H Q) : PE X e t' := ⟨fun pins s σ H Q I q => h.run pins s σ H Q I (f σ H Q q)⟩
theorem _root_.L2.PT.imp {X : Cx} {e : Expr} {t t' : TT} (h : PT X e t) (f : ∀ σ H Q, t' σ H Q → t σ H Q) : PT X e t' := ⟨fun pins s σ H Q I q => h.run pins s σ H Q I (f σ H Q q)⟩
theorem _root_.L2.PW.imp {X : Cx} {e : Expr} {t t' : TT} (h : PW X e t) (f : ∀ σ H Q, t' σ H Q → t σ H Q) : PW X e t' := ⟨fun wh pins s σ H Q I q => h.run wh pins s σ H Q I (f σ H Q q)⟩
theorem _root_.L2.PA.imp {X : Cx} {e : List Expr} {t t' : TA} (h : PA X e t) (f : ∀ σ H Q, t' σ H Q → t σ H Q) : PA X e t' := ⟨fun p pins s σ H Q I q => h.run p pins s σ H Q I (f σ H Q q)⟩
theorem _root_.L2.PS.imp {X : Cx} {e : Stmt} {t t' : TS} (h : PS X e t) (f : ∀ D σ H, t' D σ H → t D σ H) : PS X e t' := ⟨fun pins s σ H D I q => h.run pins s σ H D I (f D σ H q)⟩
theorem _root_.L2.PSs.imp {X : Cx} {e : List Stmt} {t t' : TS} (h : PSs X e t) (f : ∀ D σ H, t' D σ H → t D σ H) : PSs X e t' := ⟨fun pins s σ H D I q => h.run pins s σ H D I (f D σ H q)⟩

section
variable {B : Bs} {Wx : WX} {σ : L2.St} {α α1 α' : List Addr} {M M1 M' : MM} {H H1 H' : Hp} {Qd : W → MM → Prop} {Q : VK} {R : XR} {Γ : GG}
theorem QOk.step (q : QOk B α M H Qd Q) (s : Step α M H α1 M1 H1) : QOk B α1 M1 H1 Qd Q := fun α' M' x v H' t => q α' M' x v H' (s.trans t)
theorem BOk.step {Qd : Bool → MM → Prop} {Q : Bool → Hp → Prop} (q : BOk B α M H Qd Q) (s : Step α M H α1 M1 H1) : BOk B α1 M1 H1 Qd Q := fun α' M' x H' t => q α' M' x H' (s.trans t)
theorem AOk.step {Qd : List W → MM → Prop} {Q : List V → Hp → Prop} (q : AOk B α M H Qd Q) (s : Step α M H α1 M1 H1) : AOk B α1 M1 H1 Qd Q := fun α' M' x v H' t => q α' M' x v H' (s.trans t)
theorem XOk.step (q : XOk B Wx σ α M H R) (s : Step α M H α1 M1 H1) : XOk B Wx σ α1 M1 H1 R := fun α' M' H' cls d c fs t => q α' M' H' cls d c fs (s.trans t)
theorem XOk.no : XOk B Wx σ α M H noX := fun _ _ _ _ _ _ _ _ _ _ h => h.elim
theorem RepWs.mono (p : α <+: α') (k : Kept (Lv B α M) H (Lv B α' M') H') : ∀ {xs : List W} {vs : List V}, RepWs B α M H xs vs → RepWs B α' M' H' xs vs
  | [], _, h => h
  | x :: xs, _, h => by
    obtain ⟨v, r, e, h1, h2⟩ := h
    exact ⟨v, r, e, h1.mono p k, RepWs.mono p k h2⟩
theorem RepWs.step {xs : List W} {vs : List V} (s : Step α M H α' M' H') (h : RepWs B α M H xs vs) : RepWs B α' M' H' xs vs := h.mono s.pre s.kept
theorem QOk.val (q : QOk B α M H Qd Q) (ok : Ok B α M H) {x : D} {v : V} (r : Rep B (Lv B α M) H x v) (h : Qd (.d x) M) : Q v H := q α M (.d x) v H (Step.refl _ _ _) ok r h
theorem QOk.wal (q : QOk B α M H Qd Q) (ok : Ok B α M H) {x : W} {v : V} (r : RepW B α M H x v) (h : Qd x M) : Q v H := q α M x v H (Step.refl _ _ _) ok r h
theorem QOk.tup (q : QOk B α M H Qd Q) (ok : Ok B α M H) {xs : List D} {vs : List V} (r : RepL B (Lv B α M) H xs vs) (h : Qd (.d (.tup xs)) M) {p : Addr} (hp : H p = none) : Q (.ref p) (upd H p (.tup vs)) :=
  q α M (.d (.tup xs)) _ _ (kept_new ok hp) (ok.new hp) ⟨p, vs, rfl, upd_same, ok.notLive hp, RepL.mono (kept_new ok hp).kept xs vs r⟩ h
theorem QOk.alc (q : QOk B α M H Qd Q) (ok : Ok B α M H) {m : Bool} {mo : MO} {x : D} {o : HO} (ro : RepO B α M H mo o) {p : Addr} (hp : H p = none) (rx : Rep B (Lv B α M) (upd H p o) x (.ref p)) (h : alloc m mo x M Qd) : Q (.ref p) (upd H p o) := by
  unfold alloc at h
  cases m with
  | true =>
    refine q (α ++ [p]) _ (.ref M.length) _ _ (step_push ok hp) (ok.push hp ro) ⟨p, ?_, rfl⟩ h
    rw [← ok.len, List.getElem?_append_right (Nat.le_refl _), Nat.sub_self]
    rfl
  | false =>
    exact q α M (.d x) _ _ (kept_new ok hp) (ok.new hp) rx h
theorem QOk.lst (q : QOk B α M H Qd Q) (ok : Ok B α M H) {m : Bool} {xs : List D} {vs : List V} (r : RepL B (Lv B α M) H xs vs) (h : allocL m xs M Qd) {p : Addr} (hp : H p = none) : Q (.ref p) (upd H p (.lst vs)) :=
  q.alc ok (mo := .lst xs) (x := .lst xs) ⟨vs, rfl, r⟩ hp ⟨p, vs, rfl, upd_same, ok.notLive hp, RepL.mono (kept_new ok hp).kept xs vs r⟩ h
/-- what may be read of data, or of an object that may change -/
def RepV (B : Bs) (L : Addr → Prop) (H : Hp) : D → V → Prop
  | .lst xs, v => ∃ a vs, v = .ref a ∧ H a = some (.lst vs) ∧ RepL B L H xs vs
  | .dct kvs, v => ∃ a ks, v = .ref a ∧ Rd H a (.dK ks) ∧ RepK B L H kvs ks
  | .dctT kvs, v => ∃ a ks, v = .ref a ∧ Rd H a (.dT ks) ∧ RepT B L H kvs ks
  | d, v => Rep B L H d v
theorem RepV.of {x : D} {v : V} {L : Addr → Prop} (h : Rep B L H x v) : RepV B L H x v := by
  cases x with
  | lst xs => obtain ⟨a, vs, e, h1, _, h2⟩ := h; exact ⟨a, vs, e, h1, h2⟩
  | dct xs => obtain ⟨a, vs, e, h1, _, h2⟩ := h; exact ⟨a, vs, e, h1, h2⟩
  | dctT xs => obtain ⟨a, vs, e, h1, _, h2⟩ := h; exact ⟨a, vs, e, h1, h2⟩
  | _ => exact h
theorem view (ok : Ok B α M H) {x : W} {d : D} {v : V} (e : vw M x = some d) (r : RepW B α M H x v) : RepV B (Lv B α M) H d v := by
  cases x with
  | d x =>
    cases e
    exact RepV.of r
  | ref i =>
    obtain ⟨a, ha, rfl⟩ := r
    simp only [vw] at e
    split at e
    · rename_i xs em; cases e; obtain ⟨o, ho, vs, rfl, h⟩ := ok.obj i _ a em ha; exact ⟨a, vs, rfl, ho, h⟩
    · rename_i xs em; cases e; obtain ⟨o, ho, vs, rfl, h⟩ := ok.obj i _ a em ha; exact ⟨a, vs, rfl, .inl ho, h⟩
    · rename_i xs em; cases e; obtain ⟨o, ho, vs, rfl, h⟩ := ok.obj i _ a em ha; exact ⟨a, vs, rfl, .inl ho, h⟩
    · cases e
theorem ap1_elim {x : W} {k : D → Prop} (h : ap1 M [x] k) : ∃ a, vw M x = some a ∧ k a := by
  simp only [ap1] at h
  split at h
  · rename_i a e; exact ⟨a, e, h⟩
  · exact h.elim
theorem ap2_elim {x y : W} {k : D → D → Prop} (h : ap2 M [x, y] k) : ∃ a b, vw M x = some a ∧ vw M y = some b ∧ k a b := by
  simp only [ap2] at h
  split at h
  · rename_i a b e e'; exact ⟨a, b, e, e', h⟩
  · exact h.elim
end

/-! ### operators -/
theorem opOr {X : Cx} {f : Value → Value → Sem Value} {r r' : R2} (h : OpR X f r) (h' : OpR X f r') : OpR X f (fun x y H Q => r x y H Q ∨ r' x y H Q) :=
  fun pins s σ H x y v u Q I rx ry q => q.elim (h pins s σ H x y v u Q I rx ry) (h' pins s σ H x y v u Q I rx ry)
theorem callOr {X : Cx} {f : Value} {r r' : List V → Hp → VK → Prop} (h : CallR X f r) (h' : CallR X f r') : CallR X f (fun x H Q => r x H Q ∨ r' x H Q) :=
  fun pins s σ H x v Q I rx q => q.elim (h pins s σ H x v Q I rx) (h' pins s σ H x v Q I rx)
theorem mtOr {X : Cx} {f : String} {r r' : V → List V → Hp → VK → Prop} (h : MtR X f r) (h' : MtR X f r') : MtR X f (fun x xs H Q => r x xs H Q ∨ r' x xs H Q) :=
  fun pins s σ H x xs v us Q I rx rs q => q.elim (h pins s σ H x xs v us Q I rx rs) (h' pins s σ H x xs v us Q I rx rs)
theorem slOr {X : Cx} {r r' : V → Option Int → Option Int → Hp → VK → Prop} (h : SlR X r) (h' : SlR X r') : SlR X (fun x l u H Q => r x l u H Q ∨ r' x l u H Q) :=
  fun pins s σ H x v vl vu lo hi sl Q I rx hs hl hu q => q.elim (h pins s σ H x v vl vu lo hi sl Q I rx hs hl hu) (h' pins s σ H x v vl vu lo hi sl Q I rx hs hl hu)

section
variable {X : Cx} {B : Bs} {α : List Addr} {M : MM} {H : Hp} {Qd : W → MM → Prop} {Q : VK}
/-- a rule over values serves a wish over data -/
def OpSnd (X : Cx) (B : Bs) (f : Value → Value → Sem Value) (k : D → D → MM → (W → MM → Prop) → Prop) : Prop :=
  ∃ r : R2, OpR X f r ∧ ∀ (α : List Addr) (M : MM) (H : Hp) (Qd : W → MM → Prop) (Q : VK) (x y : D) (v u : V), Ok B α M H → RepV B (Lv B α M) H x v → RepV B (Lv B α M) H y u → k x y M Qd → QOk B α M H Qd Q → r v u H Q

theorem bin_add (hK : X.K = B.K) (m : Bool) : OpSnd X B (binaryOp .Add) (binD .Add m) := by
  refine ⟨_, opOr (opOr op_add op_add_str) (opOr op_cat op_catA), fun α M H Qd Q x y v u ok rx ry h q => ?_⟩
  unfold binD at h
  cases x <;> cases y <;> simp only at h
  case int.int a b => cases rx; cases ry; exact .inl (.inl ⟨a, b, rfl, rfl, q.val ok (x := .int _) rfl h⟩)
  case str.str a b =>
    obtain ⟨rfl, sa⟩ := rx
    obtain ⟨rfl, sb⟩ := ry
    refine .inl (.inr ⟨a, b, rfl, rfl, h.1, q.val ok (x := .str _) ⟨rfl, ?_⟩ h.2⟩)
    show (a.cps ++ b.cps).all _ = true
    rw [Array.all_append, sa, sb]
    rfl
  case lst.lst a b =>
    obtain ⟨p, vs, rfl, hp, r1⟩ := rx
    obtain ⟨p', ws, rfl, hp', r2⟩ := ry
    exact .inr (.inl ⟨p, p', vs, ws, rfl, rfl, hp, hp', by rw [r1.len, r2.len]; exact h.1, fun z hz => q.lst ok (r1.app r2) h.2 hz⟩)
  case tup.tup a b =>
    have rx' : Rep B (Lv B α M) H (.tup a) v := rx
    have ry' : Rep B (Lv B α M) H (.tup b) u := ry
    obtain ⟨p, vs, rfl, hp, _, r1⟩ := rx
    obtain ⟨p', ws, rfl, hp', _, r2⟩ := ry
    have l1 := r1.len
    have l2 := r2.len
    refine .inr (.inr ⟨p, p', vs, ws, rfl, rfl, SqT.of hp, SqT.of hp', by rw [l1, l2]; exact h.1, fun e => ?_, fun _ e => ?_, fun _ _ z hz => q.tup ok (r1.app r2) h.2 hz⟩)
    · subst e
      have : a = [] := List.length_eq_zero_iff.mp l1.symm
      subst this
      exact q.val ok ry' h.2
    · subst e
      have : b = [] := List.length_eq_zero_iff.mp l2.symm
      subst this
      have h2 := h.2
      rw [List.append_nil] at h2
      exact q.val ok rx' h2
theorem bin_int {op : Operator} {C : Int → Int → Prop} {g : Int → Int → Int} (m : Bool) (ho : OpR X (binaryOp op) (rI C fun i j => .int (g i j)))
    (hb : ∀ x y M Q, binD op m x y M Q → ∃ a b, x = .int a ∧ y = .int b ∧ C a b ∧ Q (.d (.int (g a b))) M) : OpSnd X B (binaryOp op) (binD op m) := by
  refine ⟨_, ho, fun α M H Qd Q x y v u ok rx ry h q => ?_⟩
  obtain ⟨a, b, rfl, rfl, c, h⟩ := hb x y M Qd h
  cases rx
  cases ry
  exact ⟨a, b, rfl, rfl, c, q.val ok (x := .int _) rfl h⟩
theorem bin_sub (m : Bool) : OpSnd X B (binaryOp .Sub) (binD .Sub m) := by
  refine ⟨_, op_sub, fun α M H Qd Q x y v u ok rx ry h q => ?_⟩
  unfold binD at h
  cases x <;> cases y <;> simp only at h
  case int.int a b => cases rx; cases ry; exact ⟨a, b, rfl, rfl, q.val ok (x := .int _) rfl h⟩
theorem bin_mod (m : Bool) : OpSnd X B (binaryOp .Mod) (binD .Mod m) := bin_int m op_modN fun x y M Q h => by
  unfold binD at h
  cases x <;> cases y <;> simp only at h
  case int.int a b => exact ⟨a, b, rfl, rfl, h⟩
theorem bin_fdiv (m : Bool) : OpSnd X B (binaryOp .FloorDiv) (binD .FloorDiv m) := bin_int m op_fdivN fun x y M Q h => by
  unfold binD at h
  cases x <;> cases y <;> simp only at h
  case int.int a b => exact ⟨a, b, rfl, rfl, h⟩
theorem bin_pow (m : Bool) : OpSnd X B (binaryOp .Pow) (binD .Pow m) := bin_int m op_pow fun x y M Q h => by
  unfold binD at h
  cases x <;> cases y <;> simp only at h
  case int.int a b => exact ⟨a, b, rfl, rfl, h⟩
theorem RepL.rep {L : Addr → Prop} {xs : List D} {vs : List V} (h : RepL B L H xs vs) : ∀ n : Nat, RepL B L H (List.replicate n xs).flatten (List.replicate n vs).flatten
  | 0 => rfl
  | n + 1 => by
    rw [List.replicate_succ, List.replicate_succ, List.flatten_cons, List.flatten_cons]
    exact h.app (RepL.rep h n)
theorem bin_mul (m : Bool) : OpSnd X B (binaryOp .Mult) (binD .Mult m) := by
  refine ⟨_, opOr op_mul (opOr op_rep (opOr op_rep1 op_repN)), fun α M H Qd Q x y v u ok rx ry h q => ?_⟩
  unfold binD at h
  cases x <;> cases y <;> simp only at h
  case int.int a b => cases rx; cases ry; exact .inl ⟨a, b, rfl, rfl, h.1, q.val ok (x := .int _) rfl h.2⟩
  case lst.int a b =>
    obtain ⟨p, vs, rfl, hp, r1⟩ := rx
    cases ry
    exact .inr (.inl ⟨p, b, vs, rfl, rfl, hp, h.1.1, h.1.2.1, by rw [r1.len]; exact h.1.2.2, fun z hz => q.lst ok (r1.rep _) h.2 hz⟩)
  case tup.int a b =>
    have rx' : Rep B _ _ (.tup a) v := rx
    obtain ⟨p, vs, rfl, hp, hn, r1⟩ := rx'
    cases ry
    obtain ⟨h0, h⟩ := h
    have h1 : 1 ≤ b ∧ b < 2 ^ 62 := by omega
    have h3 : a.length * b.toNat ≤ sizeLine := by
      rcases h0 with ⟨z1, z2, z3⟩ | ⟨_, _, z⟩
      · have := Nat.mul_le_mul z3 (show b.toNat ≤ 1000 by omega)
        rw [sizeLine_eq]
        omega
      · exact z
    obtain ⟨h1, h2⟩ := h1
    by_cases c : vs = [] ∨ b = 1
    · refine .inr (.inr (.inl ⟨p, b, vs, rfl, rfl, SqT.of hp, c, by omega, h2, ?_⟩))
      refine q.val ok (x := .tup (List.replicate b.toNat a).flatten) ⟨p, vs, rfl, hp, hn, ?_⟩ h
      have e : (List.replicate b.toNat a).flatten = a := by
        rcases c with c | c
        · subst c
          have : a = [] := List.length_eq_zero_iff.mp r1.len.symm
          subst this
          simp
        · subst c
          simp
      rw [e]
      exact r1
    · refine .inr (.inr (.inr ⟨p, b, vs, rfl, rfl, SqT.of hp, fun e => c (.inl e), ?_, h2, by rw [r1.len]; exact h3, fun z hz => q.tup ok (r1.rep _) h hz⟩))
      have : b ≠ 1 := fun e => c (.inr e)
      omega
theorem bin_snd (hK : X.K = B.K) (op : Operator) (m : Bool) : OpSnd X B (binaryOp op) (binD op m) := by
  cases op with
  | Add => exact bin_add hK m
  | Sub => exact bin_sub m
  | Mult => exact bin_mul m
  | Mod => exact bin_mod m
  | FloorDiv => exact bin_fdiv m
  | Pow => exact bin_pow m
  | _ => exact ⟨fun _ _ _ _ => False, fun _ _ _ _ _ _ _ _ _ _ _ _ h => h.elim, fun α M H Qd Q x y v u ok rx ry h q => h⟩
end
end DL

/-! DL3: comparisons, subscripts, slices, built-in functions and methods over data. -/
namespace DL
open PySem PySem.Spec L2
section
variable {X : Cx} {B : Bs} {L : Addr → Prop} {α : List Addr} {M : MM} {H : Hp} {Qd : W → MM → Prop} {Q : VK}

theorem Rep.flat {d : D} {v : V} (h : Rep B L H d v) (f : flatD d = true) : flatV v = true := by
  cases d with
  | non => cases h; rfl
  | bl b => cases h; rfl
  | int b => cases h; rfl
  | str b => obtain ⟨rfl, _⟩ := h; rfl
  | _ => cases f
theorem eqF_V {d e : D} {v u : V} (h : Rep B L H d v) (g : Rep B L H e u) (f : flatD d = true) (f' : flatD e = true) : eqF d e = eqV v u := by
  cases d with
  | non => cases h; cases e with
    | non => cases g; rfl
    | bl b => cases g; rfl
    | int b => cases g; rfl
    | str b => obtain ⟨rfl, _⟩ := g; rfl
    | _ => cases f'
  | bl b => cases h; cases e with
    | non => cases g; rfl
    | bl b => cases g; rfl
    | int b => cases g; rfl
    | str b => obtain ⟨rfl, _⟩ := g; rfl
    | _ => cases f'
  | int b => cases h; cases e with
    | non => cases g; rfl
    | bl b => cases g; rfl
    | int b => cases g; rfl
    | str b => obtain ⟨rfl, _⟩ := g; rfl
    | _ => cases f'
  | str b => obtain ⟨rfl, _⟩ := h; cases e with
    | non => cases g; rfl
    | bl b => cases g; rfl
    | int b => cases g; rfl
    | str b => obtain ⟨rfl, _⟩ := g; rfl
    | _ => cases f'
  | _ => cases f
theorem RepL.flat : ∀ {ds : List D} {vs : List V}, RepL B L H ds vs → ds.all flatD = true → vs.all flatV = true
  | [], _, h, _ => by cases h; rfl
  | d :: ds, _, h, f => by
    obtain ⟨v, r, rfl, h1, h2⟩ := h
    rw [List.all_cons, Bool.and_eq_true] at f ⊢
    exact ⟨h1.flat f.1, RepL.flat h2 f.2⟩
theorem inV_eq {x : D} {v : V} (hx : Rep B L H x v) (fx : flatD x = true) : ∀ {ds : List D} {vs : List V}, RepL B L H ds vs → ds.all flatD = true → inV v vs = ds.any fun y => eqF y x
  | [], _, h, _ => by cases h; rfl
  | d :: ds, _, h, f => by
    obtain ⟨u, r, rfl, h1, h2⟩ := h
    rw [List.all_cons, Bool.and_eq_true] at f
    have ih := inV_eq hx fx h2 f.2
    unfold inV at ih ⊢
    rw [List.any_cons, List.any_cons, ih, eqF_V h1 hx f.1 fx]
mutual
theorem Rep.dp : ∀ (d : D) (v : V) (p : PyData), Rep B L H d v → toPy d = some p → Dp B.K H v p ∧ p.canLay0 = true
  | .non, _, _, h, e => by cases h; cases e; exact ⟨.non, rfl⟩
  | .bl b, _, _, h, e => by cases h; cases e; exact ⟨.bl b, rfl⟩
  | .int i, _, _, h, e => by cases h; cases e; exact ⟨.int i, rfl⟩
  | .str s, _, _, h, e => by
    obtain ⟨rfl, hs⟩ := h
    cases e
    refine ⟨.str s, ?_⟩
    simp only [PyData.canLay0, PyData.strOk]
    exact hs
  | .lst xs, _, _, h, e => by
    obtain ⟨a, vs, rfl, h1, _, h2⟩ := h
    simp only [toPy] at e
    split at e
    · rename_i ys ey
      cases e
      obtain ⟨r, c⟩ := RepL.dp xs vs ys h2 ey
      exact ⟨.lst (SqL.of h1) r, by simp only [PyData.canLay0]; exact c⟩
    · cases e
  | .tup xs, _, _, h, e => by
    obtain ⟨a, vs, rfl, h1, _, h2⟩ := h
    simp only [toPy] at e
    split at e
    · rename_i ys ey
      cases e
      obtain ⟨r, c⟩ := RepL.dp xs vs ys h2 ey
      exact ⟨.tup (SqT.of h1) r, by simp only [PyData.canLay0]; exact c⟩
    · cases e
  | .tupF xs, _, _, h, e => by
    obtain ⟨a, vs, o, rfl, h1, _, _, h2⟩ := h
    simp only [toPy] at e
    split at e
    · rename_i ys ey
      cases e
      obtain ⟨r, c⟩ := RepL.dp xs vs ys h2 ey
      exact ⟨.tup (.inl (.inr ⟨o, h1⟩)) r, by simp only [PyData.canLay0]; exact c⟩
    · cases e
  | .tupK _, _, _, _, e => by simp only [toPy] at e; cases e
  | .scr _, _, _, _, e => by simp only [toPy] at e; cases e
  | .dct _, _, _, _, e => by simp only [toPy] at e; cases e
  | .dctT _, _, _, _, e => by simp only [toPy] at e; cases e
  | .obj _ _, _, _, _, e => by simp only [toPy] at e; cases e
  | .fn _, _, _, _, e => by simp only [toPy] at e; cases e
theorem RepL.dp : ∀ (ds : List D) (vs : List V) (ps : List PyData), RepL B L H ds vs → toPys ds = some ps → DpAll B.K H vs ps ∧ PyData.canLayAll0 ps = true
  | [], _, _, h, e => by cases h; simp only [toPys] at e; cases e; exact ⟨.nil, rfl⟩
  | d :: ds, _, _, h, e => by
    obtain ⟨v, r, rfl, h1, h2⟩ := h
    simp only [toPys] at e
    split at e
    · rename_i y ys ey eys
      cases e
      obtain ⟨r1, c1⟩ := Rep.dp d v y h1 ey
      obtain ⟨r2, c2⟩ := RepL.dp ds r ys h2 eys
      exact ⟨.cons r1 r2, by simp only [PyData.canLayAll0, c1, c2, Bool.and_self]⟩
    · cases e
end
theorem RepV.dp {d : D} {v : V} {p : PyData} (h : RepV B L H d v) (e : toPy d = some p) : Dp B.K H v p ∧ p.canLay0 = true := by
  cases d with
  | lst xs =>
    obtain ⟨a, vs, rfl, h1, h2⟩ := h
    simp only [toPy] at e
    split at e
    · rename_i ys ey
      cases e
      obtain ⟨r, c⟩ := RepL.dp xs vs ys h2 ey
      exact ⟨.lst (SqL.of h1) r, by simp only [PyData.canLay0]; exact c⟩
    · cases e
  | dct kvs => simp only [toPy] at e; cases e
  | dctT kvs => simp only [toPy] at e; cases e
  | _ => exact Rep.dp _ _ _ h e
theorem shaped_of {p : PyData} (c : p.canLay0 = true) (h : p.depth ≤ 64) : SeqAt.shaped p = true := by
  unfold SeqAt.shaped
  rw [c, decide_eq_true h]
  rfl

def CmpSnd (X : Cx) (B : Bs) (f : Value → Value → Sem Value) (k : D → D → (Bool → Prop) → Prop) : Prop :=
  ∃ r : R2, OpR X f r ∧ ∀ (L : Addr → Prop) (H : Hp) (Q : VK) (x y : D) (v u : V), RepV B L H x v → RepV B L H y u → k x y (fun b => Q (.bl b) H) → r v u H Q

theorem dec_int (a b : Int) : decide (V.int a = V.int b) = decide (a = b) := by
  by_cases h : a = b
  · rw [decide_eq_true h, decide_eq_true (by rw [h])]
  · rw [decide_eq_false h, decide_eq_false (fun e => h (V.int.inj e))]
theorem dec_str (a b : Str) : decide (V.str a = V.str b) = decide (a = b) := by
  by_cases h : a = b
  · rw [decide_eq_true h, decide_eq_true (by rw [h])]
  · rw [decide_eq_false h, decide_eq_false (fun e => h (V.str.inj e))]
theorem eqDD_elim {x y : D} {k : Bool → Prop} (h : eqDD x y k) : (∃ a b, x = .int a ∧ y = .int b ∧ k (decide (a = b))) ∨ (∃ a b, x = .str a ∧ y = .str b ∧ k (decide (a = b))) ∨
    ∃ p q, toPy x = some p ∧ toPy y = some q ∧ p.depth ≤ 64 ∧ q.depth ≤ 64 ∧ k (PyData.eqv p q) := by
  unfold eqDD at h
  split at h
  · exact .inl ⟨_, _, rfl, rfl, h⟩
  · exact .inr (.inl ⟨_, _, rfl, rfl, h⟩)
  · rw [eqDG_def] at h
    split at h
    · rename_i p q e1 e2
      exact .inr (.inr ⟨p, q, e1, e2, h⟩)
    · exact h.elim
theorem cmp_eq (hK : X.K = B.K) (hu : X.A.units + 65 < cLine) : CmpSnd X B (compareOp .Eq) eqDD := by
  refine ⟨_, opOr (op_eq (X := X)) (op_eqD (by omega)), fun L H Q x y v u rx ry h => ?_⟩
  rcases eqDD_elim h with ⟨a, b, rfl, rfl, h⟩ | ⟨a, b, rfl, rfl, h⟩ | ⟨p, q, e1, e2, d1, d2, h⟩
  · cases rx; cases ry
    exact .inl ⟨rfl, by rw [dec_int]; exact h⟩
  · obtain ⟨rfl, _⟩ := rx; obtain ⟨rfl, _⟩ := ry
    exact .inl ⟨rfl, by rw [dec_str]; exact h⟩
  · obtain ⟨r1, c1⟩ := rx.dp e1
    obtain ⟨r2, c2⟩ := ry.dp e2
    exact .inr ⟨p, q, by rw [hK]; exact r1, by rw [hK]; exact r2, shaped_of c1 d1, shaped_of c2 d2, h⟩
theorem cmp_ne (hK : X.K = B.K) (hu : X.A.units + 65 < cLine) : CmpSnd X B (compareOp .NotEq) (fun x y k => eqDD x y fun b => k (!b)) := by
  refine ⟨_, opOr (op_ne (X := X)) (op_neD (by omega)), fun L H Q x y v u rx ry h => ?_⟩
  rcases eqDD_elim h with ⟨a, b, rfl, rfl, h⟩ | ⟨a, b, rfl, rfl, h⟩ | ⟨p, q, e1, e2, d1, d2, h⟩
  · cases rx; cases ry
    exact .inl ⟨rfl, by rw [dec_int]; exact h⟩
  · obtain ⟨rfl, _⟩ := rx; obtain ⟨rfl, _⟩ := ry
    exact .inl ⟨rfl, by rw [dec_str]; exact h⟩
  · obtain ⟨r1, c1⟩ := rx.dp e1
    obtain ⟨r2, c2⟩ := ry.dp e2
    exact .inr ⟨p, q, by rw [hK]; exact r1, by rw [hK]; exact r2, shaped_of c1 d1, shaped_of c2 d2, h⟩
theorem ltDD_elim {x y : D} {k : Bool → Prop} (h : ltDD x y k) : (∃ a b, x = .int a ∧ y = .int b ∧ k (decide (a < b))) ∨ (∃ a b, x = .str a ∧ y = .str b ∧ k (decide (a.cps.toList < b.cps.toList))) := by
  unfold ltDD at h
  split at h
  · exact .inl ⟨_, _, rfl, rfl, h⟩
  · exact .inr ⟨_, _, rfl, rfl, h⟩
  · exact h.elim
theorem leDD_elim {x y : D} {k : Bool → Prop} (h : leDD x y k) : (∃ a b, x = .int a ∧ y = .int b ∧ k (decide (a ≤ b))) ∨ (∃ a b, x = .str a ∧ y = .str b ∧ k (!decide (b.cps.toList < a.cps.toList))) := by
  unfold leDD at h
  split at h
  · exact .inl ⟨_, _, rfl, rfl, h⟩
  · exact .inr ⟨_, _, rfl, rfl, h⟩
  · exact h.elim
theorem cmp_lt : CmpSnd X B (compareOp .Lt) ltDD := by
  refine ⟨_, opOr (op_lt (X := X)) op_lt_str, fun L H Q x y v u rx ry h => ?_⟩
  rcases ltDD_elim h with ⟨a, b, rfl, rfl, h⟩ | ⟨a, b, rfl, rfl, h⟩
  · cases rx; cases ry; exact .inl ⟨a, b, rfl, rfl, h⟩
  · obtain ⟨rfl, _⟩ := rx; obtain ⟨rfl, _⟩ := ry; exact .inr ⟨a, b, rfl, rfl, h⟩
theorem cmp_gt : CmpSnd X B (compareOp .Gt) (fun x y => ltDD y x) := by
  refine ⟨_, opOr (op_gt (X := X)) op_gt_str, fun L H Q x y v u rx ry h => ?_⟩
  rcases ltDD_elim h with ⟨a, b, rfl, rfl, h⟩ | ⟨a, b, rfl, rfl, h⟩
  · cases rx; cases ry; exact .inl ⟨b, a, rfl, rfl, h⟩
  · obtain ⟨rfl, _⟩ := rx; obtain ⟨rfl, _⟩ := ry; exact .inr ⟨b, a, rfl, rfl, h⟩
theorem cmp_le : CmpSnd X B (compareOp .LtE) leDD := by
  refine ⟨_, opOr (op_le (X := X)) op_le_str, fun L H Q x y v u rx ry h => ?_⟩
  rcases leDD_elim h with ⟨a, b, rfl, rfl, h⟩ | ⟨a, b, rfl, rfl, h⟩
  · cases rx; cases ry; exact .inl ⟨a, b, rfl, rfl, h⟩
  · obtain ⟨rfl, _⟩ := rx; obtain ⟨rfl, _⟩ := ry; exact .inr ⟨a, b, rfl, rfl, h⟩
theorem cmp_ge : CmpSnd X B (compareOp .GtE) (fun x y => leDD y x) := by
  refine ⟨_, opOr (op_ge (X := X)) op_ge_str, fun L H Q x y v u rx ry h => ?_⟩
  rcases leDD_elim h with ⟨a, b, rfl, rfl, h⟩ | ⟨a, b, rfl, rfl, h⟩
  · cases rx; cases ry; exact .inl ⟨b, a, rfl, rfl, h⟩
  · obtain ⟨rfl, _⟩ := rx; obtain ⟨rfl, _⟩ := ry; exact .inr ⟨b, a, rfl, rfl, h⟩
/-! in -/
theorem keyD_rep {x : D} {k : Key} {v : V} (e : keyD x = some k) (h : Rep B L H x v) : v = kV k := by
  cases x with
  | int i => cases e; exact h
  | str s => cases e; exact h.1
  | _ => cases e
theorem keysD_rep : ∀ {xs : List D} {ks : List Key} {vs : List V}, keysD xs = some ks → RepL B L H xs vs → vs = ks.map kV
  | [], _, _, e, h => by cases h; cases e; rfl
  | x :: xs, _, _, e, h => by
    obtain ⟨v, r, rfl, h1, h2⟩ := h
    simp only [keysD] at e
    split at e
    · rename_i k ks e1 e2
      cases e
      rw [List.map_cons, keyD_rep e1 h1, keysD_rep e2 h2]
    · cases e
theorem look_repK : ∀ {kvs : List (Key × D)} {ks : List (Key × V)} (k : Key), RepK B L H kvs ks → (valV ks k = none ∧ lookG kvs k = none) ∨ ∃ v d, valV ks k = some v ∧ lookG kvs k = some d ∧ Rep B L H d v
  | [], _, k, h => by cases h; exact .inl ⟨rfl, rfl⟩
  | (c, d) :: r, _, k, h => by
    obtain ⟨v, s, rfl, h1, h2⟩ := h
    unfold valV
    rw [List.find?_cons, lookG]
    by_cases hk : c = k
    · simp only [hk, decide_true]
      exact .inr ⟨v, d, rfl, rfl, h1⟩
    · simp only [hk, decide_false]
      exact look_repK k h2
theorem look_repT : ∀ {kvs : List (List Key × D)} {ks : List (List Key × V)} (k : List Key), RepT B L H kvs ks → (valV ks k = none ∧ lookG kvs k = none) ∨ ∃ v d, valV ks k = some v ∧ lookG kvs k = some d ∧ Rep B L H d v
  | [], _, k, h => by cases h; exact .inl ⟨rfl, rfl⟩
  | (c, d) :: r, _, k, h => by
    obtain ⟨v, s, rfl, h1, h2⟩ := h
    unfold valV
    rw [List.find?_cons, lookG]
    by_cases hk : c = k
    · simp only [hk, decide_true]
      exact .inr ⟨v, d, rfl, rfl, h1⟩
    · simp only [hk, decide_false]
      exact look_repT k h2
theorem op_din (hu : X.A.units + 1 < cLine) : OpR X (compareOp .In) (fun y x H Q => ∃ a o, x = .ref a ∧ DGet H a y o ∧ Q (.bl o.isSome) H) := by
  intro pins s σ H y x iv u Q I ry rx h
  obtain ⟨a, ov, rfl, g, q2⟩ := h
  obtain rfl : u = Value.ref a := rx
  exact d_in hu I g ry fun s3 I3 => ⟨.bl ov.isSome, H, I3, rfl, q2⟩
theorem op_dnotin (hu : X.A.units + 1 < cLine) : OpR X (compareOp .NotIn) (fun y x H Q => ∃ a o, x = .ref a ∧ DGet H a y o ∧ Q (.bl (!o.isSome)) H) := by
  intro pins s σ H y x iv u Q I ry rx h
  obtain ⟨a, ov, rfl, g, q2⟩ := h
  obtain rfl : u = Value.ref a := rx
  exact d_notIn hu I g ry fun s3 I3 => ⟨.bl (!ov.isSome), H, I3, rfl, q2⟩
theorem inL_elim {x : D} {ys : List D} {k : Bool → Prop} (h : inL x ys k) : flatD x = true ∧ ys.all flatD = true ∧ k (ys.any fun y => eqF y x) := by
  unfold inL at h
  rw [ifB_iff] at h
  split at h
  · rename_i c
    rw [Bool.and_eq_true] at c
    exact ⟨c.1, c.2, h⟩
  · exact h.elim
theorem RepV.rep {x : D} {v : V} (h : RepV B L H x v) (f : flatD x = true) : Rep B L H x v := by
  cases x with
  | lst _ => cases f
  | dct _ => cases f
  | dctT _ => cases f
  | _ => exact h
inductive InHow (B : Bs) (L : Addr → Prop) (H : Hp) (x y : D) (v u : V) (k : Bool → Prop) : Prop where
  | seq (p : Addr) (xs : List V) (e : u = .ref p) (s : SqL B.K H p xs ∨ SqT B.K H p xs) (f : flatV v = true) (g : xs.all flatV = true) (h : k (inV v xs))
  | deep (d : PyData) (ds : List PyData) (r : Dp B.K H v d) (r' : Dp B.K H u (.list ds)) (s : SeqAt.shaped d = true) (s' : SeqAt.shaped (.list ds) = true) (h : k (ds.any fun z => PyData.eqv z d))
  | dict (a : Addr) (o : Option V) (e : u = .ref a) (g : DGet H a v o) (h : k o.isSome)
theorem in_how {x y : D} {v u : V} {k : Bool → Prop} (rx : RepV B L H x v) (ry : RepV B L H y u) (h : inDD x y k) : InHow B L H x y v u k := by
  unfold inDD at h
  split at h
  · rename_i ys
    obtain ⟨a, vs, rfl, h1, h2⟩ := ry
    rw [inLst_def, ifB_iff] at h
    split at h
    · rename_i c
      rw [Bool.and_eq_true] at c
      exact .seq a vs rfl (.inl (SqL.of h1)) ((rx.rep c.1).flat c.1) (h2.flat c.2) (by rw [inV_eq (rx.rep c.1) c.1 h2 c.2]; exact h)
    · split at h
      · rename_i p q e1 e2
        obtain ⟨r1, c1⟩ := rx.dp e1
        obtain ⟨r2, c2⟩ := RepL.dp _ _ _ h2 e2
        exact .deep p q r1 (.lst (SqL.of h1) r2) (shaped_of c1 h.1) (shaped_of (by simp only [PyData.canLay0]; exact c2) h.2.1) h.2.2
      · exact h.elim
  · rename_i ys
    obtain ⟨a, vs, rfl, h1, _, h2⟩ := ry
    obtain ⟨f, g, h⟩ := inL_elim h
    exact .seq a vs rfl (.inr (SqT.of h1)) ((rx.rep f).flat f) (h2.flat g) (by rw [inV_eq (rx.rep f) f h2 g]; exact h)
  · rename_i ys
    obtain ⟨a, vs, o, rfl, h1, _, _, h2⟩ := ry
    obtain ⟨f, g, h⟩ := inL_elim h
    exact .seq a vs rfl (.inr (.inl (.inr ⟨o, h1⟩))) ((rx.rep f).flat f) (h2.flat g) (by rw [inV_eq (rx.rep f) f h2 g]; exact h)
  · rename_i kvs
    obtain ⟨a, ks, rfl, h1, h2⟩ := ry
    split at h
    · rename_i q e
      have fx : flatD x = true := by cases x <;> first | rfl | cases e
      have hv := keyD_rep e (rx.rep fx)
      rcases look_repK q h2 with ⟨e1, e2⟩ | ⟨w, d, e1, e2, _⟩
      · exact .dict a none rfl (.inl ⟨ks, q, h1, hv, e1.symm⟩) (by rw [e2] at h; exact h)
      · exact .dict a (some w) rfl (.inl ⟨ks, q, h1, hv, e1.symm⟩) (by rw [e2] at h; exact h)
    · exact h.elim
  · rename_i kvs
    obtain ⟨a, ks, rfl, h1, h2⟩ := ry
    split at h
    · rename_i xs
      obtain ⟨b, vs, rfl, hb, _, h3⟩ := rx
      split at h
      · rename_i q e
        have hv := keysD_rep e h3
        subst hv
        rcases look_repT q h2 with ⟨e1, e2⟩ | ⟨w, d, e1, e2, _⟩
        · exact .dict a none rfl (.inr ⟨ks, q, b, h1, rfl, hb, e1.symm⟩) (by rw [e2] at h; exact h)
        · exact .dict a (some w) rfl (.inr ⟨ks, q, b, h1, rfl, hb, e1.symm⟩) (by rw [e2] at h; exact h)
      · exact h.elim
    · exact h.elim
  · exact h.elim
theorem cmp_in (hK : X.K = B.K) (hu : X.A.units + 65 < cLine) : CmpSnd X B (compareOp .In) inDD := by
  refine ⟨_, opOr (op_in_seq (X := X)) (opOr (op_inD hu) (op_din (by omega))), fun L H Q x y v u rx ry h => ?_⟩
  cases in_how rx ry h with
  | seq p xs e s f g h => exact .inl ⟨p, xs, e, by rw [hK]; exact s, f, g, h⟩
  | deep d ds r r' s s' h => exact .inr (.inl ⟨d, ds, by rw [hK]; exact r, by rw [hK]; exact r', s, s', h⟩)
  | dict a o e g h => exact .inr (.inr ⟨a, o, e, g, h⟩)
theorem cmp_notin (hK : X.K = B.K) (hu : X.A.units + 65 < cLine) : CmpSnd X B (compareOp .NotIn) (fun x y k => inDD x y fun b => k (!b)) := by
  refine ⟨_, opOr (op_notIn_seq (X := X)) (opOr (op_notInD hu) (op_dnotin (by omega))), fun L H Q x y v u rx ry h => ?_⟩
  cases in_how rx ry h with
  | seq p xs e s f g h => exact .inl ⟨p, xs, e, by rw [hK]; exact s, f, g, h⟩
  | deep d ds r r' s s' h => exact .inr (.inl ⟨d, ds, by rw [hK]; exact r, by rw [hK]; exact r', s, s', h⟩)
  | dict a o e g h => exact .inr (.inr ⟨a, o, e, g, h⟩)
theorem nonV {x : D} {v : V} (rx : RepV B L H x v) : decide (v = .non) = (match x with | .non => true | _ => false) := by
  cases x with
  | non => cases rx; rfl
  | bl _ => cases rx; rfl
  | int _ => cases rx; rfl
  | str _ => obtain ⟨rfl, _⟩ := rx; rfl
  | lst _ => obtain ⟨a, _, rfl, _⟩ := rx; rfl
  | tup _ => obtain ⟨a, _, rfl, _⟩ := rx; rfl
  | tupK _ => obtain ⟨a, _, rfl, _⟩ := rx; rfl
  | tupF _ => obtain ⟨a, _, _, rfl, _⟩ := rx; rfl
  | scr _ => obtain ⟨a, rfl, _⟩ := rx; rfl
  | dct _ => obtain ⟨a, _, rfl, _⟩ := rx; rfl
  | dctT _ => obtain ⟨a, _, rfl, _⟩ := rx; rfl
  | obj _ _ => obtain ⟨a, _, _, _, rfl, _⟩ := rx; rfl
  | fn _ => obtain ⟨a, rfl, _⟩ := rx; rfl
  | exc _ _ _ _ => obtain ⟨rfl, _⟩ := rx; rfl
theorem cmp_is : CmpSnd X B (compareOp .Is) (cmpD .Is) := by
  refine ⟨_, op_isN, fun L H Q x y v u rx ry h => ?_⟩
  unfold cmpD at h
  cases y <;> simp only at h
  cases ry
  exact ⟨rfl, by rw [nonV rx]; cases x <;> exact h⟩
theorem cmp_isnot : CmpSnd X B (compareOp .IsNot) (cmpD .IsNot) := by
  refine ⟨_, op_notN, fun L H Q x y v u rx ry h => ?_⟩
  unfold cmpD at h
  cases y <;> simp only at h
  cases ry
  exact ⟨rfl, by rw [nonV rx]; cases x <;> exact h⟩
theorem cmp_snd (hK : X.K = B.K) (hu : X.A.units + 65 < cLine) (op : CmpOp) : CmpSnd X B (compareOp op) (cmpD op) := by
  cases op with
  | Eq => exact cmp_eq hK hu
  | NotEq => exact cmp_ne hK hu
  | Lt => exact cmp_lt
  | LtE => exact cmp_le
  | Gt => exact cmp_gt
  | GtE => exact cmp_ge
  | In => exact cmp_in hK hu
  | NotIn => exact cmp_notin hK hu
  | Is => exact cmp_is
  | IsNot => exact cmp_isnot
end
end DL

/-! DL4: subscripts, slices, what is reversed. -/
namespace DL
open PySem PySem.Spec L2 PyProof.Rows
section
variable {X : Cx} {B : Bs} {L : Addr → Prop} {α : List Addr} {M : MM} {H : Hp} {Qd : W → MM → Prop} {Q : VK}

theorem ix_dict (hu : X.A.units + 1 < cLine) : IxR X (fun x y H Q => ∃ a v, x = .ref a ∧ DGet H a y (some v) ∧ Q v H) := by
  intro value slice pins s σ H x y v u Q I rx ry h hs
  obtain ⟨a, w, rfl, g, q⟩ := h
  cases rx
  exact tail_any (dict_typeIs I g) PySem.F.slot_dict_getitem.lookup (d_getItem hu I g ry fun w' s3 I3 rw' => ⟨w, H, I3, rw', q⟩) hs
theorem ixOr {r r' : R2} (h : IxR X r) (h' : IxR X r') : IxR X (fun x y H Q => r x y H Q ∨ r' x y H Q) :=
  fun value slice pins s σ H x y v u Q I rx ry q hs => q.elim (fun q => h value slice pins s σ H x y v u Q I rx ry q hs) (fun q => h' value slice pins s σ H x y v u Q I rx ry q hs)
theorem atI_rep {xs : List D} {vs : List V} {i : Int} {d : D} (h : RepL B L H xs vs) (e : atI xs i = some d) : ∃ v, atI vs i = some v ∧ Rep B L H d v := by
  unfold atI at e ⊢
  rw [h.len]
  cases hx : ixN xs.length i with
  | none => rw [hx] at e; cases e
  | some j =>
    rw [hx] at e
    exact h.get e
theorem repKW_look {kvs : List (Key × W)} : ∀ {ks : List (Key × V)} {k : Key} {w : W}, RepKW B α M H kvs ks → lookG kvs k = some w → ∃ v, valV ks k = some v ∧ RepW B α M H w v := by
  induction kvs with
  | nil => intro ks k w h e; cases e
  | cons q r ih =>
    intro ks k w h e
    obtain ⟨c, x⟩ := q
    obtain ⟨v, s, rfl, h1, h2⟩ := h
    unfold valV
    rw [lookG] at e
    rw [List.find?_cons]
    by_cases hk : c = k
    · simp only [hk, decide_true] at e ⊢
      cases e
      exact ⟨v, rfl, h1⟩
    · simp only [hk, decide_false] at e ⊢
      exact ih h2 e
/-- how an item is found -/
theorem idx_how {x y : D} {v u : V} {k : D → Prop} {Q : VK} (rx : RepV B L H x v) (ry : Rep B L H y u) (h : idxD x y k) (hq : ∀ d w, k d → Rep B L H d w → Q w H) :
    rIxL B.K v u H Q ∨ rIxT B.K v u H Q ∨ rIxS v u H Q ∨ (∃ a w, v = .ref a ∧ DGet H a u (some w) ∧ Q w H) := by
  unfold idxD at h
  split at h
  · rename_i xs i
    obtain ⟨a, vs, rfl, h1, h2⟩ := rx
    cases ry
    obtain ⟨d, e, h⟩ := optK_elim h
    obtain ⟨w, e', r⟩ := atI_rep h2 e
    exact .inl ⟨a, vs, i, w, rfl, rfl, SqL.of h1, e', hq d w h r⟩
  · rename_i xs i
    obtain ⟨a, vs, rfl, h1, _, h2⟩ := rx
    cases ry
    obtain ⟨d, e, h⟩ := optK_elim h
    obtain ⟨w, e', r⟩ := atI_rep h2 e
    exact .inr (.inl ⟨a, vs, i, w, rfl, rfl, SqT.of h1, e', hq d w h r⟩)
  · rename_i xs i
    obtain ⟨a, vs, o, rfl, h1, _, _, h2⟩ := rx
    cases ry
    obtain ⟨d, e, h⟩ := optK_elim h
    obtain ⟨w, e', r⟩ := atI_rep h2 e
    exact .inr (.inl ⟨a, vs, i, w, rfl, rfl, .inl (.inr ⟨o, h1⟩), e', hq d w h r⟩)
  · rename_i s i
    obtain ⟨rfl, hs⟩ := rx
    cases ry
    obtain ⟨hl, h⟩ := h
    obtain ⟨c, e, h⟩ := optK_elim h
    refine .inr (.inr (.inl ⟨s, i, c, rfl, rfl, hl, e, hq _ _ h ⟨rfl, ?_⟩⟩))
    have hm : c ∈ s.cps.toList := by
        unfold atI at e
        cases hx : ixN s.cps.toList.length i with
        | none => rw [hx] at e; cases e
        | some j => rw [hx] at e; exact List.mem_of_getElem? e
    have := Array.all_eq_true'.mp hs c (Array.mem_toList_iff.mp hm)
    simpa using this
  · rename_i kvs y
    obtain ⟨a, ks, rfl, h1, h2⟩ := rx
    split at h
    · rename_i q e
      have hv := keyD_rep e ry
      split at h
      · rename_i d e2
        rcases look_repK q h2 with ⟨_, e3⟩ | ⟨w, d', e3, e4, r⟩
        · rw [e3] at e2; cases e2
        · rw [e4] at e2
          cases e2
          exact .inr (.inr (.inr ⟨a, w, rfl, .inl ⟨ks, q, h1, hv, e3.symm⟩, hq d w h r⟩))
      · exact h.elim
    · exact h.elim
  · rename_i kvs ys
    obtain ⟨a, ks, rfl, h1, h2⟩ := rx
    obtain ⟨b, vs, rfl, hb, _, h3⟩ := ry
    split at h
    · rename_i q e
      have hv := keysD_rep e h3
      subst hv
      split at h
      · rename_i d e2
        rcases look_repT q h2 with ⟨_, e3⟩ | ⟨w, d', e3, e4, r⟩
        · rw [e3] at e2; cases e2
        · rw [e4] at e2
          cases e2
          exact .inr (.inr (.inr ⟨a, w, rfl, .inr ⟨ks, q, b, h1, rfl, hb, e3.symm⟩, hq d w h r⟩))
      · exact h.elim
    · exact h.elim
  · exact h.elim
theorem idx_snd (hK : X.K = B.K) (hu : X.A.units + 65 < cLine) : ∃ r : R2, IxR X r ∧ ∀ (α : List Addr) (M : MM) (H : Hp) (Qd : W → MM → Prop) (Q : VK) (x y : W) (v u : V), Ok B α M H → RepW B α M H x v → RepW B α M H y u → idxW [x, y] M Qd → QOk B α M H Qd Q → r v u H Q := by
  refine ⟨_, ixOr ix_list (ixOr ix_tup (ixOr ix_str (ix_dict (by omega)))), fun α M H Qd Q x y v u ok rx ry h q => ?_⟩
  rw [hK]
  unfold idxW at h
  split at h
  · rename_i x y e
    cases e
    exact idx_how (RepV.of rx) ry h fun d w hk r => q.val ok r hk
  · rename_i i y e
    cases e
    obtain ⟨a, ha, rfl⟩ := rx
    split at h
    · rename_i xs em
      obtain ⟨o, ho, vs, rfl, hr⟩ := ok.obj i _ a em ha
      exact idx_how (x := .lst xs) ⟨a, vs, rfl, ho, hr⟩ ry h fun d w hk r => q.val ok r hk
    · rename_i xs em
      obtain ⟨o, ho, vs, rfl, hr⟩ := ok.obj i _ a em ha
      exact idx_how (x := .dct xs) ⟨a, vs, rfl, .inl ho, hr⟩ ry h fun d w hk r => q.val ok r hk
    · rename_i xs em
      obtain ⟨o, ho, vs, rfl, hr⟩ := ok.obj i _ a em ha
      exact idx_how (x := .dctT xs) ⟨a, vs, rfl, .inl ho, hr⟩ ry h fun d w hk r => q.val ok r hk
    · rename_i kvs em
      obtain ⟨o, ho, vs, rfl, hr⟩ := ok.obj i _ a em ha
      split at h
      · rename_i k e
        have hv := keyD_rep e ry
        split at h
        · rename_i w e2
          obtain ⟨z, e3, rz⟩ := repKW_look hr e2
          exact .inr (.inr (.inr ⟨a, z, rfl, .inl ⟨vs, k, .inl ho, hv, e3.symm⟩, q.wal ok rz h⟩))
        · exact h.elim
      · exact h.elim
    · exact h.elim
  · exact h.elim

/-! slices -/
theorem RepL.cut {xs : List D} {vs : List V} (h : RepL B L H xs vs) (lo hi : Option Int) : RepL B L H (cutG xs lo hi) (cutV vs lo hi) := by
  unfold cutG cutV
  rw [h.len]
  exact (h.drop _).take _
theorem cutS_ok {s : Str} (h : s.cps.all (· < 0x110000) = true) (lo hi : Option Int) : (cutS s lo hi).cps.all (· < 0x110000) = true := by
  rw [Array.all_eq_true'] at h ⊢
  intro c hc
  refine h c ?_
  unfold cutS at hc
  rw [List.mem_toArray] at hc
  exact Array.mem_toList_iff.mp (List.mem_of_mem_drop (List.mem_of_mem_take hc))
theorem cut_whole {xs : List D} {lo hi : Option Int} (h : HT.sIx xs.length 0 lo = 0 ∧ HT.sIx xs.length xs.length hi = xs.length) : cutG xs lo hi = xs := by
  unfold cutG
  rw [h.1, h.2, List.drop_zero, Nat.sub_zero, List.take_length]
def rScr (K : PySem.W.Frag) : V → Option Int → Option Int → Hp → VK → Prop := rSlL K
theorem slc_snd (hK : X.K = B.K) : ∃ r, SlR X r ∧ ∀ (α : List Addr) (M : MM) (H : Hp) (Qd : W → MM → Prop) (Q : VK) (m : Bool) (x : D) (v : V) (lo hi : Option Int), Ok B α M H → RepV B (Lv B α M) H x v → slcD m x lo hi M Qd → QOk B α M H Qd Q → r v lo hi H Q := by
  refine ⟨_, slOr sl_list (slOr sl_tupA sl_str), fun α M H Qd Q m x v lo hi ok rx h q => ?_⟩
  rw [hK]
  unfold slcD at h
  split at h
  · rename_i xs
    obtain ⟨a, vs, rfl, h1, h2⟩ := rx
    exact .inl ⟨a, vs, rfl, SqL.of h1, fun p hp => q.lst ok (h2.cut lo hi) h hp⟩
  · rename_i xs
    have rx' : Rep B (Lv B α M) H (.tup xs) v := rx
    obtain ⟨a, vs, rfl, h1, _, h2⟩ := rx
    refine .inr (.inl ⟨a, vs, rfl, SqT.of h1, fun hw => ?_, fun _ p hp => q.tup ok (h2.cut lo hi) h hp⟩)
    rw [h2.len] at hw
    rw [cut_whole hw] at h
    exact q.val ok rx' h
  · rename_i s
    obtain ⟨rfl, hs⟩ := rx
    exact .inr (.inr ⟨s, rfl, h.1, q.val ok (x := .str _) ⟨rfl, cutS_ok hs lo hi⟩ h.2⟩)
  · rename_i ns
    obtain ⟨a, rfl, h1⟩ := rx
    have h2 : SqL B.K H a (ns.map V.int) := h1.elim (fun h => .inl h.1) .inr
    exact .inl ⟨a, ns.map V.int, rfl, h2, fun p hp => q.lst ok (RepL.cut (RepL.ints ns) lo hi) h hp⟩
  · exact h.elim
end
end DL

/-! DL5: what is read from behind. -/
namespace DL
open PySem PySem.Spec L2 PyProof.Rows
section
variable {prog : Program} {w : World} {A : Around} {E : Value → Shared → Prop} {s : Shared}
theorem sliceApplied_rev {sl : Addr} {vs : Value} {n : Nat} {Q : Int × Int × Nat → Shared → Prop} (hs : s.heap.IsSliceOf sl .none .none vs) (ps : IsPart vs (some (-1)))
    (h : Q ((n : Int) - 1, -1, n) s) : wpAny (model prog w) A (Builtin.Slice.sliceApplied (.ref sl) (pure (n : Int))) Q E s := by
  obtain ⟨os, hos, hcs, hds⟩ := id hs
  unfold Builtin.Slice.sliceApplied Builtin.Slice.sliceFields
  refine wpAny_bind (wpAny_bind (wpAny_field hos hds (x := .none) rfl (wpAny_bind (wpAny_field hos hds (x := .none) rfl (wpAny_bind (wpAny_field hos hds (x := vs) rfl (wpAny_pure ?_)))))))
  refine wpAny_bind (HT.slicePart_ ps ?_)
  show wpAny _ _ (if ((-1 : Int) == 0) = true then _ else _) _ _ s
  rw [if_neg (by decide)]
  refine wpAny_bind (slicePart_none (wpAny_bind (slicePart_none (wpAny_bind (wpAny_pure ?_)))))
  show wpAny _ _ (pure ((n : Int) - 1, (-1 : Int), Builtin.Slice.slicePlaces ((n : Int) - 1) (-1) (-1))) _ _ s
  have e : Builtin.Slice.slicePlaces ((n : Int) - 1) (-1) (-1) = n := by
    unfold Builtin.Slice.slicePlaces
    rw [if_neg (by decide)]
    by_cases hn : n = 0
    · subst hn; rfl
    · rw [if_pos (by omega)]
      have : ((n : Int) - 1 - -1 - 1) / - -1 + 1 = n := by
        rw [show (- -1 : Int) = 1 from rfl, Int.ediv_one]
        omega
      rw [this]
      omega
  rw [e]
  exact wpAny_pure h
theorem fm_congr {α β : Type} {f g : α → Option β} : ∀ {l : List α}, (∀ x ∈ l, f x = g x) → l.filterMap f = l.filterMap g
  | [], _ => rfl
  | x :: l, h => by
    have ih := fm_congr (l := l) fun y hy => h y (List.mem_cons_of_mem _ hy)
    rw [List.filterMap_cons, List.filterMap_cons, h x List.mem_cons_self, ih]
theorem pick_rev (xs : Array Value) : ((List.range xs.size).filterMap fun (k : Nat) => xs[((xs.size : Int) - 1 + (k : Int) * (-1)).toNat]?).toArray = xs.toList.reverse.toArray := by
  have e : ((List.range xs.size).filterMap fun (k : Nat) => xs[((xs.size : Int) - 1 + (k : Int) * (-1)).toNat]?) = (List.range xs.size).reverse.filterMap (xs[·]?) := by
    rw [← PySem.W.krv_range, List.filterMap_map]
    refine fm_congr ?_
    intro k hk
    have hk := List.mem_range.mp hk
    have : ((xs.size : Int) - 1 + (k : Int) * (-1)).toNat = xs.size - 1 - k := by omega
    show xs[((xs.size : Int) - 1 + (k : Int) * (-1)).toNat]? = xs[xs.size - 1 - k]?
    rw [this]
  rw [e, List.filterMap_reverse, PySem.W.krv_all]
theorem getItem_tuple_rev {t sl : Addr} {items : Array Value} {vs : Value} {Q : Value → Shared → Prop} (ht : IsTup s.heap t items) (hs : s.heap.IsSliceOf sl .none .none vs) (ps : IsPart vs (some (-1)))
    (h : Q (.ref s.heap.objs.size) { s with heap := s.heap.push { cls := .type "tuple", data := .seq items.toList.reverse.toArray } })
    (hsz : items.size ≤ sizeLine) : wpAny (model prog w) A (getItem (.ref t) (.ref sl)) Q E s := by
  have htake : sizeOk (.seq items.toList.reverse.toArray) := by
    show items.toList.reverse.toArray.size ≤ sizeLine
    rw [List.size_toArray, List.length_reverse, Array.length_toList]
    omega
  obtain ⟨os, hos, hcs, hds⟩ := id hs
  have hTs : s.TypeIs (.ref sl) "slice" := ⟨os, hos, hcs⟩
  unfold getItem
  try with_reducible refine wpAny_holding ?_
  first | refine wpAny_bind (wpAny_pure ?_) | skip
  refine wpAny_bind (wpAny_sequenceKey ht.typeIs (by decide) ?_)
  refine wpAny_bind (wpAny_callSpecial?_slot (name := Str.ofString "__getitem__") ht.typeIs PyProof.Rows.slot_tuple_getitem
    (wpAny_call_entry PyProof.Rows.slot_tuple_getitem ht.typeIs entry_tuple_getitem ?_ (args_tuple_getitem _ _)))
  show wpAny _ _ (Builtin.Tuple.tupleItemsOf (.ref t) >>= _) _ _ s
  refine wpAny_bind (tupleItemsOf_ ht ?_)
  refine wpAny_bind (wpAny_typeOf hTs ?_)
  rw [if_pos (by decide)]
  refine wpAny_bind (sliceApplied_rev hs ps ?_)
  show wpAny _ _ (if (((items.size : Int) - 1) == 0 && (-1 : Int) == 1 && items.size == items.size) = true then _ else _) _ _ s
  have hno : ¬ ((((items.size : Int) - 1) == 0 && (-1 : Int) == 1 && items.size == items.size) = true) := by
    rw [show ((-1 : Int) == 1) = false from rfl, Bool.and_false, Bool.false_and]
    exact Bool.false_ne_true
  rw [if_neg hno, pick_rev]
  first
    | exact wpAny_bind (m := Builtin.Tuple.tupleExact _) (wpAny_newObj_type (wpAny_pure ⟨_, rfl, wpAny_pure h⟩) htake)
    | exact wpAny_bind (m := Builtin.Tuple.tupleExact _) (wpAny_newObj_type (wpAny_bind (wpAny_pure (wpAny_pure ⟨_, rfl, wpAny_pure h⟩))) htake)
    | exact wpAny_bind (wpAny_bind (m := Builtin.Tuple.tupleExact _) (wpAny_newObj_type (wpAny_pure (wpAny_pure ⟨_, rfl, wpAny_pure h⟩)) htake))
    | exact wpAny_bind (wpAny_bind (m := Builtin.Tuple.tupleExact _) (wpAny_newObj_type (wpAny_pure ⟨_, rfl, wpAny_pure h⟩) htake))
end
section
variable {X : Cx}
def tRevA (K : PySem.W.Frag) (te : TE) : TE := fun σ H Q => te σ H fun x H1 =>
  (∃ a xs, x = .ref a ∧ SqL K H1 a xs ∧ ∀ p, H1 p = none → Q (.ref p) (upd H1 p (.lst xs.reverse))) ∨ (∃ a xs, x = .ref a ∧ SqT K H1 a xs ∧ ∀ p, H1 p = none → Q (.ref p) (upd H1 p (.tup xs.reverse)))
theorem pe_revA {e : Expr} {te : TE} {k : Nat} {p1 p2 p3 pos : Pos} (he : PE X e te) : PE X (.Subscript e (.Slice none none (some (.UnaryOp .USub (.Constant (.int 1) k p1) p2)) p3) pos) (tRevA X.K te) := by
  refine ⟨fun pins s σ H Q I h => ?_⟩
  refine Subscript_ (thn (he.run pins s σ H _ I h) fun v s1 ⟨x, H1, I1, r1, q1⟩ => ?_)
  have hst : PO X (some (.UnaryOp .USub (.Constant (.int 1) k p1) p2)) (tPart (tUn (rU fun i => .int (-i)) (tC (.int 1)))) := po_some (pe_un un_neg pe_int)
  refine wpAny_Slice (thn (po_none.run pins s1 σ H1 (fun o H2 => o = none ∧ H2 = H1) I1 ⟨rfl, rfl⟩) fun vl s2 ⟨l, H2, I2, pl, el, e2⟩ => ?_)
  subst el e2
  refine thn (po_none.run pins s2 σ H2 (fun o H3 => o = none ∧ H3 = H2) I2 ⟨rfl, rfl⟩) fun vu s3 ⟨u, H3, I3, pu, eu, e3⟩ => ?_
  subst eu e3
  refine thn (hst.run pins s3 σ H3 (fun o H4 => o = some (-1) ∧ H4 = H3) I3 ⟨1, rfl, -1, rfl, rfl, rfl⟩) fun vs s4 ⟨o, H4, I4, ps, eo, e4⟩ => ?_
  subst eo e4
  have I5 : Inv X pins σ H4 { s4 with heap := s4.heap.push { cls := .type "slice", data := .fields #[vl, vu, vs] } } := I4.kept (t' := s4.toks) fun b ob q => Heap.get?_push_of_some _ q
  rcases q1 with ⟨a, xs, ex, hx, q⟩ | ⟨a, xs, ex, hx, q⟩
  · subst ex
    cases r1
    obtain ⟨its, r, ht, hz⟩ := I5.list hx
    have hlen := r.length
    show wpAny (model X.prog X.w) X.A (subscriptTail e (.Slice none none (some (.UnaryOp .USub (.Constant (.int 1) k p1) p2)) p3) (.ref a) (.ref s4.heap.objs.size)) (EP X pins σ Q) X.xe { s4 with heap := s4.heap.push { cls := .type "slice", data := .fields #[vl, vu, vs] } }
    refine tail_any (ops := [.ref a, .ref s4.heap.objs.size]) ht.isList.typeIs (PySem.slot_list_getitem.lookup) ?_ (by with_unfolding_all rfl)
    refine wpAny_getItem_list_slice ht.isList (Heap.IsSliceOf.new _ vl vu vs) pl pu ps (by decide) ?_ (by rw [List.size_toArray]; omega)
    rw [PySem.W.krv_pick]
    refine ⟨.ref _, _, I5.laid (t' := s4.toks) (o := .lst xs.reverse) (fun b ob q => Heap.get?_push_of_some _ q) (Nat.le_refl _) ?_, rfl, q _ (I5.hok.fresh (Nat.le_refl _))⟩
    exact ⟨by rw [List.length_reverse]; exact hz, _, 0, r.reverse, Heap.get?_push_size _ rfl⟩
  · subst ex
    cases r1
    cases pl
    cases pu
    obtain ⟨its, r, ht, hz⟩ := I5.tuple hx
    have hlen := r.length
    show wpAny (model X.prog X.w) X.A (subscriptTail e (.Slice none none (some (.UnaryOp .USub (.Constant (.int 1) k p1) p2)) p3) (.ref a) (.ref s4.heap.objs.size)) (EP X pins σ Q) X.xe { s4 with heap := s4.heap.push { cls := .type "slice", data := .fields #[.none, .none, vs] } }
    refine tail_any (ops := [.ref a, .ref s4.heap.objs.size]) ht.typeIs (PyProof.Rows.slot_tuple_getitem.lookup) ?_ (by with_unfolding_all rfl)
    refine getItem_tuple_rev ht (Heap.IsSliceOf.new _ .none .none vs) ps ?_ (by rw [List.size_toArray]; omega)
    refine ⟨.ref _, _, I5.laid (t' := s4.toks) (o := .tup xs.reverse) (fun b ob q => Heap.get?_push_of_some _ q) (Nat.le_refl _) ?_, rfl, q _ (I5.hok.fresh (Nat.le_refl _))⟩
    exact ⟨by rw [List.length_reverse]; exact hz, _, r.reverse, IsTup.new _ _⟩
end
end DL

/-! DL6: sorted of lists and tuples of data. -/
namespace DL
open PySem PySem.Spec L2 PyProof.Rows
section
variable {prog : Program} {w : World} {A : Around} {E : Value → Shared → Prop} {s : Shared}
/-- a list or a tuple -/
def IsSeq (h : Heap) (l : Addr) (vs : List Value) : Prop := ∃ o T, h.get? l = some o ∧ o.cls = .type T ∧ (T = "list" ∨ T = "tuple") ∧ ∃ n, o.data = .seq vs.toArray n
theorem collect_seq {l : Addr} {vs : List Value} {Q : List Value → Shared → Prop} (hl : IsSeq s.heap l vs)
    (h : Q vs { s with heap := (s.heap.push (seqObj "list" #[] 0)).update s.heap.objs.size (Obj.mapSeq (· ++ vs.toArray)) }) (hsz : vs.length ≤ sizeLine) :
    wpAny (model prog w) A (collect (.ref l)) Q E s := by
  obtain ⟨o, T, ho, hc, hT, n, hd⟩ := id hl
  unfold collect
  refine wpAny_bind (wpAny_runValue (codeAny_builtin entry_proto_collect' ?_))
  show wpAny _ _ (do again (.builtin "list.__iadd__" ⟨[← newList [], .ref l], []⟩)) _ _ s
  refine wpAny_bind (wpAny_newList (wpAny_pure ⟨Code.quiet_builtin _ (by decide +kernel), codeAny_builtin entry_list_iadd' ?_⟩))
  show wpAny _ _ (Builtin.List.listExtendWith (.ref s.heap.objs.size) (.ref l) (.ref s.heap.objs.size)) _ _ { s with heap := s.heap.push (seqObj "list" #[] 0) }
  unfold Builtin.List.listExtendWith
  have ho' : (s.heap.push (seqObj "list" #[] 0)).get? l = some o := Heap.get?_push_of_some _ ho
  refine wpAny_bind (wpAny_typeOf (T := T) ⟨o, ho', hc⟩ ?_)
  have ht : (Value.type T == Value.type "list" || Value.type T == Value.type "tuple") = true := by
    rcases hT with rfl | rfl <;> rfl
  rw [if_pos (by rw [Bool.or_assoc, ht, Bool.or_true])]
  refine wpAny_bind (listItems_at ho' hd ?_)
  refine wpAny_bind (listItems_at (xs := #[]) (n := 0) (Heap.get?_push_size _ rfl) rfl ?_)
  rw [if_neg (by simp)]
  refine wpAny_bind (listUpdate_at (xs := #[]) (n := 0) (Heap.get?_push_size _ rfl) rfl ?_ (Nat.zero_le _) (by show (#[] ++ vs.toArray).size ≤ sizeLine + 1; simp only [Array.size_append, List.size_toArray, List.length_nil]; omega))
  refine wpAny_pure ?_
  show wpAny (model prog w) A (do
      let o ← load s.heap.objs.size
      match o.data with
      | .seq xs _ => pure xs.toList
      | _ => unsupported "internal:collect") Q E { s with heap := (s.heap.push (seqObj "list" #[] 0)).update s.heap.objs.size (Obj.mapSeq (· ++ vs.toArray)) }
  refine wpAny_bind (wpAny_load (get?_update_seq (Heap.get?_push_size _ rfl) _) ?_)
  show wpAny _ _ (pure ((#[] : Array Value) ++ vs.toArray).toList) Q E _
  rw [show ((#[] : Array Value) ++ vs.toArray).toList = vs by simp]
  exact wpAny_pure h
theorem sorted_seq {l : Addr} {vs : List Value} {β : Type} {bs : List β} {enc : β → PyData} {R : Value → β → Prop} {Q : Value → Shared → Prop} (hl : IsSeq s.heap l vs) (e : PySem.W.EachIs R vs bs)
    (er : PySem.W.EachIs (fun v b => ∃ as, Reads s.heap v (enc b) as) vs bs) (hal : PySem.W.AllAlike (bs.map enc)) (hk : PySem.W.Sortable (bs.map enc)) (hL : bs.length ≤ sizeLine)
    (hu : ∀ b, b ∈ bs → A.units + 2 + (enc b).depth < cLine) (h : ∀ out, out.length = bs.length → PySem.W.EachIs R out (bs.mergeSort (PySem.W.dataLe false enc)) → Q (.ref (s.heap.objs.size + 1)) { s with heap := sortedAll s.heap vs (List.toArray out) }) :
    wpAny (model prog w) A (call (.builtin "sorted") [.ref l]) Q E s := by
  have er' : PySem.W.EachIs (fun v b => ∃ as, Reads (PySem.W.sortingHeap (PySem.W.copyHeap s.heap vs) (s.heap.objs.size + 1) vs) v (enc b) as) vs bs := er.mono fun _ _ ⟨as, r⟩ => ⟨as, PyProof.Rows.Reads.keeps (fun _ _ => PySem.W.sorting_copy_old) r⟩
  have hL' : vs.length ≤ sizeLine := by rw [e.length]; exact hL
  have S := PySem.W.SortsAt.data (prog := prog) (w := w) (A := A.in1.in1) (s := { s with heap := PySem.W.sortingHeap (PySem.W.copyHeap s.heap vs) (s.heap.objs.size + 1) vs }) (PySem.W.each_map (R := fun v d => ∃ as, Reads (PySem.W.sortingHeap (PySem.W.copyHeap s.heap vs) (s.heap.objs.size + 1) vs) v d as) enc er') hal hk (PySem.W.bound_map hu)
  have fin := h _ (by rw [PySem.W.sortVals_length false rfl]; exact e.length) (PySem.W.sortVals_data false e er' hal)
  have body : ∀ E' : Value → Shared → Prop, wpAny (model prog w) A.in1.in1 (Builtin.«list.sort» ⟨[.ref (s.heap.objs.size + 1)], []⟩) (fun f s' => f = .done (.ret .none) ∧ Q (.ref (s.heap.objs.size + 1)) s') E' { s with heap := PySem.W.copyHeap s.heap vs } :=
    fun _ => PySem.W.list_sort_vals (s := { s with heap := PySem.W.copyHeap s.heap vs }) (PySem.W.copyHeap_at s.heap vs) S hL' ⟨rfl, fin⟩
  refine call_function_entry_kw kind_sorted plain_sorted entry_sorted (args_sorted1 _) ?_
  unfold Builtin.«sorted»
  refine wpAny_bind (m := checkCount "sorted" 1 1 _) (wpAny_pure ?_)
  refine wpAny_bind (collect_seq hl ?_ hL')
  refine wpAny_bind (wpAny_newList ?_ hL')
  have hsz : ((s.heap.push (seqObj "list" #[] 0)).update s.heap.objs.size (Obj.mapSeq (· ++ vs.toArray))).objs.size = s.heap.objs.size + 1 := by
    rw [Heap.size_update, size_push']
  show wpAny _ _ _ _ _ { s with heap := PySem.W.copyHeap s.heap vs }
  rw [hsz]
  refine wpAny_bind (wpAny_holding (wpAny_call_entry_kw slot_list_sort ⟨_, PySem.W.copyHeap_at s.heap vs, rfl⟩ entry_list_sort ?body (args_list_sort _)))
  case body =>
    show wpAny (model prog w) A.in1.in1 (Builtin.«list.sort» ⟨[.ref (s.heap.objs.size + 1)], []⟩) _ _ _
    refine wpAny_mono (body _) (fun f s' hf => ?_) fun _ _ e => e
    obtain ⟨rfl, hq⟩ := hf
    exact ⟨_, rfl, wpAny_pure ⟨_, rfl, hq⟩⟩
end
end DL
namespace DL
open PySem PySem.Spec L2 PyProof.Rows
section
variable {X : Cx} {B : Bs} {L : Addr → Prop} {α : List Addr} {M : MM} {H : Hp} {Qd : W → MM → Prop} {Q : VK}
def rSortD (K : PySem.W.Frag) : List V → Hp → VK → Prop := fun xs H Q => ∃ (a : Addr) (ts : List (D × V)), xs = [.ref a] ∧ (SqL K H a (ts.map (·.2)) ∨ SqT K H a (ts.map (·.2))) ∧ (∀ t ∈ ts, Dp K H t.2 (pyT t.1)) ∧
  PySem.W.AllAlike (ts.map fun t => pyT t.1) ∧ PySem.W.Sortable (ts.map fun t => pyT t.1) ∧ (∀ t ∈ ts, (pyT t.1).depth ≤ 64) ∧
  ∀ p, H p = none → Q (.ref p) (upd H p (.lst ((ts.mergeSort fun a b => leD a.1 b.1).map (·.2))))
theorem each_vals : ∀ {ts : List (D × V)} {us : List Value}, Vals (ts.map (·.2)) us → PySem.W.EachIs (fun u (t : D × V) => RelV t.2 u) us ts
  | [], _, h => by cases h; exact .nil
  | t :: ts, _, h => by
    cases h with
    | cons h1 h2 => exact .cons h1 (each_vals h2)
theorem vals_each : ∀ {ts : List (D × V)} {us : List Value}, PySem.W.EachIs (fun u (t : D × V) => RelV t.2 u) us ts → Vals (ts.map (·.2)) us
  | _, _, .nil => .nil
  | _, _, .cons h1 h2 => .cons h1 (vals_each h2)
theorem each_and {α β : Type} {R R' : α → β → Prop} : ∀ {as : List α} {bs : List β}, PySem.W.EachIs R as bs → (∀ a b, b ∈ bs → R a b → R' a b) → PySem.W.EachIs R' as bs
  | _, _, .nil, _ => .nil
  | _, _, .cons h1 h2, f => .cons (f _ _ List.mem_cons_self h1) (each_and h2 fun a b hb r => f a b (List.mem_cons_of_mem _ hb) r)
theorem cr_sortD (hu : X.A.units + 80 < cLine) : CallR X (.builtin "sorted") (rSortD X.K) := by
  intro pins s σ H xs us Q I r h
  obtain ⟨a, ts, rfl, hs, hd, hal, hk, hdep, q⟩ := h
  have hsrc : ∃ its, Vals (ts.map (·.2)) its ∧ IsSeq s.heap a its ∧ (ts.map (·.2)).length ≤ sizeLine := by
    rcases hs with hs | hs
    · obtain ⟨its, rv, ⟨o, n, ho, hc, hdn, hdt⟩, hz⟩ := I.list hs
      exact ⟨its, rv, ⟨o, "list", ho, hc, .inl rfl, n, hdt⟩, hz⟩
    · obtain ⟨its, rv, ⟨o, ho, hc, n, hdt⟩, hz⟩ := I.tuple hs
      exact ⟨its, rv, ⟨o, "tuple", ho, hc, .inr rfl, n, hdt⟩, hz⟩
  obtain ⟨its, rv, hl, hz⟩ := hsrc
  rw [Vals.ref1 r]
  rw [List.length_map] at hz
  have e := each_vals rv
  have er : PySem.W.EachIs (fun v (t : D × V) => ∃ as, Reads s.heap v (pyT t.1) as) its ts := each_and e fun u t ht r => Dp.reads I (pyT t.1) t.2 u (hd t ht) r
  refine sorted_seq (enc := fun t : D × V => pyT t.1) hl e er hal hk hz (fun t ht => by have := hdep t ht; omega) fun out hlen eo => ?_
  have hso : (ts.mergeSort fun a b => leD a.1 b.1) = ts.mergeSort (PySem.W.dataLe false fun t : D × V => pyT t.1) := rfl
  rw [← hso] at eo
  have vo := vals_each eo
  obtain ⟨ep, he'⟩ := PyProof.Rows.sortedAll_at s.heap its out.toArray
  have hlen2 : ((ts.mergeSort fun a b => leD a.1 b.1).map (·.2)).length ≤ sizeLine := by rw [List.length_map, List.length_mergeSort]; exact hz
  exact ⟨.ref _, upd H (s.heap.objs.size + 1) (.lst ((ts.mergeSort fun a b => leD a.1 b.1).map (·.2))), I.laid (t' := s.toks) (fun _ _ => PyProof.Rows.sortedAll_old) (Nat.le_succ _) ⟨hlen2, out, ep, vo, he'⟩, rfl, q _ (I.hok.fresh (Nat.le_succ _))⟩
theorem RepL.zip : ∀ {ds : List D} {vs : List V}, RepL B L H ds vs → ∀ t ∈ ds.zip vs, Rep B L H t.1 t.2
  | [], _, h, t, ht => by cases ht
  | d :: ds, _, h, t, ht => by
    obtain ⟨v, r, rfl, h1, h2⟩ := h
    rw [List.zip_cons_cons, List.mem_cons] at ht
    rcases ht with rfl | ht
    · exact h1
    · exact RepL.zip h2 t ht
theorem RepL.of_zip : ∀ {ts : List (D × V)}, (∀ t ∈ ts, Rep B L H t.1 t.2) → RepL B L H (ts.map (·.1)) (ts.map (·.2))
  | [], _ => rfl
  | t :: ts, h => ⟨t.2, _, rfl, h t List.mem_cons_self, RepL.of_zip fun t ht => h t (List.mem_cons_of_mem _ ht)⟩
theorem RepL.map_zip {ds : List D} {vs : List V} (h : RepL B L H ds vs) : (ds.zip vs).map (·.1) = ds ∧ (ds.zip vs).map (·.2) = vs := by
  have hl := h.len
  exact ⟨List.map_fst_zip (by omega), List.map_snd_zip (by omega)⟩
theorem RepL.sort {ds : List D} {vs : List V} (h : RepL B L H ds vs) : RepL B L H (sortD ds) (((ds.zip vs).mergeSort fun a b => leD a.1 b.1).map (·.2)) := by
  have e : sortD ds = ((ds.zip vs).mergeSort fun a b => leD a.1 b.1).map (·.1) := by
    unfold sortD
    rw [List.map_mergeSort (r := fun a b : D × V => leD a.1 b.1) (s := leD) (f := (·.1)) (fun _ _ _ _ => rfl), h.map_zip.1]
  rw [e]
  exact RepL.of_zip fun t ht => h.zip t ((List.mergeSort_perm _ _).mem_iff.mp ht)
theorem Rep.dpT {d : D} {v : V} (h : Rep B L H d v) (e : (toPy d).isSome = true) : Dp B.K H v (pyT d) := by
  cases ep : toPy d with
  | none => rw [ep] at e; cases e
  | some p =>
    unfold pyT
    rw [ep]
    exact (Rep.dp d v p h ep).1
theorem sortD_how {xs : List D} {vs : List V} {a : Addr} (hK : X.K = B.K) (hs : SqL B.K H a vs ∨ SqT B.K H a vs) (r : RepL B L H xs vs) (c : SrtOk xs) (q : ∀ p ws, RepL B L H (sortD xs) ws → H p = none → Q (.ref p) (upd H p (.lst ws))) : rSortD X.K [.ref a] H Q := by
  rw [hK]
  obtain ⟨e1, e2⟩ := r.map_zip
  have e3 : ((xs.zip vs).map fun t => pyT t.1) = xs.map pyT := by
    conv => rhs; rw [← e1, List.map_map]
    rfl
  refine ⟨a, xs.zip vs, rfl, by rw [e2]; exact hs, fun t ht => (r.zip t ht).dpT (c.py _ ?_), by rw [e3]; exact c.alike, by rw [e3]; exact c.able, fun t ht => c.depth _ ?_, fun p hp => q p _ r.sort hp⟩
  · exact (List.of_mem_zip (a := t.1) (b := t.2) ht).1
  · exact (List.of_mem_zip (a := t.1) (b := t.2) ht).1
end
end DL

/-! DS1: repr of data. -/
namespace DL
open PySem PySem.Spec L2 PyProof.Rows
def okC (s : Str) : Prop := ∀ c ∈ s.cps.toList, c < 0x110000
theorem okC.app {a b : Str} (h : okC a) (g : okC b) : okC (a ++ b) := fun c hc => by
  have e : (a ++ b).cps.toList = a.cps.toList ++ b.cps.toList := by rw [Str.cps_append, Array.toList_append]
  rw [e] at hc
  exact (List.mem_append.mp hc).elim (h c) (g c)
theorem char_lt (c : Char) : c.toNat < 0x110000 := by
  have h := c.valid
  unfold UInt32.isValidChar Nat.isValidChar at h
  show c.val.toNat < _
  omega
theorem okC_lit (s : String) : okC (Str.ofString s) := fun c hc => by
  rw [Str.ofString_eq_toList] at hc
  obtain ⟨d, _, rfl⟩ := List.mem_map.mp (show c ∈ s.toList.map Char.toNat from hc)
  exact char_lt d
theorem okC_join {sep : Str} (hs : okC sep) : ∀ {ts : List Str}, (∀ t ∈ ts, okC t) → okC (Str.join sep ts)
  | [], _ => fun c hc => by simp [Str.join, Str.empty] at hc
  | [t], h => h t List.mem_cons_self
  | t :: u :: r, h => ((h t List.mem_cons_self).app hs).app (okC_join hs fun y hy => h y (List.mem_cons_of_mem _ hy))
theorem okC_char {q c : Nat} (hc : c < 0x110000) : ∀ x ∈ Builtin.Str.reprChar q c, x < 0x110000 := by
  have hex : ∀ (n : Nat) (x : Nat), x ∈ List.replicate n 48 ++ (Nat.toDigits 16 c).map Char.toNat → x < 0x110000 := fun n x hx => by
    rcases List.mem_append.mp hx with h | h
    · rw [(List.mem_replicate.mp h).2]; decide
    · obtain ⟨d, _, rfl⟩ := List.mem_map.mp h
      exact char_lt d
  intro x hx
  unfold Builtin.Str.reprChar at hx
  dsimp only at hx
  split at hx
  · simp only [List.mem_cons, List.not_mem_nil, or_false] at hx
    omega
  split at hx
  · simp only [List.mem_cons, List.not_mem_nil, or_false] at hx
    omega
  split at hx
  · simp only [List.mem_cons, List.not_mem_nil, or_false] at hx
    omega
  split at hx
  · simp only [List.mem_cons, List.not_mem_nil, or_false] at hx
    omega
  split at hx
  · simp only [List.mem_cons, List.not_mem_nil, or_false] at hx
    omega
  split at hx
  · rcases List.mem_append.mp hx with h | h
    · simp only [List.mem_cons, List.not_mem_nil, or_false] at h
      omega
    · exact hex _ x h
  split at hx
  · rcases List.mem_append.mp hx with h | h
    · simp only [List.mem_cons, List.not_mem_nil, or_false] at h
      omega
    · exact hex _ x h
  · rcases List.mem_append.mp hx with h | h
    · simp only [List.mem_cons, List.not_mem_nil, or_false] at h
      omega
    · exact hex _ x h
theorem okC_repr {x : Str} (h : okC x) : okC (reprText x) := by
  have hq : reprQuote x < 0x110000 := by
    unfold reprQuote
    split <;> decide
  have key : ∀ (l : List Nat) (acc : Array Nat), (∀ c ∈ l, c < 0x110000) → (∀ c ∈ acc.toList, c < 0x110000) → ∀ c ∈ (l.foldl (fun out c => out ++ (Builtin.Str.reprChar (reprQuote x) c).toArray) acc).toList, c < 0x110000 := by
    intro l
    induction l with
    | nil => intro acc _ h; exact h
    | cons y l ih =>
      intro acc h1 h2
      refine ih _ (fun c hc => h1 c (List.mem_cons_of_mem _ hc)) fun c hc => ?_
      rw [Array.toList_append] at hc
      rcases List.mem_append.mp hc with h | h
      · exact h2 c h
      · exact okC_char (h1 y List.mem_cons_self) c h
  intro c hc
  unfold reprText at hc
  dsimp only at hc
  rw [Array.toList_push, ← Array.foldl_toList] at hc
  rcases List.mem_append.mp hc with h1 | h1
  · exact key x.cps.toList #[reprQuote x] h (fun c hc => by
      have : c = reprQuote x := by simpa using hc
      rw [this]; exact hq) c h1
  · rw [List.mem_singleton.mp h1]; exact hq
mutual
theorem okC_shown : ∀ d : PyData, d.canLay0 = true → okC d.shown
  | .none, _ => by rw [PyData.shown_none]; exact okC_lit _
  | .bool b, _ => by rw [PyData.shown_bool]; cases b <;> exact okC_lit _
  | .int i, _ => by rw [PyData.shown_int]; exact okC_lit _
  | .str x, h => by
    rw [PyData.shown_str]
    refine okC_repr fun c hc => ?_
    have h : PyData.strOk x = true := by simpa [PyData.canLay0] using h
    unfold PyData.strOk at h
    rw [← Array.all_toList, List.all_eq_true] at h
    exact of_decide_eq_true (h c hc)
  | .list xs, h => by
    rw [PyData.shown_list]
    exact ((okC_lit _).app (okC_join (okC_lit _) (okC_shownAll xs (by simpa [PyData.canLay0] using h)))).app (okC_lit _)
  | .tuple xs, h => by
    rw [PyData.shown_tuple]
    refine ((okC_lit _).app (okC_join (okC_lit _) (okC_shownAll xs (by simpa [PyData.canLay0] using h)))).app ?_
    split <;> exact okC_lit _
  | .dict _, h => by simp [PyData.canLay0] at h
theorem okC_shownAll : ∀ xs : List PyData, PyData.canLayAll0 xs = true → ∀ t ∈ PyData.shownAll xs, okC t
  | [], _ => by rw [PyData.shownAll_nil]; intro t h; cases h
  | x :: xs, h => by
    simp only [PyData.canLayAll0, Bool.and_eq_true] at h
    rw [PyData.shownAll_cons]
    intro t ht
    rcases List.mem_cons.mp ht with rfl | ht
    · exact okC_shown x h.1
    · exact okC_shownAll xs h.2 t ht
end
def rRepr (K : PySem.W.Frag) : List V → Hp → VK → Prop := fun xs H Q => ∃ v p, xs = [v] ∧ Dp K H v p ∧ p.canLay0 = true ∧ p.showable = true ∧ p.depth ≤ 64 ∧ p.shown.length ≤ sizeLine ∧ Q (.str p.shown) H
section
variable {X : Cx}
theorem cr_repr (hg : X.A.guards = some []) (hu : X.A.units + 80 < cLine) : CallR X (.builtin "repr") (rRepr X.K) := by
  rintro pins s σ H xs us Q I rv ⟨v, p, rfl, hd, hc, hs, h64, hz, q⟩
  cases rv with
  | cons r r0 =>
    cases r0
    rename_i u
    obtain ⟨as, rd⟩ := Dp.reads I p v u hd r
    have hnd := PyData.hasDict_of_canLay p hc
    cases rd with
    | none => exact P.repr_of_none ⟨.str _, H, I.tok _, ⟨_, rfl⟩, by rw [PyData.shown_none] at q; exact q⟩
    | bool b => exact P.repr_of_bool ⟨.str _, H, I.tok _, ⟨_, rfl⟩, by rw [PyData.shown_bool] at q; exact q⟩
    | int i t => exact P.repr_of_int (by simpa [PyData.showable] using hs) ⟨.str _, H, I.tok _, ⟨_, rfl⟩, by rw [PyData.shown_int] at q; exact q⟩
    | str x t => exact P.repr_of_str ⟨.str _, H, I.tok _, ⟨_, rfl⟩, by rw [PyData.shown_str] at q; exact q⟩ (by rw [PyData.shown_str] at hz; exact hz)
    | list h1 h2 h3 h4 => exact repr_of_reads' (.list h1 h2 h3 h4) hs (PyData.noDict_hsm hnd) hg (by omega) (fun _ _ e => e) (fun h' u tk hk => ⟨.str _, H, I.kept hk, ⟨_, rfl⟩, q⟩) hz
    | tuple h1 h2 h3 h4 => exact repr_of_reads' (.tuple h1 h2 h3 h4) hs (PyData.noDict_hsm hnd) hg (by omega) (fun _ _ e => e) (fun h' u tk hk => ⟨.str _, H, I.kept hk, ⟨_, rfl⟩, q⟩) hz
    | dict h1 h2 h3 h4 h5 => simp [PyData.hasDict] at hnd
end
end DL

/-! DM1: min, max of a list of data. -/
namespace DL
open PySem PySem.Spec L2 PyProof.Rows
section
variable {prog : Program} {w : World} {A : Around} {E : Value → Shared → Prop} {s : Shared}
/-- the one, by its place -/
theorem min_list_at {l : Addr} {vs : Array Value} {x : PyData} {xs : List PyData} {as : List Addr} {Q : Value → Shared → Prop} (hh : A.handled = none) (hl : s.heap.IsList l vs) (hr : ReadsAll s.heap vs.toList (x :: xs) as) (ha : PySem.W.AlikeAll (x :: xs)) (hu : A.units + 1 + PyData.depthAll (x :: xs) < cLine)
    (h : ∀ v h' tk, vs[argBest (fun i j => PySem.W.dataLt ((x :: xs).getD i .none) ((x :: xs).getD j .none)) xs.length]? = some v → (∀ b o, s.heap.get? b = some o → h'.get? b = some o) → Q v { s with heap := h', toks := tk }) :
    wpAny (model prog w) A (call (.builtin "min") [.ref l]) Q E s := by
  have hn : vs.size = xs.length + 1 := PySem.W.readsAll_len hr
  refine call_min_walkH (PySem.W.iter_listW (A := A.in1) hh hl fun s₂ e W st hfp hw hk => ?_)
  refine ⟨_, _, _, _, _, _, _, s.heap, _, rfl, W, st, hfp, by omega, hw, hk, PySem.W.cmpIn_lt (A := A.in1) hr ha (by show A.units + 1 + _ < _; exact hu), fun v s' hP m => ?_⟩
  obtain ⟨h', tk, rfl, hk'⟩ := PySem.W.moved_old e rfl m
  have e1 : vs.size - 1 = xs.length := by omega
  rw [e1] at hP
  exact h v h' tk hP hk'
theorem max_list_at {l : Addr} {vs : Array Value} {x : PyData} {xs : List PyData} {as : List Addr} {Q : Value → Shared → Prop} (hh : A.handled = none) (hl : s.heap.IsList l vs) (hr : ReadsAll s.heap vs.toList (x :: xs) as) (ha : PySem.W.AlikeAll (x :: xs)) (hu : A.units + 1 + PyData.depthAll (x :: xs) < cLine)
    (h : ∀ v h' tk, vs[argBest (fun i j => PySem.W.dataLt ((x :: xs).getD j .none) ((x :: xs).getD i .none)) xs.length]? = some v → (∀ b o, s.heap.get? b = some o → h'.get? b = some o) → Q v { s with heap := h', toks := tk }) :
    wpAny (model prog w) A (call (.builtin "max") [.ref l]) Q E s := by
  have hn : vs.size = xs.length + 1 := PySem.W.readsAll_len hr
  refine call_max_walkH (PySem.W.iter_listW (A := A.in1) hh hl fun s₂ e W st hfp hw hk => ?_)
  refine ⟨_, _, _, _, _, _, _, s.heap, _, rfl, W, st, hfp, by omega, hw, hk, PySem.W.cmpIn_gt (A := A.in1) hr ha (by show A.units + 1 + _ < _; exact hu), fun v s' hP m => ?_⟩
  obtain ⟨h', tk, rfl, hk'⟩ := PySem.W.moved_old e rfl m
  have e1 : vs.size - 1 = xs.length := by omega
  rw [e1] at hP
  exact h v h' tk hP hk'
end
def rBestD (K : PySem.W.Frag) (lt : List PyData → Nat → Nat → Bool) : List V → Hp → VK → Prop := fun xs H Q => ∃ (a : Addr) (vs : List V) (ps : List PyData), xs = [.ref a] ∧ SqL K H a vs ∧ DpAll K H vs ps ∧ PySem.W.AlikeAll ps ∧ PyData.depthAll ps ≤ 64 ∧ 0 < ps.length ∧
  ∀ v, vs[argBest (lt ps) (ps.length - 1)]? = some v → Q v H
def ltP (ps : List PyData) (i j : Nat) : Bool := PySem.W.dataLt (ps.getD i .none) (ps.getD j .none)
section
variable {X : Cx}
theorem dpAll_len {K : PySem.W.Frag} {H : Hp} : ∀ {ps : List PyData} {vs : List V}, DpAll K H vs ps → vs.length = ps.length
  | [], _, h => by cases h; rfl
  | p :: ps, _, h => by
    cases h with
    | cons h1 h2 => rw [List.length_cons, List.length_cons, dpAll_len h2]
theorem vals_get : ∀ {vs : List V} {us : List Value} {i : Nat} {u : Value}, Vals vs us → us[i]? = some u → ∃ v, vs[i]? = some v ∧ RelV v u
  | _, _, _, _, .nil, e => by cases e
  | _, _, 0, _, .cons h _, e => by cases e; exact ⟨_, rfl, h⟩
  | _, _, i + 1, _, .cons _ h, e => vals_get (i := i) h e
theorem cr_minD (hc : X.calm = true) (hu : X.A.units + 80 < cLine) : CallR X (.builtin "min") (fun xs H Q => (∃ i j, xs = [.int i, .int j] ∧ Q (.int (if j < i then j else i)) H) ∨ rBestD X.K ltP xs H Q) := by
  rintro pins s σ H xs us Q I r (h | ⟨a, vs, ps, rfl, hs, hd, ha, h64, hl, q⟩)
  · exact call_min2 hc pins s σ H xs us Q I r h
  · obtain ⟨its, rv, hp, _⟩ := I.list hs
    rw [Vals.ref1 r]
    obtain ⟨as, rd⟩ := Dp.readsAll I ps vs its hd rv
    match ps, hl with
    | p :: ps, _ =>
      refine min_list_at (I.ok.hd hc) hp.isList (by simpa using rd) ha (by omega) fun v h' tk e k => ?_
      rw [List.getElem?_toArray] at e
      obtain ⟨x, e2, rx⟩ := vals_get rv e
      exact ⟨x, H, I.kept k, rx, q x e2⟩
theorem cr_maxD (hc : X.calm = true) (hu : X.A.units + 80 < cLine) : CallR X (.builtin "max") (fun xs H Q => (∃ i j, xs = [.int i, .int j] ∧ Q (.int (if j > i then j else i)) H) ∨ rBestD X.K (fun ps i j => ltP ps j i) xs H Q) := by
  rintro pins s σ H xs us Q I r (h | ⟨a, vs, ps, rfl, hs, hd, ha, h64, hl, q⟩)
  · exact call_max2 hc pins s σ H xs us Q I r h
  · obtain ⟨its, rv, hp, _⟩ := I.list hs
    rw [Vals.ref1 r]
    obtain ⟨as, rd⟩ := Dp.readsAll I ps vs its hd rv
    match ps, hl with
    | p :: ps, _ =>
      refine max_list_at (I.ok.hd hc) hp.isList (by simpa using rd) ha (by omega) fun v h' tk e k => ?_
      rw [List.getElem?_toArray] at e
      obtain ⟨x, e2, rx⟩ := vals_get rv e
      exact ⟨x, H, I.kept k, rx, q x e2⟩
variable {B : Bs} {L : Addr → Prop} {H : Hp}
theorem RepL.dpAll : ∀ {ds : List D} {vs : List V}, RepL B L H ds vs → (∀ x ∈ ds, (toPy x).isSome = true) → DpAll B.K H vs (ds.map pyT)
  | [], _, h, _ => by cases h; exact .nil
  | d :: ds, _, h, hp => by
    obtain ⟨v, r, rfl, h1, h2⟩ := h
    exact .cons (h1.dpT (hp d List.mem_cons_self)) (RepL.dpAll h2 fun x hx => hp x (List.mem_cons_of_mem _ hx))
theorem min_how {a : Addr} {vs : List V} {xs : List D} {d : D} {lt : List PyData → Nat → Nat → Bool} {Q : VK} (hs : SqL B.K H a vs) (r : RepL B L H xs vs) (hm : MinOk xs) (hd : xs[argBest (lt (xs.map pyT)) (xs.length - 1)]? = some d) (q : ∀ v, Rep B L H d v → Q v H) : rBestD B.K lt [.ref a] H Q := by
  have hl := (List.getElem?_eq_some_iff.mp hd).1
  refine ⟨a, vs, xs.map pyT, rfl, hs, r.dpAll hm.py, hm.alike, hm.depth, by rw [List.length_map]; omega, fun v e => ?_⟩
  rw [List.length_map] at e
  obtain ⟨v', e', rv⟩ := r.get hd
  rw [e] at e'
  cases e'
  exact q v rv
end
end DL

/-! DL7: built-in functions, methods of built-in types. -/
namespace DL
open PySem PySem.Spec L2 PyProof.Rows
section
variable {X : Cx} {B : Bs} {L : Addr → Prop} {α : List Addr} {M : MM} {H : Hp} {Qd : W → MM → Prop} {Q : VK}
def biN : Bi → Str
  | .len => "len" | .abs => "abs" | .max => "max" | .min => "min" | .list => "list" | .tuple => "tuple" | .sorted => "sorted" | .int => "int" | .sum => "sum" | .all => "all" | .any => "any" | .repr => "repr"
def biId : Bi → String
  | .len => "len" | .abs => "abs" | .max => "max" | .min => "min" | .list => "list" | .tuple => "tuple" | .sorted => "sorted" | .int => "int" | .sum => "sum" | .all => "all" | .any => "any" | .repr => "repr"
def biTy : Bi → Bool
  | .list => true | .tuple => true | .int => true | _ => false
def biV (f : Bi) : Value := if biTy f = true then .type (biId f) else .builtin (biId f)
theorem biBoot (f : Bi) : bootBuiltins (biN f) = some (biV f) := by cases f <;> decide +kernel
theorem call_lenK : CallR X (.builtin "len") (fun xs H Q => ∃ a kvs, xs = [V.ref a] ∧ Rd H a (.dK kvs) ∧ Q (.int kvs.length) H) := by
  intro pins s σ H xs us Q I r h
  obtain ⟨a, kvs, rfl, ha, q⟩ := h
  obtain ⟨u, rfl, ru⟩ := vals1 r
  cases ru
  exact d_len I ha fun t s' I' => ⟨.int kvs.length, H, I', ⟨t, rfl⟩, q⟩
def CallSnd (X : Cx) (B : Bs) (f : Value) (k : List W → MM → (W → MM → Prop) → Prop) : Prop :=
  ∃ r, CallR X f r ∧ ∀ (α : List Addr) (M : MM) (H : Hp) (Qd : W → MM → Prop) (Q : VK) (ws : List W) (vs : List V), Ok B α M H → RepWs B α M H ws vs → k ws M Qd → QOk B α M H Qd Q → r vs H Q
theorem RepK.len : ∀ {ds : List (Key × D)} {vs : List (Key × V)}, RepK B L H ds vs → vs.length = ds.length
  | [], _, h => by cases h; rfl
  | (k, d) :: ds, _, h => by
    obtain ⟨v, r, rfl, _, h2⟩ := h
    rw [List.length_cons, List.length_cons, RepK.len h2]
theorem ap1_ws {ws : List W} {vs : List V} {k : D → Prop} (ok : Ok B α M H) (r : RepWs B α M H ws vs) (h : ap1 M ws k) : ∃ x v, vs = [v] ∧ RepV B (Lv B α M) H x v ∧ k x := by
  cases ws with
  | nil => exact h.elim
  | cons w ws =>
    cases ws with
    | nil =>
      obtain ⟨v, s, rfl, h1, rfl⟩ := r
      obtain ⟨x, e, hk⟩ := ap1_elim h
      exact ⟨x, v, rfl, view ok e h1, hk⟩
    | cons w' ws => exact h.elim
theorem ap2_ws {ws : List W} {vs : List V} {k : D → D → Prop} (ok : Ok B α M H) (r : RepWs B α M H ws vs) (h : ap2 M ws k) : ∃ x y v u, vs = [v, u] ∧ RepV B (Lv B α M) H x v ∧ RepV B (Lv B α M) H y u ∧ k x y := by
  match ws, h with
  | [], h => exact h.elim
  | [_], h => exact h.elim
  | _ :: _ :: _ :: _, h => exact h.elim
  | [w, w'], h =>
    obtain ⟨v, s, rfl, h1, v', s', rfl, h2, rfl⟩ := r
    obtain ⟨x, y, e, e', hk⟩ := ap2_elim h
    exact ⟨x, y, v, v', rfl, view ok e h1, view ok e' h2, hk⟩
theorem bi_len (hK : X.K = B.K) (m : Bool) : CallSnd X B (.builtin "len") (biW .len m) := by
  refine ⟨_, callOr call_len_seq (callOr call_len_str call_lenK), fun α M H Qd Q ws vs ok r h q => ?_⟩
  obtain ⟨x, v, rfl, rx, h⟩ := ap1_ws ok r h
  split at h
  · rename_i ns
    obtain ⟨a, rfl, h1⟩ := rx
    have h2 : SqL X.K H a (ns.map V.int) := hK ▸ h1.elim (fun h => .inl h.1) .inr
    exact .inl ⟨a, _, rfl, .inl h2, by rw [List.length_map]; exact q.val ok (x := .int _) rfl h⟩
  · obtain ⟨rfl, _⟩ := rx
    exact .inr (.inl ⟨_, rfl, h.1, q.val ok (x := .int _) rfl h.2⟩)
  · obtain ⟨a, vs, rfl, h1, h2⟩ := rx
    exact .inl ⟨a, vs, rfl, .inl (SqL.of h1), by rw [h2.len]; exact q.val ok (x := .int _) rfl h⟩
  · obtain ⟨a, vs, rfl, h1, _, h2⟩ := rx
    exact .inl ⟨a, vs, rfl, .inr (SqT.of h1), by rw [h2.len]; exact q.val ok (x := .int _) rfl h⟩
  · obtain ⟨a, vs, o, rfl, h1, _, _, h2⟩ := rx
    exact .inl ⟨a, vs, rfl, .inr (.inl (.inr ⟨o, h1⟩)), by rw [h2.len]; exact q.val ok (x := .int _) rfl h⟩
  · obtain ⟨a, ks, rfl, h1, h2⟩ := rx
    exact .inr (.inr ⟨a, ks, rfl, h1, by rw [h2.len]; exact q.val ok (x := .int _) rfl h⟩)
  · exact h.elim
theorem bi_abs (m : Bool) : CallSnd X B (.builtin "abs") (biW .abs m) := by
  refine ⟨_, call_abs, fun α M H Qd Q ws vs ok r h q => ?_⟩
  obtain ⟨x, v, rfl, rx, h⟩ := ap1_ws ok r h
  split at h
  · cases rx
    exact ⟨_, rfl, q.val ok (x := .int _) rfl h⟩
  · exact h.elim
theorem bi_max (hK : X.K = B.K) (hc : X.calm = true) (hu : X.A.units + 80 < cLine) (m : Bool) : CallSnd X B (.builtin "max") (biW .max m) := by
  refine ⟨_, cr_maxD hc hu, fun α M H Qd Q ws vs ok r h q => ?_⟩
  rw [hK]
  unfold biW at h
  dsimp only at h
  split at h
  · obtain ⟨v, s, rfl, h1, v', s', rfl, h2, rfl⟩ := r
    cases h1; cases h2
    exact .inl ⟨_, _, rfl, q.val ok (x := .int _) rfl h⟩
  · obtain ⟨v, s, rfl, h1, rfl⟩ := r
    obtain ⟨hm, h⟩ := h
    obtain ⟨d, hd, h⟩ := optK_elim h
    obtain ⟨a, vs, rfl, h2, _, h3⟩ := h1
    exact .inr (min_how (SqL.of h2) h3 hm hd fun v r => q.val ok r h)
  · exact h.elim
theorem bi_min (hK : X.K = B.K) (hc : X.calm = true) (hu : X.A.units + 80 < cLine) (m : Bool) : CallSnd X B (.builtin "min") (biW .min m) := by
  refine ⟨_, cr_minD hc hu, fun α M H Qd Q ws vs ok r h q => ?_⟩
  rw [hK]
  unfold biW at h
  dsimp only at h
  split at h
  · obtain ⟨v, s, rfl, h1, v', s', rfl, h2, rfl⟩ := r
    cases h1; cases h2
    exact .inl ⟨_, _, rfl, q.val ok (x := .int _) rfl h⟩
  · obtain ⟨v, s, rfl, h1, rfl⟩ := r
    obtain ⟨hm, h⟩ := h
    obtain ⟨d, hd, h⟩ := optK_elim h
    obtain ⟨a, vs, rfl, h2, _, h3⟩ := h1
    exact .inr (min_how (SqL.of h2) h3 hm hd fun v r => q.val ok r h)
  · exact h.elim
theorem seqD_rep {x : D} {xs : List D} {v : V} (e : seqD x = some xs) (r : RepV B L H x v) : ∃ a vs, v = .ref a ∧ (SqL B.K H a vs ∨ SqT B.K H a vs) ∧ RepL B L H xs vs := by
  cases x with
  | lst ys => cases e; obtain ⟨a, vs, rfl, h1, h2⟩ := r; exact ⟨a, vs, rfl, .inl (SqL.of h1), h2⟩
  | tup ys => cases e; obtain ⟨a, vs, rfl, h1, _, h2⟩ := r; exact ⟨a, vs, rfl, .inr (SqT.of h1), h2⟩
  | tupK ys => cases e; obtain ⟨a, vs, rfl, h1, h2⟩ := r; exact ⟨a, vs, rfl, .inr (.inr h1), h2⟩
  | tupF ys => cases e; obtain ⟨a, vs, o, rfl, h1, _, _, h2⟩ := r; exact ⟨a, vs, rfl, .inr (.inl (.inr ⟨o, h1⟩)), h2⟩
  | _ => cases e
theorem bi_list (hK : X.K = B.K) (m : Bool) : CallSnd X B (.type "list") (biW .list m) := by
  refine ⟨_, call_list_of, fun α M H Qd Q ws vs ok r h q => ?_⟩
  rw [hK]
  obtain ⟨x, v, rfl, rx, h⟩ := ap1_ws ok r h
  split at h
  · rename_i xs e
    obtain ⟨a, vs, rfl, h1, h2⟩ := seqD_rep e rx
    exact ⟨a, vs, rfl, h1, fun p hp => q.lst ok h2 h hp⟩
  · exact h.elim
theorem bi_tuple (m : Bool) : CallSnd X B (.type "tuple") (biW .tuple m) := by
  refine ⟨_, call_tuple_of, fun α M H Qd Q ws vs ok r h q => ?_⟩
  obtain ⟨x, v, rfl, rx, h⟩ := ap1_ws ok r h
  split at h
  · obtain ⟨a, vs, rfl, h1, h2⟩ := rx
    exact ⟨a, vs, rfl, .inl ⟨SqL.of h1, fun p hp => q.tup ok h2 h hp⟩⟩
  · rename_i xs
    have rx' : Rep B (Lv B α M) H (.tup xs) v := rx
    obtain ⟨a, vs, rfl, h1, _, h2⟩ := rx
    exact ⟨a, vs, rfl, .inr ⟨SqT.of h1, q.val ok rx' h⟩⟩
  · exact h.elim
theorem bi_sorted (hK : X.K = B.K) (hu : X.A.units + 80 < cLine) (m : Bool) : CallSnd X B (.builtin "sorted") (biW .sorted m) := by
  refine ⟨_, cr_sortD hu, fun α M H Qd Q ws vs ok r h q => ?_⟩
  obtain ⟨x, v, rfl, rx, h⟩ := ap1_ws ok r h
  split at h
  · rename_i xs e
    obtain ⟨a, vs, rfl, h1, h2⟩ := seqD_rep e rx
    exact sortD_how hK h1 h2 h.1 fun p ws r hp => q.lst ok r h.2 hp
  · exact h.elim
theorem bi_int (m : Bool) : CallSnd X B (.type "int") (biW .int m) := by
  refine ⟨_, call_int1, fun α M H Qd Q ws vs ok r h q => ?_⟩
  obtain ⟨x, v, rfl, rx, h⟩ := ap1_ws ok r h
  split at h
  · cases rx; exact .inl ⟨_, rfl, q.val ok (x := .int _) rfl h⟩
  · cases rx; exact .inr ⟨_, rfl, q.val ok (x := .int _) rfl h⟩
  · exact h.elim
theorem blL_rep : ∀ {xs : List D} {bs : List Bool} {vs : List V}, blL xs = some bs → RepL B L H xs vs → vs = bs.map V.bl
  | [], _, _, e, h => by cases h; cases e; rfl
  | x :: xs, _, _, e, h => by
    obtain ⟨v, r, rfl, h1, h2⟩ := h
    cases x with
    | bl b =>
      simp only [blL] at e
      split at e
      · rename_i bs e2
        cases e
        cases h1
        rw [List.map_cons, blL_rep e2 h2]
      · cases e
    | _ => simp only [blL] at e; cases e
theorem intL_rep : ∀ {xs : List D} {bs : List Int} {vs : List V}, intL xs = some bs → RepL B L H xs vs → vs = bs.map V.int
  | [], _, _, e, h => by cases h; cases e; rfl
  | x :: xs, _, _, e, h => by
    obtain ⟨v, r, rfl, h1, h2⟩ := h
    cases x with
    | int b =>
      simp only [intL] at e
      split at e
      · rename_i bs e2
        cases e
        cases h1
        rw [List.map_cons, intL_rep e2 h2]
      · cases e
    | _ => simp only [intL] at e; cases e
theorem strL_rep : ∀ {xs : List D} {bs : List Str} {vs : List V}, strL xs = some bs → RepL B L H xs vs → vs = bs.map V.str ∧ ∀ b ∈ bs, b.cps.all (· < 0x110000) = true
  | [], _, _, e, h => by cases h; cases e; exact ⟨rfl, fun b hb => nomatch hb⟩
  | x :: xs, _, _, e, h => by
    obtain ⟨v, r, rfl, h1, h2⟩ := h
    cases x with
    | str b =>
      simp only [strL] at e
      split at e
      · rename_i bs e2
        cases e
        obtain ⟨rfl, hb⟩ := h1
        obtain ⟨rfl, hs⟩ := strL_rep e2 h2
        refine ⟨rfl, fun c hc => ?_⟩
        rcases List.mem_cons.mp hc with rfl | hc
        · exact hb
        · exact hs c hc
      · cases e
    | _ => simp only [strL] at e; cases e
theorem bi_all (hK : X.K = B.K) (hc : X.calm = true) (m : Bool) : CallSnd X B (.builtin "all") (biW .all m) := by
  refine ⟨_, cr_all hc, fun α M H Qd Q ws vs ok r h q => ?_⟩
  rw [hK]
  obtain ⟨x, v, rfl, rx, h⟩ := ap1_ws ok r h
  split at h
  · obtain ⟨a, vs, rfl, h1, h2⟩ := rx
    split at h
    · rename_i bs e
      obtain rfl := blL_rep e h2
      exact ⟨a, bs, rfl, SqL.of h1, q.val ok (x := .bl _) rfl h⟩
    · exact h.elim
  · exact h.elim
theorem bi_any (hK : X.K = B.K) (hc : X.calm = true) (m : Bool) : CallSnd X B (.builtin "any") (biW .any m) := by
  refine ⟨_, cr_any hc, fun α M H Qd Q ws vs ok r h q => ?_⟩
  rw [hK]
  obtain ⟨x, v, rfl, rx, h⟩ := ap1_ws ok r h
  split at h
  · obtain ⟨a, vs, rfl, h1, h2⟩ := rx
    split at h
    · rename_i bs e
      obtain rfl := blL_rep e h2
      exact ⟨a, bs, rfl, SqL.of h1, q.val ok (x := .bl _) rfl h⟩
    · exact h.elim
  · exact h.elim
theorem bi_sum (hK : X.K = B.K) (hc : X.calm = true) (m : Bool) : CallSnd X B (.builtin "sum") (biW .sum m) := by
  refine ⟨_, cr_sum hc, fun α M H Qd Q ws vs ok r h q => ?_⟩
  rw [hK]
  obtain ⟨x, v, rfl, rx, h⟩ := ap1_ws ok r h
  split at h
  · obtain ⟨a, vs, rfl, h1, h2⟩ := rx
    split at h
    · rename_i bs e
      obtain rfl := intL_rep e h2
      exact ⟨a, bs, rfl, SqL.of h1, q.val ok (x := .int _) rfl h⟩
    · exact h.elim
  · exact h.elim
theorem bi_repr (hK : X.K = B.K) (hg : X.A.guards = some []) (hu : X.A.units + 80 < cLine) (m : Bool) : CallSnd X B (.builtin "repr") (biW .repr m) := by
  refine ⟨_, cr_repr hg hu, fun α M H Qd Q ws vs ok r h q => ?_⟩
  rw [hK]
  obtain ⟨x, v, rfl, rx, h⟩ := ap1_ws ok r h
  obtain ⟨p, e, h1, h2⟩ := optK_elim h
  obtain ⟨hd, hc⟩ := RepV.dp rx e
  unfold ShowOk at h1
  refine ⟨v, p, rfl, hd, hc, h1.1, h1.2.1, h1.2.2, ?_⟩
  unfold reprD at h2
  refine q.val ok (x := .str _) ⟨rfl, ?_⟩ h2
  rw [← Array.all_toList, List.all_eq_true]
  exact fun c hc2 => decide_eq_true (okC_shown p hc c hc2)
theorem bi_snd (hK : X.K = B.K) (hc : X.calm = true) (hg : X.A.guards = some []) (hu : X.A.units + 80 < cLine) (f : Bi) (m : Bool) : CallSnd X B (biV f) (biW f m) := by
  cases f with
  | len => exact bi_len hK m
  | abs => exact bi_abs m
  | max => exact bi_max hK hc hu m
  | min => exact bi_min hK hc hu m
  | list => exact bi_list hK m
  | tuple => exact bi_tuple m
  | sorted => exact bi_sorted hK hu m
  | int => exact bi_int m
  | sum => exact bi_sum hK hc m
  | all => exact bi_all hK hc m
  | any => exact bi_any hK hc m
  | repr => exact bi_repr hK hg hu m
end
end DL

/-! DL8: methods of built-in types. -/
namespace DL
open PySem PySem.Spec L2 PyProof.Rows
section
variable {X : Cx} {B : Bs} {L : Addr → Prop} {α : List Addr} {M : MM} {H : Hp} {Qd : W → MM → Prop} {Q : VK}
structure MeRow (X : Cx) (name : Str) (T id : String) (r : V → List V → Hp → VK → Prop) : Prop where
  pa : PlainAttrs T
  sl : Slot T name id
  ty : typeOf (.builtin id) = pure (.type "method_descriptor")
  mt : MtR X id r
def tyX (X : Cx) (T : String) (x : V) (H : Hp) : Prop := ∀ (pins : List (Addr × Obj)) (σ : L2.St) (s : Shared) (v : Value), Inv X pins σ H s → RelV x v → s.TypeIs v T ∧ ∀ a, v = .ref a → ∃ o, s.heap.get? a = some o ∧ o.dict = none
def tMe (X : Cx) (name : Str) (to : TE) (t : TA) : TE := fun σ H Q => to σ H fun x H1 => ∃ T id r, MeRow X name T id r ∧ tyX X T x H1 ∧ t σ H1 fun xs H2 => r x xs H2 Q
def tMe0 (X : Cx) (name : Str) (to : TE) : TE := fun σ H Q => to σ H fun x H1 => ∃ T id r, MeRow X name T id r ∧ tyX X T x H1 ∧ r x [] H1 Q
theorem pe_me0 {o : Expr} {to : TE} {name : Str} {apos cpos : Pos} (ho : PE X o to)
    (hbase : attributeBase o name X.env (eval o X.env) = eval o X.env) (hline : (apos.endLine == cpos.line) = true) : PE X (.Call (.Attribute o name apos) [] [] cpos) (tMe0 X name to) := by
  refine ⟨fun pins s σ H Q I h => ?_⟩
  refine wpAny_Call_method0_late hbase hline (thn (ho.run pins s σ H _ I h) fun v s1 ⟨x, H1, I1, r1, T, id, r, row, ty, q1⟩ => ?_)
  obtain ⟨h1, h2⟩ := ty pins σ s1 v I1 r1
  exact ⟨T, id, row.pa, row.sl, row.ty, h1, h2, Calls.callWith_builtin rfl (PySem.evalArgs_none (row.mt pins s1 σ H1 x [] v [] Q I1 r1 .nil q1))⟩
theorem pe_me {o e : Expr} {es : List Expr} {to : TE} {t : TA} {name : Str} {apos cpos : Pos} (ho : PE X o to) (ha : PA X (e :: es) t)
    (hbase : attributeBase o name X.env (eval o X.env) = eval o X.env) (hline : (apos.endLine == cpos.line) = true) (hs0 : starEach (e :: es) X.env = (e :: es).map fun e => (false, eval e X.env)) (hlen : (e :: es).length < 28) :
    PE X (.Call (.Attribute o name apos) (e :: es) [] cpos) (tMe X name to t) := by
  have hs2 : starEach es X.env = es.map fun e => (false, eval e X.env) := by
    cases e <;> first | (unfold starEach at hs0; simpa using hs0) | (unfold starEach at hs0; simp at hs0)
  have hs1 : starEach (e :: es) X.env = (false, eval e X.env) :: starEach es X.env := by rw [hs0, hs2]; rfl
  have hpl : (backTo cpos (starEach (e :: es) X.env)).all (fun x => !x.1) = true := by
    rw [hs0]
    unfold backTo
    rw [List.map_map, List.all_map]
    exact List.all_eq_true.mpr fun _ _ => rfl
  have hplain1 : (backTo cpos (starEach es X.env)).any (·.1) = false := by
    rw [hs2]
    unfold backTo
    rw [List.map_map, List.any_map]
    exact List.any_eq_false.mpr fun _ _ => by simp
  refine ⟨fun pins s σ H Q I h => ?_⟩
  refine wpAny_Call_method_late hbase ?hfew hline rfl (thn (ho.run pins s σ H _ I h) fun v s1 ⟨x, H1, I1, r1, T, id, r, row, ty, q1⟩ => ?_)
  case hfew =>
    rw [hpl, Bool.true_and]
    show (([] : List (Option Str × Sem Value)).all (fun x => x.1.isSome) && decide ((e :: es).length + ([] : List Keyword).length + 0 < 30)) = true
    rw [List.all_nil, Bool.true_and, decide_eq_true_eq]
    show (e :: es).length + 0 + 0 < 30
    omega
  obtain ⟨h1, h2⟩ := ty pins σ s1 v I1 r1
  refine ⟨T, id, row.pa, row.sl, row.ty, h1, h2, ?_⟩
  have hA := ha.run cpos pins s1 σ H1 _ I1 q1
  rw [hs1] at hA ⊢
  refine Calls.callWith_builtin (by show (false || (backTo cpos (starEach es X.env)).any (·.1)) = false; rw [hplain1] <;> rfl) (Calls.evalArgs_plain ?_)
  exact thn hA fun us s2 ⟨vs, H2, I2, r2, q2⟩ => row.mt pins s2 σ H2 x vs v us Q I2 r1 r2 q2

def meN : Bm → Str
  | .append => "append" | .pop => "pop" | .extend => "extend" | .join => "join" | .split => "split" | .index => "index" | .indexF => "index" | .upper => "upper" | .get => "get" | .clear => "clear" | .reverse => "reverse"
theorem tyX_lst {a : Addr} {xs : List V} (h : H a = some (.lst xs)) : tyX X "list" (.ref a) H := fun pins σ s v I r => by
  cases r
  obtain ⟨_, its, n, _, e⟩ := I.hok a _ h
  exact ⟨⟨_, e, rfl⟩, fun b q => by cases q; exact ⟨_, e, rfl⟩⟩
theorem tyX_str {z : Str} : tyX X "str" (.str z) H := fun pins σ s v I r => by
  obtain ⟨t, rfl⟩ := r
  exact ⟨typeIs_str s z t, fun _ e => nomatch e⟩
theorem tyX_tupF {a : Addr} {xs : List V} {o : Obj} (h : H a = some (.frz o (.tup xs))) (hd : o.dict = none) : tyX X "tuple" (.ref a) H := fun pins σ s v I r => by
  cases r
  obtain ⟨e, _, its, _, ob, e2, hc, _⟩ := I.hok a _ h
  rw [e] at e2
  cases e2
  exact ⟨⟨_, e, hc⟩, fun b q => by cases q; exact ⟨_, e, hd⟩⟩
/-- a method's rule serves the wish -/
def MeSnd (X : Cx) (B : Bs) (f : Bm) (m : Bool) : Prop := ∃ T id r, MeRow X (meN f) T id r ∧
  (∀ (α : List Addr) (M : MM) (H : Hp) (w : W) (v : V), Ok B α M H → RepW B α M H w v → meT f w M → tyX X T v H) ∧
  ∀ (α : List Addr) (M : MM) (H : Hp) (Qd : W → MM → Prop) (Q : VK) (w : W) (v : V) (ws : List W) (vs : List V), Ok B α M H → RepW B α M H w v → RepWs B α M H ws vs → meW f m (w :: ws) M Qd → QOk B α M H Qd Q → r v vs H Q
theorem isLst_ty {w : W} {v : V} (ok : Ok B α M H) (r : RepW B α M H w v) (h : isLst M w) : tyX X "list" v H := by
  unfold isLst at h
  split at h
  · rename_i xs e
    obtain ⟨a, vs, rfl, h1, h2⟩ := view ok e r
    exact tyX_lst h1
  · exact h.elim
theorem isStr_ty {w : W} {v : V} (r : RepW B α M H w v) (h : isStr w) : tyX X "str" v H := by
  unfold isStr at h
  split at h
  · obtain ⟨rfl, _⟩ := r; exact tyX_str
  · exact h.elim
theorem isTupF_ty {w : W} {v : V} (r : RepW B α M H w v) (h : isTupF w) : tyX X "tuple" v H := by
  unfold isTupF at h
  split at h
  · obtain ⟨a, vs, o, rfl, h1, hd, _⟩ := r; exact tyX_tupF h1 hd
  · exact h.elim
/-- a list that changes -/
theorem QOk.set (q : QOk B α M H Qd Q) (ok : Ok B α M H) {i : Nat} {a : Addr} {mo mo' : MO} {o : HO} {x : D} {v : V} (em : M[i]? = some (some mo)) (ha : α[i]? = some a) (ro : RepO B α M H mo' o) (r : Rep B (Lv B α M) H x v)
    (h : Qd (.d x) (M.set i (some mo'))) : Q v (upd H a o) :=
  q α (M.set i (some mo')) (.d x) v _ (step_write ok em ha) (ok.write em ha ro) (Rep.mono (step_write ok em ha).kept x v r) h
theorem me_append (m : Bool) : MeSnd X B .append m := by
  refine ⟨"list", "list.append", rAppend, ⟨PySem.F.plainAttrs_list, PySem.F.slot_list_append, PySem.F.type_list_append, mt_append⟩, fun α M H w v ok r h => isLst_ty ok r h, fun α M H Qd Q w v ws vs ok r rs h q => ?_⟩
  unfold meW at h
  dsimp only at h
  split at h
  · rename_i i y e
    cases e
    split at h
    · rename_i xs em
      obtain ⟨a, ha, rfl⟩ := r
      obtain ⟨u, s, rfl, h1, rfl⟩ := rs
      obtain ⟨o, ho, ws, rfl, hr⟩ := ok.obj i _ a em ha
      exact ⟨a, ws, u, rfl, rfl, ho, by rw [hr.len]; exact h.1, q.set ok em ha (mo' := .lst _) ⟨_, rfl, hr.app (RepL.one h1)⟩ (x := .non) rfl h.2⟩
    · exact h.elim
  · exact h.elim
theorem RepL.dropLast {ds : List D} {vs : List V} (h : RepL B L H ds vs) : RepL B L H ds.dropLast vs.dropLast := by
  rw [List.dropLast_eq_take, List.dropLast_eq_take, h.len]
  exact h.take _
def rPopAt2 : V → List V → Hp → VK → Prop := fun x vs H Q => ∃ l xs i k y, x = .ref l ∧ vs = [.int i] ∧ H l = some (.lst xs) ∧ ixN xs.length i = some k ∧ xs[k]? = some y ∧ Q y (upd H l (.lst (xs.eraseIdx k)))
theorem mt_popAt2 : MtR X "list.pop" rPopAt2 := by
  intro pins s σ H x xs v us Q I rx rs h
  obtain ⟨l, ys, i, k, y, rfl, rfl, ho, hk, hy, q⟩ := h
  obtain ⟨hz, _⟩ := I.hok l _ ho
  obtain ⟨z1, z2, z3, z4⟩ := ixN_seq hk
  have hl := line63
  exact mt_popAt pins s σ H _ _ v us Q I rx rs ⟨l, ys, i, k, y, rfl, rfl, ho, by omega, by omega, z1, hy, q⟩
theorem me_pop (m : Bool) : MeSnd X B .pop m := by
  refine ⟨"list", "list.pop", _, ⟨PySem.F.plainAttrs_list, PySem.F.slot_list_pop, PySem.F.type_list_pop, mtOr (r := rPop) (r' := rPopAt2) mt_pop mt_popAt2⟩, fun α M H w v ok r h => isLst_ty ok r h, fun α M H Qd Q w v ws vs ok r rs h q => ?_⟩
  unfold meW at h
  dsimp only at h
  split at h
  · rename_i i e
    cases e
    split at h
    · rename_i xs em
      obtain ⟨a, ha, rfl⟩ := r
      obtain rfl : vs = [] := rs
      obtain ⟨o, ho, ws, rfl, hr⟩ := ok.obj i _ a em ha
      split at h
      · rename_i y ey
        obtain ⟨u, eu, ru⟩ := hr.get ey
        exact .inl ⟨a, ws, u, rfl, rfl, ho, by rw [hr.len]; exact eu, q.set ok em ha (mo' := .lst _) ⟨_, rfl, hr.dropLast⟩ ru h⟩
      · exact h.elim
    · exact h.elim
  · rename_i i k e
    cases e
    split at h
    · rename_i xs em
      obtain ⟨a, ha, rfl⟩ := r
      obtain ⟨u, s, rfl, h1, rfl⟩ := rs
      cases h1
      obtain ⟨o, ho, ws, rfl, hr⟩ := ok.obj i _ a em ha
      split at h
      · rename_i j ej
        split at h
        · rename_i y ey
          obtain ⟨u, eu, ru⟩ := hr.get ey
          exact .inr ⟨a, ws, k, j, u, rfl, rfl, ho, by rw [hr.len]; exact ej, eu, q.set ok em ha (mo' := .lst _) ⟨_, rfl, hr.erase j⟩ ru h⟩
        · exact h.elim
      · exact h.elim
    · exact h.elim
  · exact h.elim
/-- lists that are read or changed by their methods; extend by a list or a tuple -/
def rExt3 (K : PySem.W.Frag) : V → List V → Hp → VK → Prop := fun x vs H Q => ∃ l b xs zs, x = .ref l ∧ vs = [.ref b] ∧ H l = some (.lst xs) ∧ H b = some (.lst zs) ∧ xs.length + zs.length ≤ sizeLine ∧ Q .non (upd H l (.lst (xs ++ zs)))
theorem me_extend (m : Bool) : MeSnd X B .extend m := by
  refine ⟨"list", "list.extend", rExtend, ⟨PySem.F.plainAttrs_list, PySem.F.slot_list_extend, PySem.F.type_list_extend, mt_extend⟩, fun α M H w v ok r h => isLst_ty ok r h, fun α M H Qd Q w v ws vs ok r rs h q => ?_⟩
  unfold meW at h
  dsimp only at h
  split at h
  · rename_i i y e
    cases e
    split at h
    · rename_i xs ys em ey
      obtain ⟨a, ha, rfl⟩ := r
      obtain ⟨u, s, rfl, h1, rfl⟩ := rs
      obtain ⟨o, ho, ws, rfl, hr⟩ := ok.obj i _ a em ha
      obtain ⟨b, zs, rfl, hb, hz⟩ := view ok ey h1
      exact ⟨a, b, ws, zs, rfl, rfl, ho, hb, by rw [hr.len, hz.len]; exact h.1, q.set ok em ha (mo' := .lst _) ⟨_, rfl, hr.app hz⟩ (x := .non) rfl h.2⟩
    · exact h.elim
  · exact h.elim
theorem me_clear (m : Bool) : MeSnd X B .clear m := by
  refine ⟨"list", "list.clear", rClear, ⟨PySem.F.plainAttrs_list, PySem.F.slot_list_clear, PySem.F.type_list_clear, mt_clear⟩, fun α M H w v ok r h => isLst_ty ok r h, fun α M H Qd Q w v ws vs ok r rs h q => ?_⟩
  unfold meW at h
  dsimp only at h
  split at h
  · rename_i i e
    cases e
    split at h
    · rename_i xs em
      obtain ⟨a, ha, rfl⟩ := r
      obtain rfl : vs = [] := rs
      obtain ⟨o, ho, ws, rfl, hr⟩ := ok.obj i _ a em ha
      exact ⟨a, ws, rfl, rfl, ho, q.set ok em ha (mo' := .lst []) ⟨[], rfl, rfl⟩ (x := .non) rfl h⟩
    · exact h.elim
  · exact h.elim
theorem me_reverse (m : Bool) : MeSnd X B .reverse m := by
  refine ⟨"list", "list.reverse", rReverse, ⟨PySem.F.plainAttrs_list, PySem.F.slot_list_reverse, PySem.F.type_list_reverse, mt_reverse⟩, fun α M H w v ok r h => isLst_ty ok r h, fun α M H Qd Q w v ws vs ok r rs h q => ?_⟩
  unfold meW at h
  dsimp only at h
  split at h
  · rename_i i e
    cases e
    split at h
    · rename_i xs em
      obtain ⟨a, ha, rfl⟩ := r
      obtain rfl : vs = [] := rs
      obtain ⟨o, ho, ws, rfl, hr⟩ := ok.obj i _ a em ha
      exact ⟨a, ws, rfl, rfl, ho, q.set ok em ha (mo' := .lst _) ⟨_, rfl, hr.rev⟩ (x := .non) rfl h⟩
    · exact h.elim
  · exact h.elim
theorem tl_all {s : Str} : s.cps.all (· < 0x110000) = true ↔ ∀ c ∈ s.cps.toList, c < 0x110000 := by
  rw [Array.all_eq_true']
  constructor
  · intro h c hc; simpa using h c (Array.mem_toList_iff.mp hc)
  · intro h c hc; simpa using h c (Array.mem_toList_iff.mpr hc)
theorem join_ok {a : Str} (ha : a.cps.all (· < 0x110000) = true) : ∀ {ss : List Str}, (∀ b ∈ ss, b.cps.all (· < 0x110000) = true) → (Str.join a ss).cps.all (· < 0x110000) = true
  | [], _ => Array.all_empty
  | [x], h => h x List.mem_cons_self
  | x :: y :: r, h => by
    have ih := join_ok ha (ss := y :: r) fun b hb => h b (List.mem_cons_of_mem _ hb)
    show ((x.cps ++ a.cps) ++ (Str.join a (y :: r)).cps).all _ = true
    rw [Array.all_append, Array.all_append, h x List.mem_cons_self, ha, ih]
    rfl
theorem me_join (hK : X.K = B.K) (m : Bool) : MeSnd X B .join m := by
  refine ⟨"str", "str.join", _, ⟨PySem.F.plainAttrs_str, PySem.F.slot_str_join, PySem.F.type_str_join, mt_join⟩, fun α M H w v ok r h => isStr_ty r h, fun α M H Qd Q w v ws vs ok r rs h q => ?_⟩
  rw [hK]
  unfold meW at h
  dsimp only at h
  obtain ⟨x, y, u, u', e, rx, ry, h⟩ := ap2_ws (ws := w :: ws) (vs := v :: vs) ok ⟨v, vs, rfl, r, rs⟩ h
  cases e
  split at h
  · rename_i a ys e
    obtain ⟨rfl, ha⟩ := rx
    split at h
    · rename_i ss es
      have ry' : ∃ p us, u' = .ref p ∧ (SqL B.K H p us ∨ SqT B.K H p us) ∧ RepL B (Lv B α M) H ys us := by
        cases y with
        | lst zs => cases e; obtain ⟨p, us, rfl, h1, h2⟩ := ry; exact ⟨p, us, rfl, .inl (SqL.of h1), h2⟩
        | tup zs => exact seqD_rep e ry
        | tupK zs => exact seqD_rep e ry
        | tupF zs => exact seqD_rep e ry
        | _ => cases e
      obtain ⟨p, us, rfl, hs, hr⟩ := ry'
      obtain ⟨rfl, hss⟩ := strL_rep es hr
      exact ⟨a, p, ss, rfl, rfl, hs, h.1, q.val ok (x := .str _) ⟨rfl, by rw [TL.join_eq]; exact join_ok ha hss⟩ h.2⟩
    · exact h.elim
  · exact h.elim
theorem RepL.strs : ∀ {ss : List Str}, (∀ b ∈ ss, b.cps.all (· < 0x110000) = true) → RepL B L H (ss.map D.str) (ss.map V.str)
  | [], _ => rfl
  | s :: ss, h => ⟨.str s, ss.map V.str, rfl, ⟨rfl, h s List.mem_cons_self⟩, RepL.strs fun b hb => h b (List.mem_cons_of_mem _ hb)⟩
theorem me_split (m : Bool) : MeSnd X B .split m := by
  refine ⟨"str", "str.split", _, ⟨PySem.F.plainAttrs_str, PySem.F.slot_str_split, PySem.F.type_str_split, mt_split⟩, fun α M H w v ok r h => isStr_ty r h, fun α M H Qd Q w v ws vs ok r rs h q => ?_⟩
  unfold meW at h
  dsimp only at h
  obtain ⟨x, y, u, u', e, rx, ry, h⟩ := ap2_ws (ws := w :: ws) (vs := v :: vs) ok ⟨v, vs, rfl, r, rs⟩ h
  cases e
  split at h
  · rename_i a b
    obtain ⟨rfl, ha⟩ := rx
    obtain ⟨rfl, hb⟩ := ry
    exact ⟨a, b, rfl, rfl, h.1, h.2.1, fun p hp => q.lst ok (RepL.strs h.2.2.1) h.2.2.2 hp⟩
  · exact h.elim
theorem me_upper (m : Bool) : MeSnd X B .upper m := by
  refine ⟨"str", "str.upper", _, ⟨PySem.F.plainAttrs_str, PySem.F.slot_str_upper, PySem.F.type_str_upper, mt_upper⟩, fun α M H w v ok r h => isStr_ty r h, fun α M H Qd Q w v ws vs ok r rs h q => ?_⟩
  unfold meW at h
  dsimp only at h
  obtain ⟨x, u, e, rx, h⟩ := ap1_ws (ws := w :: ws) (vs := v :: vs) ok ⟨v, vs, rfl, r, rs⟩ h
  cases e
  split at h
  · rename_i a
    obtain ⟨rfl, ha⟩ := rx
    exact ⟨a, rfl, rfl, h.1, q.val ok (x := .str _) ⟨rfl, h.2.1⟩ h.2.2⟩
  · exact h.elim
theorem first_rep {y : D} {u : V} (hy : Rep B L H y u) (fy : flatD y = true) : ∀ {xs : List D} {vs : List V} {j : Nat}, RepL B L H xs vs → xs.all flatD = true → xs.findIdx? (fun z => eqF z y) = some j →
    (∃ z, vs[j]? = some z ∧ eqV z u = true) ∧ ∀ (m : Nat) (z' : V), m < j → vs[m]? = some z' → eqV z' u = false
  | [], _, _, _, _, e => by cases e
  | x :: xs, _, j, h, f, e => by
    obtain ⟨v, r, rfl, h1, h2⟩ := h
    rw [List.all_cons, Bool.and_eq_true] at f
    rw [List.findIdx?_cons] at e
    have ev := eqF_V h1 hy f.1 fy
    by_cases c : eqF x y = true
    · rw [if_pos c] at e
      cases e
      exact ⟨⟨v, rfl, by rw [← ev]; exact c⟩, fun m z' hm => absurd hm (Nat.not_lt_zero _)⟩
    · rw [if_neg c] at e
      cases e2 : xs.findIdx? (fun z => eqF z y) with
      | none => rw [e2] at e; cases e
      | some k =>
        rw [e2] at e
        cases e
        obtain ⟨h3, h4⟩ := first_rep hy fy h2 f.2 e2
        refine ⟨h3, fun m z' hm hz => ?_⟩
        cases m with
        | zero =>
          cases hz
          rw [← ev]
          exact Bool.eq_false_iff.mpr c
        | succ m => exact h4 m z' (Nat.lt_of_succ_lt_succ hm) hz
theorem me_index (hK : X.K = B.K) (m : Bool) : MeSnd X B .index m := by
  refine ⟨"list", "list.index", _, ⟨PySem.F.plainAttrs_list, PySem.F.slot_list_index, PySem.F.type_list_index, mt_index⟩, fun α M H w v ok r h => isLst_ty ok r h, fun α M H Qd Q w v ws vs ok r rs h q => ?_⟩
  rw [hK]
  unfold meW at h
  dsimp only at h
  obtain ⟨x, y, u, u', e, rx, ry, h⟩ := ap2_ws (ws := w :: ws) (vs := v :: vs) ok ⟨v, vs, rfl, r, rs⟩ h
  cases e
  split at h
  · rename_i xs
    obtain ⟨a, us, rfl, h1, h2⟩ := rx
    rw [ifB_iff] at h
    split at h
    · rename_i c
      rw [Bool.and_eq_true] at c
      split at h
      · rename_i j ej
        obtain ⟨⟨z, h3, h4⟩, h5⟩ := first_rep (ry.rep c.1) c.1 h2 c.2 ej
        exact ⟨a, us, u', j, z, rfl, rfl, SqL.of h1, (ry.rep c.1).flat c.1, h2.flat c.2, h3, h4, h5, q.val ok (x := .int _) rfl h⟩
      · exact h.elim
    · exact h.elim
  · exact h.elim
theorem idxOf_str {ss : List Str} {s : Str} {j : Nat} (e : ss.idxOf? s = some j) : ss[j]? = some s ∧ ∀ m, m < j → ss[m]? ≠ some s := by
  unfold List.idxOf? at e
  obtain ⟨h1, h2, h3⟩ := List.findIdx?_eq_some_iff_getElem.mp e
  refine ⟨by rw [List.getElem?_eq_getElem h1]; exact congrArg some (eq_of_beq h2), fun m hm he => ?_⟩
  have h4 := h3 m hm
  obtain ⟨hl, he⟩ := List.getElem?_eq_some_iff.mp he
  rw [he] at h4
  simp at h4
theorem me_indexF (hK : X.K = B.K) (m : Bool) : MeSnd X B .indexF m := by
  refine ⟨"tuple", "tuple.index", _, ⟨PySem.F.plainAttrs_tuple, PySem.F.slot_tuple_index, PySem.F.type_tuple_index, mt_tup_index⟩, fun α M H w v ok r h => isTupF_ty r h, fun α M H Qd Q w v ws vs ok r rs h q => ?_⟩
  rw [hK]
  unfold meW at h
  dsimp only at h
  obtain ⟨x, y, u, u', e, rx, ry, h⟩ := ap2_ws (ws := w :: ws) (vs := v :: vs) ok ⟨v, vs, rfl, r, rs⟩ h
  cases e
  split at h
  · rename_i xs s
    obtain ⟨a, us, o, rfl, h1, _, _, h2⟩ := rx
    obtain ⟨rfl, _⟩ := ry
    split at h
    · rename_i ss es
      obtain ⟨rfl, _⟩ := strL_rep es h2
      split at h
      · rename_i j ej
        obtain ⟨h3, h4⟩ := idxOf_str ej
        exact ⟨a, ss, s, j, rfl, rfl, .inl (.inr ⟨o, h1⟩), h3, h4, q.val ok (x := .int _) rfl h⟩
      · exact h.elim
    · exact h.elim
  · exact h.elim
theorem me_snd (hK : X.K = B.K) (f : Bm) (m : Bool) (hg : f ≠ .get) : MeSnd X B f m := by
  cases f with
  | append => exact me_append m
  | pop => exact me_pop m
  | extend => exact me_extend m
  | join => exact me_join hK m
  | split => exact me_split m
  | index => exact me_index hK m
  | indexF => exact me_indexF hK m
  | upper => exact me_upper m
  | get => exact absurd rfl hg
  | clear => exact me_clear m
  | reverse => exact me_reverse m
end
end DL

/-! DL9: calls: the objects that a callee may change, carried over and back. -/
namespace DL
open PySem PySem.Spec L2
abbrev Bs.at (B : Bs) (F : Addr → Prop) : Bs := { B with F := F }
def EOk (B : Bs) (α : List Addr) (M : MM) (H : Hp) (R : XR) (E : XK) : Prop :=
  ∀ α' M' H' cls d c fs, Step α M H α' M' H' → Ok B α' M' H' → XRep B α' M' H' cls d c fs → R c fs M' → E cls d H'
/-- what a def promises, over the layer's heap -/
def spOf (B : Bs) (sp : Spec) : Sp := fun vs H Q E => ∃ (F : Addr → Prop) (α : List Addr) (M : MM) (ws : List W) (Qd : W → MM → Prop) (R : XR),
  Ok (B.at F) α M H ∧ RepWs (B.at F) α M H ws vs ∧ sp ws M Qd R ∧ QOk (B.at F) α M H Qd Q ∧ EOk (B.at F) α M H R E
/-! lists -/
theorem putAll_len : ∀ (l : List (Nat × Option MO)) (M : MM), (putAll M l).length = M.length
  | [], _ => rfl
  | (i, mo) :: r, M => by
    show (putAll (M.set i mo) r).length = _
    rw [putAll_len r, List.length_set]
theorem putAll_out : ∀ (l : List (Nat × Option MO)) (M : MM) (i : Nat), i ∉ l.map (·.1) → (putAll M l)[i]? = M[i]?
  | [], _, _, _ => rfl
  | (j, mo) :: r, M, i, h => by
    rw [List.map_cons, List.mem_cons, not_or] at h
    show (putAll (M.set j mo) r)[i]? = _
    rw [putAll_out r _ i h.2, List.getElem?_set_ne (fun e => h.1 e.symm)]
theorem putAll_hit : ∀ (l : List (Nat × Option MO)) (M : MM) (i : Nat) (mo : Option MO), (l.map (·.1)).Nodup → (i, mo) ∈ l → i < M.length → (putAll M l)[i]? = some mo
  | (j, m) :: r, M, i, mo, nd, h, hi => by
    rw [List.map_cons, List.nodup_cons] at nd
    show (putAll (M.set j m) r)[i]? = _
    rcases List.mem_cons.mp h with e | h
    · cases e
      rw [putAll_out r _ j nd.1, List.getElem?_set_self hi]
    · exact putAll_hit r _ i mo nd.2 h (by rw [List.length_set]; exact hi)
theorem refsW_mem : ∀ {ws : List W} {i : Nat}, W.ref i ∈ ws → i ∈ refsW ws
  | .ref j :: r, i, h => by
    rcases List.mem_cons.mp h with e | h
    · cases e; exact List.mem_cons_self
    · exact List.mem_cons_of_mem _ (refsW_mem h)
  | .d x :: r, i, h => by
    rcases List.mem_cons.mp h with e | h
    · cases e
    · exact refsW_mem (ws := r) h
theorem RepKW.map {κ : Type} {B B' : Bs} {α α' : List Addr} {M M' : MM} {H : Hp} {f : W → W} : ∀ {fs : List (κ × W)} {vs : List (κ × V)}, (∀ q ∈ fs, ∀ v, RepW B α M H q.2 v → RepW B' α' M' H (f q.2) v) → RepKW B α M H fs vs → RepKW B' α' M' H (fs.map fun q => (q.1, f q.2)) vs
  | [], _, _, h => h
  | (k, x) :: r, _, g, h => by
    obtain ⟨v, s, rfl, h1, h2⟩ := h
    exact ⟨v, s, rfl, g _ List.mem_cons_self v h1, RepKW.map (fun q hq => g q (List.mem_cons_of_mem _ hq)) h2⟩
/-- an object, its numbers of objects changed -/
theorem RepO.map {B B' : Bs} {α α' : List Addr} {M M' : MM} {H : Hp} {f : W → W} {mo : MO} {o : HO} (eL : Lv B α M = Lv B' α' M') (em : B.mg = B'.mg) (eK : B.K = B'.K) (hB : ∀ L H x v, Rep B L H x v → Rep B' L H x v) (hL : ∀ L H x v, RepL B L H x v → RepL B' L H x v)
    (hKk : ∀ L H x v, RepK B L H x v → RepK B' L H x v) (hT : ∀ L H x v, RepT B L H x v → RepT B' L H x v)
    (g : ∀ w, (∀ i, w = .ref i → i ∈ refsM (some mo)) → ∀ v, RepW B α M H w v → RepW B' α' M' H (f w) v) (h : RepO B α M H mo o) : RepO B' α' M' H (mapMO f mo) o := by
  cases mo with
  | lst xs => obtain ⟨vs, rfl, h⟩ := h; exact ⟨vs, rfl, by rw [← eL]; exact hL _ _ _ _ h⟩
  | dct xs => obtain ⟨vs, rfl, h⟩ := h; exact ⟨vs, rfl, by rw [← eL]; exact hKk _ _ _ _ h⟩
  | dctT xs => obtain ⟨vs, rfl, h⟩ := h; exact ⟨vs, rfl, by rw [← eL]; exact hT _ _ _ _ h⟩
  | dcw fs =>
    obtain ⟨vs, rfl, h⟩ := h
    exact ⟨vs, rfl, RepKW.map (fun q hq v r => g q.2 (fun i e => refsW_mem (e ▸ List.mem_map.mpr ⟨q, hq, rfl⟩)) v r) h⟩
  | ins c fs =>
    obtain ⟨C, dx, vs, rfl, m, h⟩ := h
    exact ⟨C, dx, vs, rfl, em ▸ m, RepKW.map (fun q hq v r => g q.2 (fun i e => refsW_mem (e ▸ List.mem_map.mpr ⟨q, hq, rfl⟩)) v r) h⟩
section
variable {B : Bs} {F : Addr → Prop} {L : Addr → Prop} {H : Hp}
mutual
theorem Rep.at : ∀ (x : D) (v : V), Rep B L H x v ↔ Rep (B.at F) L H x v
  | .non, _ => Iff.rfl
  | .bl _, _ => Iff.rfl
  | .int _, _ => Iff.rfl
  | .str _, _ => Iff.rfl
  | .lst xs, v => by
    simp only [Rep]
    constructor <;> rintro ⟨a, vs, e, h, n, r⟩ <;> exact ⟨a, vs, e, h, n, by first | exact (RepL.at xs vs).mp r | exact (RepL.at xs vs).mpr r⟩
  | .tup xs, v => by
    simp only [Rep]
    constructor <;> rintro ⟨a, vs, e, h, n, r⟩ <;> exact ⟨a, vs, e, h, n, by first | exact (RepL.at xs vs).mp r | exact (RepL.at xs vs).mpr r⟩
  | .tupK xs, v => by
    simp only [Rep]
    constructor <;> rintro ⟨a, vs, e, h, r⟩ <;> exact ⟨a, vs, e, h, by first | exact (RepL.at xs vs).mp r | exact (RepL.at xs vs).mpr r⟩
  | .tupF xs, v => by
    simp only [Rep]
    constructor <;> rintro ⟨a, vs, o, e, h, n, n2, r⟩ <;> exact ⟨a, vs, o, e, h, n, n2, by first | exact (RepL.at xs vs).mp r | exact (RepL.at xs vs).mpr r⟩
  | .scr _, _ => Iff.rfl
  | .dct xs, v => by
    simp only [Rep]
    constructor <;> rintro ⟨a, vs, e, h, n, r⟩ <;> exact ⟨a, vs, e, h, n, by first | exact (RepK.at xs vs).mp r | exact (RepK.at xs vs).mpr r⟩
  | .dctT xs, v => by
    simp only [Rep]
    constructor <;> rintro ⟨a, vs, e, h, n, r⟩ <;> exact ⟨a, vs, e, h, n, by first | exact (RepT.at xs vs).mp r | exact (RepT.at xs vs).mpr r⟩
  | .obj c xs, v => by
    simp only [Rep]
    constructor <;> rintro ⟨a, C, dx, vs, e, h, n, m, r⟩ <;> exact ⟨a, C, dx, vs, e, h, n, m, by first | exact (RepF.at xs vs).mp r | exact (RepF.at xs vs).mpr r⟩
  | .fn _, _ => Iff.rfl
  | .exc a c none fs, _ => Iff.rfl
  | .exc a c (some dd) fs, v => by
    simp only [Rep]
    constructor <;> rintro ⟨e, vs, h, n, r⟩ <;> exact ⟨e, vs, h, n, by first | exact (RepF.at fs vs).mp r | exact (RepF.at fs vs).mpr r⟩
theorem RepL.at : ∀ (x : List D) (v : List V), RepL B L H x v ↔ RepL (B.at F) L H x v
  | [], _ => Iff.rfl
  | x :: xs, v => by
    simp only [RepL]
    constructor <;> rintro ⟨a, s, e, h, r⟩ <;> exact ⟨a, s, e, by first | exact (Rep.at x a).mp h | exact (Rep.at x a).mpr h, by first | exact (RepL.at xs s).mp r | exact (RepL.at xs s).mpr r⟩
theorem RepF.at : ∀ (x : List (Str × D)) (v : List (Str × V)), RepF B L H x v ↔ RepF (B.at F) L H x v
  | [], _ => Iff.rfl
  | (k, x) :: xs, v => by
    simp only [RepF]
    constructor <;> rintro ⟨a, s, e, h, r⟩ <;> exact ⟨a, s, e, by first | exact (Rep.at x a).mp h | exact (Rep.at x a).mpr h, by first | exact (RepF.at xs s).mp r | exact (RepF.at xs s).mpr r⟩
theorem RepK.at : ∀ (x : List (Key × D)) (v : List (Key × V)), RepK B L H x v ↔ RepK (B.at F) L H x v
  | [], _ => Iff.rfl
  | (k, x) :: xs, v => by
    simp only [RepK]
    constructor <;> rintro ⟨a, s, e, h, r⟩ <;> exact ⟨a, s, e, by first | exact (Rep.at x a).mp h | exact (Rep.at x a).mpr h, by first | exact (RepK.at xs s).mp r | exact (RepK.at xs s).mpr r⟩
theorem RepT.at : ∀ (x : List (List Key × D)) (v : List (List Key × V)), RepT B L H x v ↔ RepT (B.at F) L H x v
  | [], _ => Iff.rfl
  | (k, x) :: xs, v => by
    simp only [RepT]
    constructor <;> rintro ⟨a, s, e, h, r⟩ <;> exact ⟨a, s, e, by first | exact (Rep.at x a).mp h | exact (Rep.at x a).mpr h, by first | exact (RepT.at xs s).mp r | exact (RepT.at xs s).mpr r⟩
end
end
end DL

/-! DL10: a call over data serves a call over the heap. -/
namespace DL
open PySem PySem.Spec L2
section
variable {B : Bs} {α : List Addr} {M : MM} {H : Hp} {ix : List Nat}
/-- the objects handed over -/
structure Sub (M : MM) (ws : List W) (ix : List Nat) : Prop where
  nd : ix.Nodup
  has : ∀ i, W.ref i ∈ ws → i ∈ ix
  lt : ∀ i ∈ ix, i < M.length
  clo : ∀ i ∈ ix, ∀ j ∈ refsM (M.getD i none), j ∈ ix
theorem okIx_sub {ws : List W} (h : okIx M ws ix = true) : Sub M ws ix := by
  unfold okIx at h
  rw [Bool.and_eq_true, Bool.and_eq_true] at h
  obtain ⟨⟨h1, h2⟩, h3⟩ := h
  refine ⟨of_decide_eq_true h1, fun i hi => of_decide_eq_true (List.all_eq_true.mp h2 i (refsW_mem hi)), fun i hi => ?_, fun i hi j hj => ?_⟩
  · have := List.all_eq_true.mp h3 i hi
    rw [Bool.and_eq_true] at this
    exact of_decide_eq_true this.1
  · have := List.all_eq_true.mp h3 i hi
    rw [Bool.and_eq_true] at this
    exact of_decide_eq_true (List.all_eq_true.mp this.2 j hj)
def subA (α : List Addr) (ix : List Nat) : List Addr := ix.map fun i => α.getD i 0
def subM (M : MM) (ix : List Nat) : MM := ix.map fun i => (M.getD i none).map (mapMO (renW ix))
def subF (B : Bs) (α : List Addr) (M : MM) (ix : List Nat) : Addr → Prop := fun a => B.F a ∨ (Live α M a ∧ a ∉ subA α ix)
theorem getD_of {β : Type} {l : List β} {i : Nat} {d x : β} (h : l[i]? = some x) : l.getD i d = x := by
  rw [List.getD_eq_getElem?_getD, h]; rfl
theorem sub_at (hl : α.length = M.length) (s : ∀ i ∈ ix, i < M.length) {k i : Nat} (h : ix[k]? = some i) : (subA α ix)[k]? = α[i]? ∧ (subM M ix)[k]? = some ((M.getD i none).map (mapMO (renW ix))) := by
  have hi := s i (List.mem_of_getElem? h)
  refine ⟨?_, by unfold subM; rw [List.getElem?_map, h]; rfl⟩
  unfold subA
  rw [List.getElem?_map, h]
  show some (α.getD i 0) = _
  rw [List.getElem?_eq_getElem (by omega), getD_of (List.getElem?_eq_getElem (by omega))]
theorem sub_inv (hl : α.length = M.length) (s : ∀ i ∈ ix, i < M.length) {k : Nat} {a : Addr} (h : (subA α ix)[k]? = some a) : ∃ i, ix[k]? = some i ∧ α[i]? = some a := by
  have hk : k < ix.length := by
    have := (List.getElem?_eq_some_iff.mp h).1
    unfold subA at this
    rwa [List.length_map] at this
  refine ⟨ix[k], List.getElem?_eq_getElem hk, ?_⟩
  rw [← (sub_at hl s (List.getElem?_eq_getElem hk)).1]
  exact h
theorem mem_subA (hl : α.length = M.length) (s : ∀ i ∈ ix, i < M.length) {i : Nat} {a : Addr} (hi : i ∈ ix) (h : α[i]? = some a) : a ∈ subA α ix := by
  obtain ⟨k, hk⟩ := List.getElem?_of_mem hi
  exact List.mem_of_getElem? ((sub_at hl s hk).1.trans h)
theorem subM_live {mo : MO} (hl : α.length = M.length) (s : ∀ i ∈ ix, i < M.length) {k : Nat} (h : (subM M ix)[k]? = some (some mo)) : ∃ i mo', ix[k]? = some i ∧ M[i]? = some (some mo') ∧ mo = mapMO (renW ix) mo' := by
  have hk : k < ix.length := by
    have := (List.getElem?_eq_some_iff.mp h).1
    unfold subM at this
    rwa [List.length_map] at this
  have e := (sub_at hl s (List.getElem?_eq_getElem hk)).2
  rw [h] at e
  have hi := s _ (List.getElem_mem hk)
  cases em : M[ix[k]] with
  | none =>
    rw [getD_of (List.getElem?_eq_getElem hi), em] at e
    cases e
  | some mo' =>
    rw [getD_of (List.getElem?_eq_getElem hi), em] at e
    refine ⟨ix[k], mo', List.getElem?_eq_getElem hk, by rw [List.getElem?_eq_getElem hi, em], ?_⟩
    cases e
    rfl
theorem sub_live (ok : Ok B α M H) (s : ∀ i ∈ ix, i < M.length) {a : Addr} : Live (subA α ix) (subM M ix) a ↔ Live α M a ∧ a ∈ subA α ix := by
  constructor
  · rintro ⟨k, mo, e1, e2⟩
    obtain ⟨i, mo', h1, h2, _⟩ := subM_live ok.len s e1
    obtain ⟨i', h3, h4⟩ := sub_inv ok.len s e2
    rw [h1] at h3
    cases h3
    exact ⟨⟨i, mo', h2, h4⟩, List.mem_of_getElem? e2⟩
  · rintro ⟨⟨i, mo, e1, e2⟩, hm⟩
    obtain ⟨k, hk⟩ := List.getElem?_of_mem hm
    obtain ⟨i', h3, h4⟩ := sub_inv ok.len s hk
    have := nodup_get ok.nd e2 h4
    subst this
    refine ⟨k, mapMO (renW ix) mo, ?_, hk⟩
    rw [(sub_at ok.len s h3).2, getD_of e1]
    rfl
theorem sub_Lv (ok : Ok B α M H) (s : ∀ i ∈ ix, i < M.length) : Lv (B.at (subF B α M ix)) (subA α ix) (subM M ix) = Lv B α M := by
  funext a
  refine propext ⟨fun h => ?_, fun h => ?_⟩
  · rcases h with (h | h) | h
    · exact .inl h
    · exact .inr h.1
    · exact .inr ((sub_live ok s).mp h).1
  · rcases h with h | h
    · exact .inl (.inl h)
    · by_cases hm : a ∈ subA α ix
      · exact .inr ((sub_live ok s).mpr ⟨h, hm⟩)
      · exact .inl (.inr ⟨h, hm⟩)
theorem idxOf_at {i : Nat} (h : i ∈ ix) : ix[ix.idxOf i]? = some i := by
  rw [List.getElem?_eq_getElem (List.idxOf_lt_length_of_mem h), List.getElem_idxOf]
theorem sub_ref (ok : Ok B α M H) (s : ∀ i ∈ ix, i < M.length) {w : W} {v : V} (hw : ∀ i, w = .ref i → i ∈ ix) (r : RepW B α M H w v) : RepW (B.at (subF B α M ix)) (subA α ix) (subM M ix) H (renW ix w) v := by
  cases w with
  | d x =>
    show Rep _ (Lv _ _ _) H x v
    rw [sub_Lv ok s]
    exact (Rep.at x v).mp r
  | ref i =>
    obtain ⟨a, e, rfl⟩ := r
    exact ⟨a, (sub_at ok.len s (idxOf_at (hw i rfl))).1.trans e, rfl⟩
theorem sub_ok {ws : List W} (ok : Ok B α M H) (S : Sub M ws ix) : Ok (B.at (subF B α M ix)) (subA α ix) (subM M ix) H where
  len := by unfold subA subM; rw [List.length_map, List.length_map]
  nd := by
    refine List.pairwise_iff_getElem.mpr fun i j hi' hj hij e0 => ?_
    have hj' : j < ix.length := by unfold subA at hj; rwa [List.length_map] at hj
    have e : (subA α ix)[i]? = (subA α ix)[j]? := by rw [List.getElem?_eq_getElem hi', List.getElem?_eq_getElem hj, e0]
    have ei := (sub_at ok.len S.lt (List.getElem?_eq_getElem (show i < ix.length by omega))).1
    have ej := (sub_at ok.len S.lt (List.getElem?_eq_getElem hj')).1
    rw [ei, ej] at e
    have hx := S.lt _ (List.getElem_mem (show i < ix.length by omega))
    have hy := S.lt _ (List.getElem_mem hj')
    have hl := ok.len
    have e2 : α[ix[i]]? = some (α[ix[i]]'(by omega)) := List.getElem?_eq_getElem (by omega)
    have := nodup_get ok.nd e2 (e.symm.trans e2)
    have := (List.getElem_inj S.nd).mp this
    omega
  trk := fun a h => by
    obtain ⟨k, hk⟩ := List.getElem?_of_mem h
    obtain ⟨i, _, h4⟩ := sub_inv ok.len S.lt hk
    exact ok.trk a (List.mem_of_getElem? h4)
  frs := fun a h => by
    rcases h with h | ⟨⟨i, mo, _, e2⟩, _⟩
    · exact ok.frs a h
    · exact ok.trk a (List.mem_of_getElem? e2)
  sep := fun a h => by
    rintro (f | f)
    · obtain ⟨k, hk⟩ := List.getElem?_of_mem h
      obtain ⟨i, _, h4⟩ := sub_inv ok.len S.lt hk
      exact ok.sep a (List.mem_of_getElem? h4) f
    · exact f.2 h
  obj := fun k mo a e1 e2 => by
    obtain ⟨i, mo', h1, h2, rfl⟩ := subM_live ok.len S.lt e1
    obtain ⟨i', h3, h4⟩ := sub_inv ok.len S.lt e2
    rw [h1] at h3
    cases h3
    obtain ⟨o, ho, ro⟩ := ok.obj i mo' a h2 h4
    refine ⟨o, ho, RepO.map (sub_Lv ok S.lt).symm rfl rfl (fun L H x v => (Rep.at x v).mp) (fun L H x v => (RepL.at x v).mp) (fun L H x v => (RepK.at x v).mp) (fun L H x v => (RepT.at x v).mp) (fun w hw v r => sub_ref ok S.lt (fun j e => ?_) r) ro⟩
    refine S.clo i (List.mem_of_getElem? h1) j ?_
    rw [getD_of h2]
    exact hw j e
theorem sub_ws {ws : List W} {vs : List V} (ok : Ok B α M H) (s : ∀ i ∈ ix, i < M.length) (hw : ∀ i, W.ref i ∈ ws → i ∈ ix) (r : RepWs B α M H ws vs) : RepWs (B.at (subF B α M ix)) (subA α ix) (subM M ix) H (ws.map (renW ix)) vs := by
  induction ws generalizing vs with
  | nil => exact r
  | cons w ws ih =>
    obtain ⟨v, t, rfl, h1, h2⟩ := r
    exact ⟨v, t, rfl, sub_ref ok s (fun i e => hw i (e ▸ List.mem_cons_self)) h1, ih (fun i h => hw i (List.mem_cons_of_mem _ h)) h2⟩
end
section
variable {B : Bs} {α α1 : List Addr} {M M1 : MM} {H H1 : Hp} {ix : List Nat} {ws : List W}
/-- the numbers behind a call -/
theorem splice_back (hk : ix.length ≤ M1.length) (S : Sub M ws ix) {j : Nat} (hj : j < M1.length) :
    (splice M ix M1)[backI ix M.length j]? = (M1[j]?).map fun mo => mo.map (mapMO (backW ix M.length)) := by
  unfold splice backI
  by_cases h : j < ix.length
  · rw [if_pos h, getD_of (List.getElem?_eq_getElem h)]
    have hlt : ix[j] < M.length := S.lt _ (List.getElem_mem h)
    rw [List.getElem?_append_left (by rw [putAll_len]; exact hlt)]
    have hz : (ix.zip ((M1.take ix.length).map fun mo => mo.map (mapMO (backW ix M.length)))).map (·.1) = ix := by
      rw [List.map_fst_zip]
      rw [List.length_map, List.length_take]
      omega
    rw [putAll_hit _ M ix[j] (M1[j].map (mapMO (backW ix M.length))) (by rw [hz]; exact S.nd) ?_ hlt, List.getElem?_eq_getElem hj]
    · rfl
    · refine List.mem_iff_getElem?.mpr ⟨j, ?_⟩
      rw [List.getElem?_zip_eq_some]
      refine ⟨List.getElem?_eq_getElem h, ?_⟩
      rw [List.getElem?_map, List.getElem?_take_of_lt h, List.getElem?_eq_getElem hj]
      rfl
  · rw [if_neg h, List.getElem?_append_right (by rw [putAll_len]; omega), putAll_len, List.getElem?_map, List.getElem?_drop]
    have : ix.length + (M.length + (j - ix.length) - M.length) = j := by omega
    rw [this]
theorem splice_out (S : Sub M ws ix) {i : Nat} (hi : i < M.length) (hn : i ∉ ix) (hk : ix.length ≤ M1.length) : (splice M ix M1)[i]? = M[i]? := by
  unfold splice
  rw [List.getElem?_append_left (by rw [putAll_len]; exact hi)]
  refine putAll_out _ M i ?_
  rw [List.map_fst_zip]
  · exact hn
  · rw [List.length_map, List.length_take]
    omega
theorem splice_len (hk : ix.length ≤ M1.length) : (splice M ix M1).length = M.length + (M1.length - ix.length) := by
  unfold splice
  rw [List.length_append, putAll_len, List.length_map, List.length_drop]
def upA (α α1 : List Addr) (k : Nat) : List Addr := α ++ α1.drop k
theorem upA_back (hl : α.length = M.length) (S : Sub M ws ix) (p : subA α ix <+: α1) {j : Nat} (hj : j < α1.length) : (upA α α1 ix.length)[backI ix M.length j]? = α1[j]? := by
  unfold upA backI
  by_cases h : j < ix.length
  · rw [if_pos h, getD_of (List.getElem?_eq_getElem h)]
    have hlt : ix[j] < M.length := S.lt _ (List.getElem_mem h)
    rw [List.getElem?_append_left (by omega), ← (sub_at hl S.lt (List.getElem?_eq_getElem h)).1]
    have hs : j < (subA α ix).length := by unfold subA; rwa [List.length_map]
    rw [get_prefix p (List.getElem?_eq_getElem hs), List.getElem?_eq_getElem hs]
  · rw [if_neg h, List.getElem?_append_right (by omega), List.getElem?_drop]
    have : ix.length + (M.length + (j - ix.length) - α.length) = j := by omega
    rw [this]
/-- each number behind a call: the callee's, or the caller's that was not handed over -/
theorem back_or (S : Sub M ws ix) (hk : ix.length ≤ M1.length) {i : Nat} (hi : i < (splice M ix M1).length) : (∃ j, j < M1.length ∧ i = backI ix M.length j) ∨ (i < M.length ∧ i ∉ ix) := by
  rw [splice_len hk] at hi
  by_cases h : i < M.length
  · by_cases hm : i ∈ ix
    · refine .inl ⟨ix.idxOf i, ?_, ?_⟩
      · have := List.idxOf_lt_length_of_mem hm
        omega
      · unfold backI
        rw [if_pos (List.idxOf_lt_length_of_mem hm), getD_of (idxOf_at hm)]
    · exact .inr ⟨h, hm⟩
  · refine .inl ⟨ix.length + (i - M.length), by omega, ?_⟩
    unfold backI
    rw [if_neg (by omega)]
    omega
theorem live_back (ok : Ok B α M H) (S : Sub M ws ix) (s : Step (subA α ix) (subM M ix) H α1 M1 H1) (ok1 : Ok (B.at (subF B α M ix)) α1 M1 H1) (hk : ix.length ≤ M1.length) {a : Addr} :
    Live (upA α α1 ix.length) (splice M ix M1) a ↔ Live α1 M1 a ∨ (Live α M a ∧ a ∉ subA α ix) := by
  constructor
  · rintro ⟨i, mo, e1, e2⟩
    rcases back_or S hk (List.getElem?_eq_some_iff.mp e1).1 with ⟨j, hj, rfl⟩ | ⟨hi, hn⟩
    · rw [splice_back hk S hj] at e1
      rw [upA_back ok.len S s.pre (by rw [ok1.len]; exact hj)] at e2
      cases em : M1[j]? with
      | none => rw [em] at e1; cases e1
      | some x =>
        cases x with
        | none => rw [em] at e1; cases e1
        | some mo' => exact .inl ⟨j, mo', em, e2⟩
    · rw [splice_out S hi hn hk] at e1
      unfold upA at e2
      rw [List.getElem?_append_left (by rw [ok.len]; exact hi)] at e2
      refine .inr ⟨⟨i, mo, e1, e2⟩, fun hm => ?_⟩
      obtain ⟨k, hk'⟩ := List.getElem?_of_mem hm
      obtain ⟨i', h3, h4⟩ := sub_inv ok.len S.lt hk'
      have := nodup_get ok.nd e2 h4
      subst this
      exact hn (List.mem_of_getElem? h3)
  · rintro (⟨j, mo, e1, e2⟩ | ⟨⟨i, mo, e1, e2⟩, hn⟩)
    · have hj := (List.getElem?_eq_some_iff.mp e1).1
      refine ⟨backI ix M.length j, mapMO (backW ix M.length) mo, ?_, ?_⟩
      · rw [splice_back hk S hj, e1]; rfl
      · rw [upA_back ok.len S s.pre (by rw [ok1.len]; exact hj)]; exact e2
    · have hi := (List.getElem?_eq_some_iff.mp e1).1
      have hn' : i ∉ ix := fun hm => hn (mem_subA ok.len S.lt hm e2)
      refine ⟨i, mo, ?_, ?_⟩
      · rw [splice_out S hi hn' hk]; exact e1
      · unfold upA
        rw [List.getElem?_append_left (by rw [ok.len]; exact hi)]
        exact e2
theorem len_ge (ok : Ok B α M H) (s : Step (subA α ix) (subM M ix) H α1 M1 H1) (ok1 : Ok (B.at (subF B α M ix)) α1 M1 H1) : ix.length ≤ M1.length := by
  have := s.pre.length_le
  rw [ok1.len] at this
  unfold subA at this
  rwa [List.length_map] at this
theorem Lv_back (ok : Ok B α M H) (S : Sub M ws ix) (s : Step (subA α ix) (subM M ix) H α1 M1 H1) (ok1 : Ok (B.at (subF B α M ix)) α1 M1 H1) : Lv (B.at (subF B α M ix)) α1 M1 = Lv B (upA α α1 ix.length) (splice M ix M1) := by
  have hk := len_ge ok s ok1
  funext a
  refine propext ⟨fun h => ?_, fun h => ?_⟩
  · rcases h with (h | h) | h
    · exact .inl h
    · exact .inr ((live_back ok S s ok1 hk).mpr (.inr h))
    · exact .inr ((live_back ok S s ok1 hk).mpr (.inl h))
  · rcases h with h | h
    · exact .inl (.inl h)
    · rcases (live_back ok S s ok1 hk).mp h with h | h
      · exact .inr h
      · exact .inl (.inr h)
theorem ref_back (ok : Ok B α M H) (S : Sub M ws ix) (s : Step (subA α ix) (subM M ix) H α1 M1 H1) (ok1 : Ok (B.at (subF B α M ix)) α1 M1 H1) {w : W} {v : V} (r : RepW (B.at (subF B α M ix)) α1 M1 H1 w v) :
    RepW B (upA α α1 ix.length) (splice M ix M1) H1 (backW ix M.length w) v := by
  cases w with
  | d x =>
    show Rep B (Lv B _ _) H1 x v
    rw [← Lv_back ok S s ok1]
    exact (Rep.at x v).mpr r
  | ref j =>
    obtain ⟨a, e, rfl⟩ := r
    exact ⟨a, (upA_back ok.len S s.pre (List.getElem?_eq_some_iff.mp e).1).trans e, rfl⟩
theorem step_back (ok : Ok B α M H) (S : Sub M ws ix) (s : Step (subA α ix) (subM M ix) H α1 M1 H1) (ok1 : Ok (B.at (subF B α M ix)) α1 M1 H1) : Step α M H (upA α α1 ix.length) (splice M ix M1) H1 where
  pre := List.prefix_append _ _
  keep := fun a o e n => s.keep a o e fun l => n ((sub_live ok S.lt).mp l).1
  live := fun a l => by
    rcases (live_back ok S s ok1 (len_ge ok s ok1)).mp l with h | h
    · rcases s.live a h with h | h
      · exact .inl ((sub_live ok S.lt).mp h).1
      · exact .inr h
    · exact .inl h.1
  new := fun a h => by
    unfold upA at h
    rcases List.mem_append.mp h with h | h
    · exact .inl h
    · rcases s.new a (List.mem_of_mem_drop h) with h | h
      · obtain ⟨k, hk⟩ := List.getElem?_of_mem h
        obtain ⟨i, _, h4⟩ := sub_inv ok.len S.lt hk
        exact .inl (List.mem_of_getElem? h4)
      · exact .inr h
theorem ok_back (ok : Ok B α M H) (S : Sub M ws ix) (s : Step (subA α ix) (subM M ix) H α1 M1 H1) (ok1 : Ok (B.at (subF B α M ix)) α1 M1 H1) : Ok B (upA α α1 ix.length) (splice M ix M1) H1 := by
  have hk := len_ge ok s ok1
  have st := step_back ok S s ok1
  have keepA : ∀ a ∈ α, ∃ o, H1 a = some o := fun a h => by
    by_cases l : Live (subA α ix) (subM M ix) a
    · obtain ⟨k, mo, e1, e2⟩ := l
      exact ok1.trk a (List.mem_of_getElem? (get_prefix s.pre e2))
    · obtain ⟨o, e⟩ := ok.trk a h
      exact ⟨o, s.keep a o e l⟩
  refine ⟨?_, ?_, fun a h => ?_, fun a h => ok1.frs a (.inl h), fun a h f => ?_, fun i mo a e1 e2 => ?_⟩
  · rw [splice_len hk]
    unfold upA
    rw [List.length_append, List.length_drop, ok.len, ok1.len]
  · unfold upA
    rw [List.nodup_append]
    refine ⟨ok.nd, ok1.nd.sublist (List.drop_sublist _ _), fun a ha b hb => ?_⟩
    rintro rfl
    obtain ⟨k, hk'⟩ := List.getElem?_of_mem hb
    rw [List.getElem?_drop] at hk'
    rcases s.new a (List.mem_of_mem_drop hb) with h | h
    · obtain ⟨k2, hk2⟩ := List.getElem?_of_mem h
      have e := nodup_get ok1.nd hk' (get_prefix s.pre hk2)
      have := (List.getElem?_eq_some_iff.mp hk2).1
      unfold subA at this
      rw [List.length_map] at this
      omega
    · obtain ⟨o, e⟩ := ok.trk a ha
      rw [e] at h
      cases h
  · unfold upA at h
    rcases List.mem_append.mp h with h | h
    · exact keepA a h
    · exact ok1.trk a (List.mem_of_mem_drop h)
  · unfold upA at h
    rcases List.mem_append.mp h with h | h
    · exact ok.sep a h f
    · exact ok1.sep a (List.mem_of_mem_drop h) (.inl f)
  · rcases back_or S hk (List.getElem?_eq_some_iff.mp e1).1 with ⟨j, hj, rfl⟩ | ⟨hi, hn⟩
    · rw [splice_back hk S hj] at e1
      rw [upA_back ok.len S s.pre (by rw [ok1.len]; exact hj)] at e2
      cases em : M1[j]? with
      | none => rw [em] at e1; cases e1
      | some x =>
        cases x with
        | none => rw [em] at e1; cases e1
        | some mo' =>
          rw [em] at e1
          cases e1
          obtain ⟨o, ho, ro⟩ := ok1.obj j mo' a em e2
          exact ⟨o, ho, RepO.map (Lv_back ok S s ok1) rfl rfl (fun L H x v => (Rep.at x v).mpr) (fun L H x v => (RepL.at x v).mpr) (fun L H x v => (RepK.at x v).mpr) (fun L H x v => (RepT.at x v).mpr) (fun w _ v r => ref_back ok S s ok1 r) ro⟩
    · rw [splice_out S hi hn hk] at e1
      unfold upA at e2
      rw [List.getElem?_append_left (by rw [ok.len]; exact hi)] at e2
      obtain ⟨o, ho, ro⟩ := ok.obj i mo a e1 e2
      refine ⟨o, s.keep a o ho fun l => ?_, ro.mono st.pre st.kept⟩
      obtain ⟨k, hk'⟩ := List.getElem?_of_mem ((sub_live ok S.lt).mp l).2
      obtain ⟨i', h3, h4⟩ := sub_inv ok.len S.lt hk'
      have := nodup_get ok.nd e2 h4
      subst this
      exact hn (List.mem_of_getElem? h3)
theorem callI_snd {sp : Spec} {Qd : W → MM → Prop} {R : XR} {Q : VK} {E : XK} {vs : List V} (ok : Ok B α M H) (r : RepWs B α M H ws vs) (h : callI ix sp ws M Qd R) (q : QOk B α M H Qd Q) (x : EOk B α M H R E) : spOf B sp vs H Q E := by
  obtain ⟨h1, h2⟩ := h
  have S := okIx_sub h1
  refine ⟨subF B α M ix, subA α ix, subM M ix, ws.map (renW ix), _, _, sub_ok ok S, sub_ws ok S.lt S.has r, h2, ?_, ?_⟩
  · intro α1 M1 w v H1 s ok1 rw hq
    exact q _ _ _ v H1 (step_back ok S s ok1) (ok_back ok S s ok1) (ref_back ok S s ok1 rw) hq
  · intro α1 M1 H1 cls d c fs s ok1 rx hq
    refine x _ _ H1 cls d c fs (step_back ok S s ok1) (ok_back ok S s ok1) ?_ hq
    obtain ⟨C, e1, e2, e3⟩ := rx
    refine ⟨C, e1, e2, ?_⟩
    cases d with
    | none => exact e3
    | some a =>
      obtain ⟨vs, h1, h2, h3⟩ := e3
      rw [Lv_back ok S s ok1] at h2 h3
      exact ⟨vs, h1, h2, (RepF.at fs vs).mpr h3⟩
end
end DL

/-! DL11: objects that change no more; what is cut off behind a loop's turn. -/
namespace DL
open PySem PySem.Spec L2
section
variable {B : Bs} {α : List Addr} {M : MM} {H : Hp}
def RepG {κ : Type} (B : Bs) (L : Addr → Prop) (H : Hp) : List (κ × D) → List (κ × V) → Prop
  | [], vs => vs = []
  | (k, d) :: ds, vs => ∃ v r, vs = (k, v) :: r ∧ Rep B L H d v ∧ RepG B L H ds r
theorem repK_G {L : Addr → Prop} : ∀ (ds : List (Key × D)) (vs : List (Key × V)), RepG B L H ds vs → RepK B L H ds vs
  | [], _, h => h
  | (k, d) :: ds, _, h => by
    obtain ⟨v, r, e, h1, h2⟩ := h
    exact ⟨v, r, e, h1, repK_G ds r h2⟩
theorem repF_G {L : Addr → Prop} : ∀ (ds : List (Str × D)) (vs : List (Str × V)), RepG B L H ds vs → RepF B L H ds vs
  | [], _, h => h
  | (k, d) :: ds, _, h => by
    obtain ⟨v, r, e, h1, h2⟩ := h
    exact ⟨v, r, e, h1, repF_G ds r h2⟩
def FrzOk (B : Bs) (α : List Addr) (H : Hp) (f : MM → W → Option (D × MM)) : Prop :=
  ∀ M w x M' v, Ok B α M H → RepW B α M H w v → f M w = some (x, M') → Step α M H α M' H ∧ Ok B α M' H ∧ Rep B (Lv B α M') H x v
theorem frzK_snd {κ : Type} {f : MM → W → Option (D × MM)} (hf : FrzOk B α H f) : ∀ {kvs : List (κ × W)} {M : MM} {ks : List (κ × D)} {M' : MM} {vs : List (κ × V)}, Ok B α M H → RepKW B α M H kvs vs → frzK f M kvs = some (ks, M') →
    Step α M H α M' H ∧ Ok B α M' H ∧ RepG B (Lv B α M') H ks vs
  | [], M, _, _, _, ok, r, e => by
    cases e
    exact ⟨Step.refl _ _ _, ok, r⟩
  | (k, w) :: kvs, M, _, _, _, ok, r, e => by
    obtain ⟨v, s, rfl, h1, h2⟩ := r
    simp only [frzK] at e
    split at e
    · rename_i x M1 e1
      obtain ⟨s1, ok1, r1⟩ := hf _ _ _ _ _ ok h1 e1
      split at e
      · rename_i xs M2 e2
        cases e
        obtain ⟨s2, ok2, r2⟩ := frzK_snd hf ok1 (RepKW.mono s1.pre s1.kept h2) e2
        exact ⟨s1.trans s2, ok2, v, s, rfl, Rep.mono s2.kept _ _ r1, r2⟩
      · cases e
    · cases e
theorem frz_dead (ok : Ok B α M H) {i : Nat} {a : Addr} {o : HO} (ha : α[i]? = some a) (ho : H a = some o) {M' : MM} (s : Step α (M.set i none) H α M' H) : ¬ Lv B α M' a := fun l => by
  rcases l with l | l
  · exact ok.sep a (List.mem_of_getElem? ha) l
  · rcases s.live a l with l | l
    · exact dead_kill ok.nd ha l
    · rw [ho] at l; cases l
theorem frzW_snd : ∀ n : Nat, FrzOk B α H (frzW n)
  | _, M, .d x, y, M', v, ok, r, e => by
    have e' : some (x, M) = some (y, M') := by cases ‹Nat› <;> exact e
    cases e'
    exact ⟨Step.refl _ _ _, ok, r⟩
  | 0, M, .ref i, y, M', v, ok, r, e => by cases e
  | n + 1, M, .ref i, y, M', v, ok, r, e => by
    obtain ⟨a, ha, rfl⟩ := r
    have s1 := step_kill (α := α) (M := M) (H := H) i
    have ok1 := ok.kill i
    simp only [frzW] at e
    split at e
    · rename_i xs em
      cases e
      obtain ⟨o, ho, vs, rfl, hr⟩ := ok.obj i _ a em ha
      exact ⟨s1, ok1, a, vs, rfl, ho, frz_dead ok ha ho (Step.refl _ _ _), RepL.mono s1.kept _ _ hr⟩
    · rename_i xs em
      cases e
      obtain ⟨o, ho, vs, rfl, hr⟩ := ok.obj i _ a em ha
      exact ⟨s1, ok1, a, vs, rfl, .inl ho, frz_dead ok ha ho (Step.refl _ _ _), RepK.mono s1.kept _ _ hr⟩
    · rename_i xs em
      cases e
      obtain ⟨o, ho, vs, rfl, hr⟩ := ok.obj i _ a em ha
      exact ⟨s1, ok1, a, vs, rfl, .inl ho, frz_dead ok ha ho (Step.refl _ _ _), RepT.mono s1.kept _ _ hr⟩
    · rename_i kvs em
      obtain ⟨o, ho, vs, rfl, hr⟩ := ok.obj i _ a em ha
      split at e
      · rename_i ks M2 e2
        cases e
        obtain ⟨s2, ok2, r2⟩ := frzK_snd (frzW_snd n) ok1 (RepKW.mono s1.pre s1.kept hr) e2
        exact ⟨s1.trans s2, ok2, a, vs, rfl, .inl ho, frz_dead ok ha ho s2, repK_G _ _ r2⟩
      · cases e
    · rename_i c fs em
      obtain ⟨o, ho, C, dx, vs, rfl, hm, hr⟩ := ok.obj i _ a em ha
      split at e
      · rename_i ks M2 e2
        cases e
        obtain ⟨s2, ok2, r2⟩ := frzK_snd (frzW_snd n) ok1 (RepKW.mono s1.pre s1.kept hr) e2
        exact ⟨s1.trans s2, ok2, a, C, dx, vs, rfl, ho, frz_dead ok ha ho s2, hm, repF_G _ _ r2⟩
      · cases e
    · cases e
/-! ### behind a turn: the objects that the turn has made are let go -/
theorem clip_live {n : Nat} {a : Addr} (h : Live (α.take n) ((M.take n).map (clipM n)) a) : Live α M a := by
  obtain ⟨i, mo, e1, e2⟩ := h
  rw [List.getElem?_map] at e1
  cases em : (M.take n)[i]? with
  | none => rw [em] at e1; cases e1
  | some x =>
    rw [em] at e1
    have hi : i < n := by
      have := (List.getElem?_eq_some_iff.mp em).1
      rw [List.length_take] at this
      omega
    rw [List.getElem?_take_of_lt hi] at em e2
    cases x with
    | none => cases e1
    | some mo' => exact ⟨i, mo', em, e2⟩
theorem clip_ref {n : Nat} {w : W} {v : V} (c : clipW n w = true) (k : Kept (Lv B α M) H (Lv B (α.take n) ((M.take n).map (clipM n))) H) (r : RepW B α M H w v) : RepW B (α.take n) ((M.take n).map (clipM n)) H w v := by
  cases w with
  | d x => exact Rep.mono k x v r
  | ref i =>
    obtain ⟨a, e, rfl⟩ := r
    have hi : i < n := of_decide_eq_true c
    exact ⟨a, by rw [List.getElem?_take_of_lt hi]; exact e, rfl⟩
theorem clip_kept (n : Nat) : Kept (Lv B α M) H (Lv B (α.take n) ((M.take n).map (clipM n))) H := fun a o e h => ⟨e, fun l => by
  rcases l with l | l
  · exact h (.inl l)
  · exact h (.inr (clip_live l))⟩
theorem clip_kw {κ : Type} {n : Nat} (k : Kept (Lv B α M) H (Lv B (α.take n) ((M.take n).map (clipM n))) H) : ∀ {fs : List (κ × W)} {vs : List (κ × V)}, (fs.all fun q => clipW n q.2) = true → RepKW B α M H fs vs → RepKW B (α.take n) ((M.take n).map (clipM n)) H fs vs
  | [], _, _, h => h
  | (c, w) :: fs, _, a, h => by
    obtain ⟨v, s, rfl, h1, h2⟩ := h
    rw [List.all_cons, Bool.and_eq_true] at a
    exact ⟨v, s, rfl, clip_ref a.1 k h1, clip_kw k a.2 h2⟩
theorem clip_ok (ok : Ok B α M H) (n : Nat) : Ok B (α.take n) ((M.take n).map (clipM n)) H where
  len := by rw [List.length_take, List.length_map, List.length_take, ok.len]
  nd := ok.nd.sublist (List.take_sublist _ _)
  trk := fun a h => ok.trk a (List.mem_of_mem_take h)
  frs := ok.frs
  sep := fun a h => ok.sep a (List.mem_of_mem_take h)
  obj := fun i mo a e1 e2 => by
    have k := clip_kept (B := B) (α := α) (M := M) (H := H) n
    rw [List.getElem?_map] at e1
    cases em : (M.take n)[i]? with
    | none => rw [em] at e1; cases e1
    | some x =>
      rw [em] at e1
      have hi : i < n := by
        have := (List.getElem?_eq_some_iff.mp em).1
        rw [List.length_take] at this
        omega
      rw [List.getElem?_take_of_lt hi] at em e2
      cases x with
      | none => cases e1
      | some mo' =>
        obtain ⟨o, ho, ro⟩ := ok.obj i mo' a em e2
        cases mo' with
        | lst xs => cases e1; obtain ⟨vs, rfl, h⟩ := ro; exact ⟨_, ho, vs, rfl, RepL.mono k _ _ h⟩
        | dct xs => cases e1; obtain ⟨vs, rfl, h⟩ := ro; exact ⟨_, ho, vs, rfl, RepK.mono k _ _ h⟩
        | dctT xs => cases e1; obtain ⟨vs, rfl, h⟩ := ro; exact ⟨_, ho, vs, rfl, RepT.mono k _ _ h⟩
        | dcw xs =>
          have e1' : clipM n (some (.dcw xs)) = some mo := Option.some.inj e1
          simp only [clipM] at e1'
          split at e1'
          · rename_i c
            cases e1'
            obtain ⟨vs, rfl, h⟩ := ro
            exact ⟨_, ho, vs, rfl, clip_kw k c h⟩
          · cases e1'
        | ins c xs =>
          have e1' : clipM n (some (.ins c xs)) = some mo := Option.some.inj e1
          simp only [clipM] at e1'
          split at e1'
          · rename_i cc
            cases e1'
            obtain ⟨C, dx, vs, rfl, m, h⟩ := ro
            exact ⟨_, ho, C, dx, vs, rfl, m, clip_kw k cc h⟩
          · cases e1'
theorem clip_vars {Γ : GG} {σ : L2.St} (n : Nat) (v : Vars B α M H Γ σ) : Vars B (α.take n) ((M.take n).map (clipM n)) H (clipG n Γ) σ := by
  refine ⟨by unfold clipG; rw [List.length_map]; exact v.1, fun i w e => ?_⟩
  unfold clipG at e
  rw [List.getElem?_map] at e
  cases eg : Γ[i]? with
  | none => rw [eg] at e; cases e
  | some x =>
    rw [eg] at e
    cases x with
    | none => cases e
    | some w' =>
      have e' : (if clipW n w' = true then some w' else none) = some w := Option.some.inj e
      split at e'
      · rename_i c
        cases e'
        obtain ⟨u, h1, h2⟩ := v.2 i w eg
        exact ⟨u, h1, clip_ref c (clip_kept n) h2⟩
      · cases e'
/-- the state behind a turn, as far as it was there ahead of it -/
theorem trunc_ok (ok : Ok B α M H) (n : Nat) : Ok B (α.take n) (trunc n M) H := by
  unfold trunc
  split
  · rename_i e
    have : α.take n = α := List.take_of_length_le (by rw [ok.len]; omega)
    rw [this]; exact ok
  · exact clip_ok ok n
theorem trunc_live {n : Nat} {a : Addr} (ok : Ok B α M H) (h : Live (α.take n) (trunc n M) a) : Live α M a := by
  unfold trunc at h
  split at h
  · rename_i e
    have : α.take n = α := List.take_of_length_le (by rw [ok.len]; omega)
    rw [this] at h; exact h
  · exact clip_live h
theorem trunc_vars {Γ : GG} {σ : L2.St} (ok : Ok B α M H) (n : Nat) (v : Vars B α M H Γ σ) : Vars B (α.take n) (trunc n M) H (clipG n Γ) σ := by
  unfold trunc
  split
  · rename_i e
    have e2 : α.take n = α := List.take_of_length_le (by rw [ok.len]; omega)
    rw [e2]
    refine ⟨by unfold clipG; rw [List.length_map]; exact v.1, fun i w h => ?_⟩
    unfold clipG at h
    rw [List.getElem?_map] at h
    cases eg : Γ[i]? with
    | none => rw [eg] at h; cases h
    | some x =>
      rw [eg] at h
      cases x with
      | none => cases h
      | some w' =>
        have h' : (if clipW n w' = true then some w' else none) = some w := Option.some.inj h
        split at h'
        · cases h'
          exact v.2 i w eg
        · cases h'
  · exact clip_vars n v
theorem trunc_len (n : Nat) (h : n ≤ M.length) : (trunc n M).length = n := by
  unfold trunc
  split
  · assumption
  · rw [List.length_map, List.length_take]; omega
/-- a whole turn: from the state ahead of it to the cut one behind it -/
theorem turn_step {α1 : List Addr} {M1 : MM} {H1 : Hp} (ok : Ok B α M H) (s : Step α M H α1 M1 H1) (ok1 : Ok B α1 M1 H1) : α1.take M.length = α ∧ Step α M H α (trunc M.length M1) H1 ∧ Ok B α (trunc M.length M1) H1 := by
  have e : α1.take M.length = α := by
    obtain ⟨t, rfl⟩ := s.pre
    rw [← ok.len, List.take_left']
    rfl
  refine ⟨e, ⟨List.prefix_refl _, s.keep, fun a l => ?_, fun a h => .inl h⟩, e ▸ trunc_ok ok1 M.length⟩
  rw [← e] at l
  exact s.live a (trunc_live ok1 l)
end
end DL

/-! DL12: the look that a term of the text is a term of the small syntax; where one stands; what the defs promise. -/
namespace DL
open PySem PySem.Spec L2 PyProof.Rows
def visB (sc : Scope) (x : Str) : Bool := match sc.names.lookup x with
  | some .local => true
  | some .cell => true
  | some .free => true
  | _ => false
def asgB (sc : Scope) (x : Str) : Bool := match sc.names.lookup x with
  | some .local => true
  | some .cell => true
  | _ => false
def gloB (sc : Scope) (x : Str) : Bool := match sc.names.lookup x with
  | some .globalImplicit => true
  | _ => false
def nmB (x : Str) : Bool := (!(x == ("__debug__" : Str))) && !(x == ("__classdict__" : Str)) && !(x == ("__name__" : Str))
def plainX (e : Expr) : Bool := match e with
  | .Slice _ _ _ _ => false
  | .Starred _ _ => false
  | .Set _ _ _ => false
  | _ => true
def notSuper (e : Expr) : Bool := match e with
  | .Call (.Name _ _) [] [] _ => false
  | _ => true
def keyE (e : Option Expr) : Option Key := match e with
  | some (.Constant (.str s) _ _) => some (.inr s)
  | some (.Constant (.int i) _ _) => some (.inl i)
  | _ => none
def isiTs : List String := ["int", "str", "list", "tuple", "dict", "bool"]
def dec (sc : Scope) (p : Pr) (e : Expr) : Option (List Expr) := match p with
  | .bin op _ => (match e with
    | .BinOp a op' b _ => if op' = op then some [a, b] else none
    | _ => none)
  | .neg => (match e with
    | .UnaryOp .USub a _ => some [a]
    | _ => none)
  | .cmp op => (match e with
    | .Compare a [op'] [b] _ => if op' = op then some [a, b] else none
    | _ => none)
  | .idx => (match e with
    | .Subscript a b _ => some [a, b]
    | _ => none)
  | .slc lo hi _ => (match e with
    | .Subscript a (.Slice l h none _) _ => (match lo, hi, l, h with
      | false, false, none, none => some [a]
      | true, false, some i, none => some [a, i]
      | false, true, none, some j => some [a, j]
      | _, _, _, _ => none)
    | _ => none)
  | .rev _ => (match e with
    | .Subscript a (.Slice none none (some (.UnaryOp .USub (.Constant (.int 1) _ _) _)) _) _ => some [a]
    | _ => none)
  | .tup _ => (match e with
    | .Tuple es _ _ => if es.length ≤ 1000 then some es else none
    | _ => none)
  | .lst _ => (match e with
    | .List es _ => if es.length ≤ 1000 then some es else none
    | _ => none)
  | .dnT _ => (match e with
    | .Dict [] [] _ => some []
    | _ => none)
  | .fld f => (match e with
    | .Attribute a f' _ => if f' = f ∧ notSuper a = true then some [a] else none
    | _ => none)
  | .bi f _ => (match e with
    | .Call (.Name x _) (a :: es) [] _ => if x = biN f ∧ gloB sc x = true then some (a :: es) else none
    | _ => none)
  | .isi T => (match e with
    | .Call (.Name x _) [a, .Name y _] [] _ => if x = "isinstance" ∧ gloB sc x = true ∧ y = Str.ofString T ∧ gloB sc y = true ∧ T ∈ isiTs then some [a] else none
    | _ => none)
  | .call f _ => (match e with
    | .Call (.Name x _) es [] _ => if x = f ∧ gloB sc x = true ∧ nmB x = true then some es else none
    | _ => none)
  | .new f _ => (match e with
    | .Call (.Name x _) es [] _ => if x = f ∧ gloB sc x = true ∧ nmB x = true then some es else none
    | _ => none)
  | .exi _ => none
  | .exf _ => none
def clsNm (sc : Scope) (e : Expr) (T : Str) : Bool := match e with
  | .Name y _ => decide (y = T) && gloB sc y && nmB y
  | _ => false
def clsNms (sc : Scope) : List Expr → List Str → Bool
  | [], [] => true
  | e :: es, T :: Ts => clsNm sc e T && clsNms sc es Ts
  | _, _ => false
def decIt (sc : Scope) (k : It) (e : Expr) : Option (List Expr) := match k with
  | .seq => some [e]
  | .rng => (match e with
    | .Call (.Name x _) [a] [] _ => if x = "range" ∧ gloB sc x = true then some [a] else none
    | .Call (.Name x _) [a, b] [] _ => if x = "range" ∧ gloB sc x = true then some [a, b] else none
    | _ => none)
def okNm (N : List Str) (sc : Scope) (i : Nat) (e : Expr) : Bool := match e with
  | .Name x _ => decide (N[i]? = some x) && asgB sc x
  | _ => false
def okNms (N : List Str) (sc : Scope) : List Nat → List Expr → Bool
  | [], [] => true
  | i :: is, e :: es => okNm N sc i e && okNms N sc is es
  | _, _ => false
def okTg (N : List Str) (sc : Scope) (tg : Tg) (e : Expr) : Bool := match tg with
  | .n i => okNm N sc i e
  | .t is => (match e with
    | .Tuple ts _ _ => okNms N sc is ts
    | _ => false)
def ownOf (N : List Str) (own : List Nat) : List (Str × Nat) := own.map fun i => (N.getD i Str.empty, i)
mutual
def okE (N : List Str) (sc : Scope) : Ex → Expr → Bool
  | .v i, e => (match e with
    | .Name x _ => decide (N[i]? = some x) && visB sc x && nmB x
    | _ => false)
  | .non, e => (match e with
    | .Constant .none _ _ => true
    | _ => false)
  | .bl b, e => (match e with
    | .Constant (.bool c) _ _ => c == b
    | _ => false)
  | .int i, e => (match e with
    | .Constant (.int j) _ _ => decide (j = i)
    | _ => false)
  | .str s, e => (match e with
    | .Constant (.str t) _ _ => decide (t = s) && strOK s
    | _ => false)
  | .gl x, e => (match e with
    | .Name y _ => decide (y = x) && gloB sc y && nmB y
    | _ => false)
  | .pr p es, e => (match dec sc p e with
    | some es' => es'.all plainX && okEs N sc es es'
    | none => false)
  | .me f m o es, e => (match e with
    | .Call (.Attribute o' name apos) es' [] cpos => decide (f ≠ .get) && decide (name = meN f) && notSuper o' && (apos.endLine == cpos.line) && es'.all plainX && decide (es'.length < 28) && okE N sc o o' && okEs N sc es es'
    | _ => false)
  | .mt m bs o es, e => (match e with
    | .Call (.Attribute o' name apos) es' [] cpos => decide (name = m) && notSuper o' && (apos.endLine == cpos.line) && es'.all plainX && decide (es'.length < 28) && okE N sc o o' && okEs N sc es es'
    | _ => false)
  | .and a b, e => (match e with
    | .BoolOp .And (x :: y :: rest) pos => okE N sc a x && (match rest with
      | [] => okE N sc b y
      | z :: r => okE N sc b (.BoolOp .And (y :: z :: r) pos))
    | _ => false)
  | .or a b, e => (match e with
    | .BoolOp .Or (x :: y :: rest) pos => okE N sc a x && (match rest with
      | [] => okE N sc b y
      | z :: r => okE N sc b (.BoolOp .Or (y :: z :: r) pos))
    | _ => false)
  | .not a, e => (match e with
    | .UnaryOp .Not x _ => okE N sc a x
    | _ => false)
  | .ife c a b, e => (match e with
    | .IfExp x y z _ => okE N sc c x && okE N sc a y && okE N sc b z
    | _ => false)
  | .chn o1 o2 a b c, e => (match e with
    | .Compare x [p, q] [y, z] _ => decide (p = o1) && decide (q = o2) && plainX z && okE N sc a x && okE N sc b y && okE N sc c z
    | _ => false)
  | .dk1 _ a b, e => (match e with
    | .Dict [some k] [v] _ => okE N sc a k && okE N sc b v
    | _ => false)
  | .dsp ks m es, e => (match e with
    | .Dict keys vals _ => decide (keys.map keyE = ks.map some ∧ keys.length = vals.length) && okEs N sc es vals
    | _ => false)
  | .sl2 _ a b c, e => (match e with
    | .Subscript x (.Slice (some y) (some z) none _) _ => okE N sc a x && okE N sc b y && okE N sc c z
    | _ => false)
  | .lc tg own k its cs e1 m, e => (match e with
    | .ListComp elt [⟨tgt, iter, ifs, 0⟩] scope _ => okTg N scope tg tgt && plainX iter && blkC N sc scope (ownOf N own) && (match tg with
        | .n i => decide (i ∈ own)
        | .t is => is.all fun i => decide (i ∈ own)) && (match decIt sc k iter with
      | some is => is.all plainX && okEs N sc its is
      | none => false) && decide (ifs.length ≤ 1) && okEs N scope cs ifs && okE N scope e1 elt
    | _ => false)
def okEs (N : List Str) (sc : Scope) : List Ex → List Expr → Bool
  | [], es => es.isEmpty
  | x :: xs, es => (match es with
    | e :: r => okE N sc x e && okEs N sc xs r
    | [] => false)
end

/-! ### what is known of the defs -/
def bu : List Str := ["len", "abs", "max", "min", "list", "tuple", "sorted", "int", "sum", "all", "any", "repr", "isinstance", "range", "str", "dict", "bool", "enumerate", "zip", "set", "type"]
structure FnD (B : Bs) (lv : Nat) (sp : Spec) (x : Str) : Prop where
  ex : ∃ (f : Addr) (fd : FuncData) (ps : List Str) (k : Nat) (dvs : List V) (ds : List Value) (dws : List W) (sp0 : Spec), B.mg x = some (.ref f) ∧ FnG B.P B.w B.K B.mg B.base (L2.CX B.P B.w) k f fd ps (spOf B sp0) ∧ k ≤ lv ∧
    PySem.W.keepIn B.K (.ref f) = true ∧ Binds B.K fd ps ds ∧ Vals dvs ds ∧ (∀ F α M H, RepWs (B.at F) α M H dws dvs) ∧ ∀ ws M Q R, sp ws M Q R → sp0 (ws ++ dws) M Q R
structure MeD (B : Bs) (lv : Nat) (sp : Spec) (c m : Str) : Prop where
  ex : ∃ (C f : Addr) (fd : FuncData) (ps : List Str) (k : Nat) (dvs : List V) (ds : List Value) (dws : List W) (sp0 : Spec), B.mg c = some (.ref C) ∧ Cls B.K C ∧ Meth B.K C m f ∧ FnG B.P B.w B.K B.mg B.base (L2.CX B.P B.w) k f fd ps (spOf B sp0) ∧ k ≤ lv ∧
    Binds B.K fd ps ds ∧ Vals dvs ds ∧ (∀ F α M H, RepWs (B.at F) α M H dws dvs) ∧ ∀ ws M Q R, sp ws M Q R → sp0 (ws ++ dws) M Q R
structure NwD (B : Bs) (lv : Nat) (sp : Spec) (c : Str) : Prop where
  ex : ∃ (C f : Addr) (fd : FuncData) (ps : List Str) (k : Nat) (dvs : List V) (ds : List Value) (dws : List W) (sp0 : Spec) (fr : Bool), B.mg c = some (.ref C) ∧ Mk B.K C f ∧ FnG B.P B.w B.K B.mg B.base (L2.CX B.P B.w) k f fd ps (spOf B sp0) ∧ k + 1 ≤ lv ∧
    Binds B.K fd ps ds ∧ Vals dvs ds ∧ (∀ F α M H, RepWs (B.at F) α M H dws dvs) ∧ ∀ ws M Q R, sp ws M Q R → newSpec fr c sp0 (ws ++ dws) M Q R
/-- a def's __init__ of an error class with such fields -/
def spInit (K : PySem.W.Frag) (fs : List Str) : Sp := fun vs H Q _ => ∃ (a C : Addr) (ys : List V), vs = .ref a :: ys ∧ ys.length = fs.length ∧ OexC K C ∧ H a = some (exo a C none) ∧ (∀ f ∈ fs, PySem.W.findIn K (.ref C) f = some none) ∧
  (fs = [] → Q .non H) ∧ (fs ≠ [] → ∀ dx H', H dx = none → dx ≠ a → H' a = some (exo a C (some dx)) → H' dx = some (exd dx (fs.zip ys).reverse) → (∀ b, b ≠ a → b ≠ dx → H' b = H b) → Q .non H')
structure XcD (B : Bs) (lv : Nat) (c : Str) (fs : List Str) : Prop where
  ex : ∃ (C fI : Addr) (fd : FuncData) (ps : List Str) (k : Nat), B.mg c = some (.ref C) ∧ OexC B.K C ∧ ExcQ B.K C ∧ PySem.W.findIn B.K (.ref C) "__init__" = some (some (.ref fI)) ∧ PySem.W.typeIn B.K (.ref fI) = some (.type "function") ∧
    FnOk B.P B.w B.K B.mg B.base (L2.CX B.P B.w) k fI fd ps (spInit B.K fs) ∧ k + 1 ≤ lv ∧ Binds B.K fd ps [] ∧ (∀ f ∈ fs, PySem.W.findIn B.K (.ref C) f = some none)
/-- the class that a name names -/
def ClsN (B : Bs) (T : Str) (cv : Value) : Prop := (∃ C, cv = .ref C ∧ B.mg T = some (.ref C)) ∨ (B.mg T = none ∧ ∃ n, cv = .type n ∧ bootBuiltins T = some cv)
structure SubD (B : Bs) (c T : Str) (b : Bool) : Prop where
  ex : ∃ (C : Addr) (cv : Value), B.mg c = some (.ref C) ∧ ExcQ B.K C ∧ ClsN B T cv ∧ PySem.W.exmOne B.K (.ref C) cv = some b ∧ PySem.W.kitOne B.K (.ref C) cv = some b
structure FnEnv (B : Bs) (sg : Sg) (lv : Nat) : Prop where
  fn : ∀ x n sp, sg.fn x n = some sp → FnD B lv sp x
  me : ∀ c m n sp, sg.me c m n = some sp → MeD B lv sp c m
  nw : ∀ c n sp, sg.nw c n = some sp → NwD B lv sp c
  gl : ∀ x d, sg.gl x = some d → ∃ u v, B.mg x = some u ∧ RelV v u ∧ ∀ F α M H, Rep (B.at F) (Lv (B.at F) α M) H d v
  fa : ∀ c f, sg.fa c f = true → ∀ C, B.mg c = some (.ref C) → Cls B.K C ∧ NoAttr B.K C f
  bu : ∀ x ∈ DL.bu, B.mg x = none
  xc : ∀ c fs, sg.xc c = some fs → XcD B lv c fs
  sub : ∀ c T b, sg.sub c T = some b → SubD B c T b
/-- where one stands -/
structure Gw (B : Bs) (sg : Sg) (lv : Nat) (N : List Str) (sc : Scope) (X : Cx) : Prop where
  eP : X.prog = B.P
  ew : X.w = B.w
  eK : X.K = B.K
  emg : X.mg = B.mg
  eb : X.base = B.base
  eN : X.N = N
  nd : X.N.Nodup
  vis : ∀ x, visB sc x = true → Vis X.env.scope x
  asg : ∀ x, asgB sc x = true → Loc X.env.scope x ∧ (X.fn x = true ∨ X.env.scope.names.lookup x = some .local)
  glo : ∀ x, gloB sc x = true → Gl X x
  free : ∀ x, (sc.names.lookup x = some .cell ∨ sc.names.lookup x = some .free) → X.env.scope.names.lookup x = some .cell ∨ X.env.scope.names.lookup x = some .free
  un : X.A.units + 80 < cLine
  gds : X.A.guards = some []
  env : FnEnv B sg lv
structure Gd (B : Bs) (sg : Sg) (lv : Nat) (N : List Str) (sc : Scope) (Wx : WX) (X : Cx) : Prop extends Gw B sg lv N sc X where
  calm : X.calm = true
  room : RoomG lv X.A
  px : ∀ σ, PassesAt (L2.CX X.prog X.w) X σ (fun cls d H => Wx cls d σ H)
section
variable {B : Bs} {sg : Sg} {lv : Nat} {N : List Str} {sc : Scope} {Wx : WX} {X : Cx}
theorem FnEnv.at (e : FnEnv B sg lv) (F : Addr → Prop) : FnEnv (B.at F) sg lv where
  fn := fun x n sp h => ⟨(e.fn x n sp h).ex⟩
  me := fun c m n sp h => ⟨(e.me c m n sp h).ex⟩
  nw := fun c n sp h => ⟨(e.nw c n sp h).ex⟩
  gl := e.gl
  fa := e.fa
  bu := e.bu
  xc := fun c fs h => ⟨(e.xc c fs h).ex⟩
  sub := fun c T b h => ⟨(e.sub c T b h).ex⟩
theorem Gd.at (g : Gd B sg lv N sc Wx X) (F : Addr → Prop) : Gd (B.at F) sg lv N sc Wx X :=
  ⟨⟨g.eP, g.ew, g.eK, g.emg, g.eb, g.eN, g.nd, g.vis, g.asg, g.glo, g.free, g.un, g.gds, g.env.at F⟩, g.calm, g.room, g.px⟩
theorem Gw.u (g : Gw B sg lv N sc X) : X.A.units + 80 < cLine := g.un
theorem Gw.not (g : Gw B sg lv N sc X) {x : Str} (h : x ∈ DL.bu) : X.mg x = none := by rw [g.emg]; exact g.env.bu x h
end
theorem attrBase {o : Expr} {f : Str} {env : Env} {whole : Sem Value} (h : notSuper o = true) : attributeBase o f env whole = whole := by
  unfold attributeBase
  split
  · cases h
  · rfl
theorem plainIx_of {b : Expr} (h : plainX b = true) : PlainIx b := fun o i => by
  cases b <;> first | rfl | cases h
theorem folded_of {e : Expr} {env : Env} (h : plainX e = true) (x : Value) : foldedSetIterable e env x = pure x := by
  cases e <;> first | rfl | cases h
theorem behind_of {e : Expr} {op : CmpOp} (h : plainX e = true) : behindInMarks op e = false := by
  cases e <;> first | rfl | cases h
theorem star_of {env : Env} : ∀ {es : List Expr}, es.all plainX = true → starEach es env = es.map fun e => (false, eval e env)
  | [], _ => by unfold starEach; rfl
  | e :: es, h => by
    rw [List.all_cons, Bool.and_eq_true] at h
    have ih := star_of (env := env) h.2
    cases e <;> first | (unfold starEach; rw [ih]; rfl) | (cases h.1)
theorem star_cons {env : Env} {e : Expr} {es : List Expr} (h : (e :: es).all plainX = true) : starEach (e :: es) env = (false, eval e env) :: starEach es env := by
  have h2 := h
  rw [List.all_cons, Bool.and_eq_true] at h2
  rw [star_of h, star_of h2.2]
  rfl
theorem star_any {env : Env} {es : List Expr} {pos : Pos} (h : es.all plainX = true) : (backTo pos (starEach es env)).any (·.1) = false := by
  rw [star_of h]
  unfold backTo
  rw [List.map_map, List.any_map]
  exact List.any_eq_false.mpr fun _ _ => by simp
end DL

/-! DL13: terms one by one. -/
namespace DL
open PySem PySem.Spec L2
abbrev WI := GG → MM → (List D → MM → Prop) → XR → Prop
def PEL (X : Cx) (B : Bs) (Wx : WX) : List Expr → List WE → Prop
  | [], [] => True
  | e :: es, w :: ws => PE X e (lE B Wx w) ∧ PEL X B Wx es ws
  | _, _ => False
def wAs : List WE → WA
  | [], _, M, Q, _ => Q [] M
  | w :: ws, Γ, M, Q, R => w Γ M (fun x M1 => wAs ws Γ M1 (fun xs M2 => Q (x :: xs) M2) R) R
theorem wEs_eq (sg : Sg) : ∀ es : List Ex, wEs sg es = wAs (es.map (wE sg))
  | [] => by funext Γ M Q R; simp only [wEs, List.map_nil, wAs]
  | e :: es => by funext Γ M Q R; simp only [wEs, List.map_cons, wAs, wEs_eq sg es]
theorem eqDD_mono {x y : D} {k k' : Bool → Prop} (h : eqDD x y k) (f : ∀ b, k b → k' b) : eqDD x y k' := by
  unfold eqDD at h ⊢
  revert h
  split
  · exact fun h => f _ h
  · exact fun h => f _ h
  · rw [eqDG_def, eqDG_def]
    split
    · exact fun h => ⟨h.1, h.2.1, f _ h.2.2⟩
    · exact fun h => h
theorem inL_mono {x : D} {y : List D} {k k' : Bool → Prop} (h : inL x y k) (f : ∀ b, k b → k' b) : inL x y k' := by
  obtain ⟨h1, h2, h3⟩ := inL_elim h
  unfold inL
  rw [h1, h2]
  exact f _ h3
theorem inDD_mono {x y : D} {k k' : Bool → Prop} (h : inDD x y k) (f : ∀ b, k b → k' b) : inDD x y k' := by
  cases y with
  | lst ys =>
    simp only [inDD] at h ⊢
    rw [inLst_def, ifB_iff] at h ⊢
    revert h
    by_cases c : (flatD x && ys.all flatD) = true
    · rw [if_pos c, if_pos c]; exact fun h => f _ h
    · rw [if_neg c, if_neg c]
      split
      · exact fun h => ⟨h.1, h.2.1, f _ h.2.2⟩
      · exact fun h => h
  | tup ys => exact inL_mono h f
  | tupF ys => exact inL_mono h f
  | dct kvs =>
    simp only [inDD] at h ⊢
    split at h
    · exact f _ h
    · exact h.elim
  | dctT kvs =>
    cases x with
    | tup xs =>
      simp only [inDD] at h ⊢
      split at h
      · exact f _ h
      · exact h.elim
    | _ => exact (show False from h).elim
  | _ => exact (show False from h).elim
theorem ltDD_mono {x y : D} {k k' : Bool → Prop} (h : ltDD x y k) (f : ∀ b, k b → k' b) : ltDD x y k' := by
  rcases ltDD_elim h with ⟨a, b, rfl, rfl, h⟩ | ⟨a, b, rfl, rfl, h⟩ <;> exact f _ h
theorem leDD_mono {x y : D} {k k' : Bool → Prop} (h : leDD x y k) (f : ∀ b, k b → k' b) : leDD x y k' := by
  rcases leDD_elim h with ⟨a, b, rfl, rfl, h⟩ | ⟨a, b, rfl, rfl, h⟩ <;> exact f _ h
theorem cmpD_mono {op : CmpOp} {x y : D} {k k' : Bool → Prop} (h : cmpD op x y k) (f : ∀ b, k b → k' b) : cmpD op x y k' := by
  cases op with
  | Eq => exact eqDD_mono h f
  | NotEq => exact eqDD_mono (k := fun b => k (!b)) h fun b => f _
  | Lt => exact ltDD_mono h f
  | LtE => exact leDD_mono h f
  | Gt => exact ltDD_mono h f
  | GtE => exact leDD_mono h f
  | In => exact inDD_mono h f
  | NotIn => exact inDD_mono (k := fun b => k (!b)) h fun b => f _
  | Is => cases y <;> first | exact f _ h | exact (show False from h).elim
  | IsNot => cases y <;> first | exact f _ h | exact (show False from h).elim
section
variable {B : Bs} {sg : Sg} {lv : Nat} {N : List Str} {sc : Scope} {Wx : WX} {X : Cx} {σ : L2.St} {H : Hp} {Q : VK} {pos : Pos}
theorem lE_one {wa : WE} {K : V → Hp → Prop} {k : List W → MM → (W → MM → Prop) → XR → Prop} (h : lE B Wx (fun Γ M Q R => wAs [wa] Γ M (fun ws M' => k ws M' Q R) R) σ H Q)
    (hk : ∀ α M x v H' Qd R, Ok B α M H' → RepW B α M H' x v → k [x] M Qd R → QOk B α M H' Qd Q → XOk B Wx σ α M H' R → K v H') : lE B Wx wa σ H K := by
  obtain ⟨α, Γ, M, Qd, R, ok, va, hw, q, x⟩ := h
  exact ⟨α, Γ, M, _, R, ok, va, hw, fun α1 M1 y v H1 s1 ok1 r1 h1 => hk α1 M1 y v H1 Qd R ok1 r1 h1 (q.step s1) (x.step s1), x⟩
theorem lE_two {wa wb : WE} {K : V → V → Hp → Prop} {k : List W → MM → (W → MM → Prop) → XR → Prop} (h : lE B Wx (fun Γ M Q R => wAs [wa, wb] Γ M (fun ws M' => k ws M' Q R) R) σ H Q)
    (hk : ∀ α M x y v u H' Qd R, Ok B α M H' → RepW B α M H' x v → RepW B α M H' y u → k [x, y] M Qd R → QOk B α M H' Qd Q → XOk B Wx σ α M H' R → K v u H') : lE B Wx wa σ H fun v H1 => lE B Wx wb σ H1 fun u H2 => K v u H2 := by
  obtain ⟨α, Γ, M, Qd, R, ok, va, hw, q, x⟩ := h
  refine ⟨α, Γ, M, _, R, ok, va, hw, fun α1 M1 y v H1 s1 ok1 r1 h1 => ?_, x⟩
  exact ⟨α1, Γ, M1, _, R, ok1, va.step s1, h1, fun α2 M2 z u H2 s2 ok2 r2 h2 => hk α2 M2 y z v u H2 Qd R ok2 (r1.step s2) r2 h2 (q.step (s1.trans s2)) (x.step (s1.trans s2)), x.step s1⟩
theorem lE_three {wa wb wc : WE} {K : V → V → V → Hp → Prop} {k : List W → MM → (W → MM → Prop) → XR → Prop} (h : lE B Wx (fun Γ M Q R => wAs [wa, wb, wc] Γ M (fun ws M' => k ws M' Q R) R) σ H Q)
    (hk : ∀ α M x y z v u t H' Qd R, Ok B α M H' → RepW B α M H' x v → RepW B α M H' y u → RepW B α M H' z t → k [x, y, z] M Qd R → QOk B α M H' Qd Q → XOk B Wx σ α M H' R → K v u t H') :
    lE B Wx wa σ H fun v H1 => lE B Wx wb σ H1 fun u H2 => lE B Wx wc σ H2 fun t H3 => K v u t H3 := by
  obtain ⟨α, Γ, M, Qd, R, ok, va, hw, q, x⟩ := h
  refine ⟨α, Γ, M, _, R, ok, va, hw, fun α1 M1 y v H1 s1 ok1 r1 h1 => ?_, x⟩
  refine ⟨α1, Γ, M1, _, R, ok1, va.step s1, h1, fun α2 M2 z u H2 s2 ok2 r2 h2 => ?_, x.step s1⟩
  exact ⟨α2, Γ, M2, _, R, ok2, va.step (s1.trans s2), h2, fun α3 M3 z3 u3 H3 s3 ok3 r3 h3 => hk α3 M3 y z z3 v u u3 H3 Qd R ok3 (r1.step (s2.trans s3)) (r2.step s3) r3 h3 (q.step ((s1.trans s2).trans s3)) (x.step ((s1.trans s2).trans s3)), x.step (s1.trans s2)⟩
/-- the whole list of arguments -/
theorem lE_all {wes : List WE} {K : List V → Hp → Prop} {k : List W → MM → (W → MM → Prop) → XR → Prop} (h : lE B Wx (fun Γ M Q R => wAs wes Γ M (fun ws M' => k ws M' Q R) R) σ H Q)
    (hk : ∀ α M ws vs H' Qd R, Ok B α M H' → RepWs B α M H' ws vs → k ws M Qd R → QOk B α M H' Qd Q → XOk B Wx σ α M H' R → K vs H') : lA B Wx (wAs wes) σ H K := by
  obtain ⟨α, Γ, M, Qd, R, ok, va, hw, q, x⟩ := h
  exact ⟨α, Γ, M, _, R, ok, va, hw, fun α1 M1 ws vs H1 s1 ok1 r1 h1 => hk α1 M1 ws vs H1 Qd R ok1 r1 h1 (q.step s1) (x.step s1), x⟩
theorem pa_of : ∀ {es : List Expr} {wes : List WE}, PEL X B Wx es wes → es.all plainX = true → PA X es (lA B Wx (wAs wes))
  | [], [], _, _ => PA.imp pa_nil fun σ H Q ⟨α, Γ, M, Qd, R, ok, va, hw, q, x⟩ => q α M [] [] H (Step.refl _ _ _) ok rfl hw
  | e :: es, w :: ws, ⟨h1, h2⟩, hp => by
    have hp2 := hp
    rw [List.all_cons, Bool.and_eq_true] at hp2
    refine PA.imp (pa_cons h1 (pa_of h2 hp2.2) (star_cons hp)) fun σ H Q ⟨α, Γ, M, Qd, R, ok, va, hw, q, x⟩ => ?_
    exact ⟨α, Γ, M, _, R, ok, va, hw, fun α1 M1 y v H1 s1 ok1 r1 h1 => ⟨α1, Γ, M1, _, R, ok1, va.step s1, h1, fun α2 M2 xs vs H2 s2 ok2 r2 h2 => q α2 M2 (y :: xs) (v :: vs) H2 (s1.trans s2) ok2 ⟨v, vs, rfl, r1.step s2, r2⟩ h2, x.step s1⟩, x⟩
  | [], _ :: _, h, _ => h.elim
  | _ :: _, [], h, _ => h.elim

theorem c_var (g : Gw B sg lv N sc X) {i : Nat} {x : Str} (h : (decide (N[i]? = some x) && visB sc x && nmB x) = true) : PE X (.Name x pos) (lE B Wx (wE sg (.v i))) := by
  rw [Bool.and_eq_true, Bool.and_eq_true] at h
  obtain ⟨⟨h1, h2⟩, h3⟩ := h
  unfold nmB at h3
  rw [Bool.and_eq_true, Bool.and_eq_true] at h3
  refine PE.imp (pe_var (i := i) (by rw [g.eN]; exact of_decide_eq_true h1) (g.vis x h2) (by simpa using h3.1.1) (by simpa using h3.1.2)) fun σ H Q ⟨α, Γ, M, Qd, R, ok, va, hw, q, x⟩ => ?_
  simp only [wE] at hw
  split at hw
  · rename_i y e
    obtain ⟨v, e1, r⟩ := va.2 i y e
    exact ⟨v, e1, q.wal ok r hw⟩
  · exact hw.elim
theorem c_non {j : Nat} : PE X (.Constant .none j pos) (lE B Wx (wE sg .non)) := PE.imp pe_non fun σ H Q ⟨α, Γ, M, Qd, R, ok, va, hw, q, x⟩ => q.val ok (x := .non) rfl (by simpa only [wE] using hw)
theorem c_bl {b : Bool} {j : Nat} : PE X (.Constant (.bool b) j pos) (lE B Wx (wE sg (.bl b))) := PE.imp pe_bl fun σ H Q ⟨α, Γ, M, Qd, R, ok, va, hw, q, x⟩ => q.val ok (x := .bl b) rfl (by simpa only [wE] using hw)
theorem c_int {i : Int} {j : Nat} : PE X (.Constant (.int i) j pos) (lE B Wx (wE sg (.int i))) := PE.imp pe_int fun σ H Q ⟨α, Γ, M, Qd, R, ok, va, hw, q, x⟩ => q.val ok (x := .int i) rfl (by simpa only [wE] using hw)
theorem c_str {s : Str} {j : Nat} (h : strOK s = true) : PE X (.Constant (.str s) j pos) (lE B Wx (wE sg (.str s))) := PE.imp pe_str fun σ H Q ⟨α, Γ, M, Qd, R, ok, va, hw, q, x⟩ => q.val ok (x := .str s) ⟨rfl, h⟩ (by simpa only [wE] using hw)
theorem c_gl (g : Gw B sg lv N sc X) {x : Str} (h1 : gloB sc x = true) (h3 : nmB x = true) : PE X (.Name x pos) (lE B Wx (wE sg (.gl x))) := by
  unfold nmB at h3
  rw [Bool.and_eq_true, Bool.and_eq_true] at h3
  cases e : sg.gl x with
  | none =>
    refine ⟨fun pins s σ H Q I ⟨α, Γ, M, Qd, R, ok, va, hw, q, x⟩ => ?_⟩
    simp only [wE, e] at hw
  | some d =>
    obtain ⟨u, v, e1, r, hr⟩ := g.env.gl x d e
    refine PE.imp (pe_glob (v := v) (g.glo x h1) (by rw [g.emg]; exact e1) r (by simpa using h3.1.1)) fun σ H Q ⟨α, Γ, M, Qd, R, ok, va, hw, q, x⟩ => ?_
    simp only [wE, e] at hw
    exact q.val ok (x := d) (hr B.F α M H) hw
theorem c_bin (g : Gw B sg lv N sc X) {op : Operator} {m : Bool} {a b : Expr} {wa wb : WE} (ha : PE X a (lE B Wx wa)) (hb : PE X b (lE B Wx wb)) :
    PE X (.BinOp a op b pos) (lE B Wx fun Γ M Q R => wAs [wa, wb] Γ M (fun ws M' => ap2 M' ws fun x y => binD op m x y M' Q) R) := by
  obtain ⟨r, hr, hs⟩ := bin_snd (B := B) g.eK op m
  refine PE.imp (pe_op hr ha hb) fun σ H Q h => lE_two (k := fun ws M' Q R => ap2 M' ws fun x y => binD op m x y M' Q) h fun α M x y v u H' Qd R ok rx ry hk q _ => ?_
  obtain ⟨p, p', e, e', h⟩ := ap2_elim hk
  exact hs α M H' Qd Q p p' v u ok (view ok e rx) (view ok e' ry) h q
theorem c_neg {a : Expr} {wa : WE} (ha : PE X a (lE B Wx wa)) : PE X (.UnaryOp .USub a pos) (lE B Wx fun Γ M Q R => wAs [wa] Γ M (fun ws M' => ap1 M' ws fun x => (match x with
    | .int i => Q (.d (.int (-i))) M'
    | _ => False)) R) := by
  refine PE.imp (pe_un un_neg ha) fun σ H Q h => lE_one (k := fun ws M' Q R => ap1 M' ws fun x => (match x with
    | .int i => Q (.d (.int (-i))) M'
    | _ => False)) h fun α M x v H' Qd R ok rx hk q _ => ?_
  obtain ⟨p, e, h⟩ := ap1_elim hk
  have rv := view ok e rx
  split at h
  · cases rv
    exact ⟨_, rfl, q.val ok (x := .int _) rfl h⟩
  · exact h.elim
theorem c_cmp (g : Gw B sg lv N sc X) {op : CmpOp} {a b : Expr} {wa wb : WE} (hp : plainX b = true) (ha : PE X a (lE B Wx wa)) (hb : PE X b (lE B Wx wb)) :
    PE X (.Compare a [op] [b] pos) (lE B Wx fun Γ M Q R => wAs [wa, wb] Γ M (fun ws M' => ap2 M' ws fun x y => cmpD op x y fun b => Q (.d (.bl b)) M') R) := by
  have := g.u
  obtain ⟨r, hr, hs⟩ := cmp_snd (B := B) g.eK (by omega) op
  refine PE.imp (pe_cmpR hr ha hb (behind_of hp)) fun σ H Q h => lE_two (k := fun ws M' Q R => ap2 M' ws fun x y => cmpD op x y fun b => Q (.d (.bl b)) M') h fun α M x y v u H' Qd R ok rx ry hk q _ => ?_
  obtain ⟨p, p', e, e', h⟩ := ap2_elim hk
  exact hs (Lv B α M) H' Q p p' v u (view ok e rx) (view ok e' ry) (cmpD_mono h fun b hb => q.val ok (x := .bl b) rfl hb)
theorem c_idx (g : Gw B sg lv N sc X) {a b : Expr} {wa wb : WE} (hp : plainX b = true) (ha : PE X a (lE B Wx wa)) (hb : PE X b (lE B Wx wb)) :
    PE X (.Subscript a b pos) (lE B Wx fun Γ M Q R => wAs [wa, wb] Γ M (fun ws M' => idxW ws M' Q) R) := by
  have := g.u
  obtain ⟨r, hr, hs⟩ := idx_snd (B := B) g.eK (by omega)
  exact PE.imp (pe_ix hr ha hb (plainIx_of hp)) fun σ H Q h => lE_two (k := fun ws M' Q R => idxW ws M' Q) h fun α M x y v u H' Qd R ok rx ry hk q _ => hs α M H' Qd Q x y v u ok rx ry hk q
theorem slc_use (g : Gw B sg lv N sc X) : ∃ r, SlR X r ∧ ∀ (α : List Addr) (M : MM) (H : Hp) (Qd : W → MM → Prop) (Q : VK) (m : Bool) (x : W) (v : V) (lo hi : Option Int), Ok B α M H → RepW B α M H x v → (match vw M x with
    | some a => slcD m a lo hi M Qd
    | none => False) → QOk B α M H Qd Q → r v lo hi H Q := by
  obtain ⟨r, hr, hs⟩ := slc_snd (X := X) (B := B) g.eK
  refine ⟨r, hr, fun α M H Qd Q m x v lo hi ok rx h q => ?_⟩
  split at h
  · rename_i a e
    exact hs α M H Qd Q m a v lo hi ok (view ok e rx) h q
  · exact h.elim
theorem slc_ff (g : Gw B sg lv N sc X) {m : Bool} {a : Expr} {p2 : Pos} {wa : WE} (ha : PE X a (lE B Wx wa)) : PE X (.Subscript a (.Slice none none none p2) pos) (lE B Wx fun Γ M Q R => wAs [wa] Γ M (fun ws M' => slcW false false m ws M' Q) R) := by
  obtain ⟨r, hr, hs⟩ := slc_use g
  exact PE.imp (pe_slice hr ha po_none po_none) fun σ H Q h => lE_one (k := fun ws M' Q R => slcW false false m ws M' Q) h fun α M x v H' Qd R ok rx hk q _ => hs α M H' Qd Q m x v none none ok rx hk q
theorem slc_tf (g : Gw B sg lv N sc X) {m : Bool} {a b : Expr} {p2 : Pos} {wa wb : WE} (ha : PE X a (lE B Wx wa)) (hb : PE X b (lE B Wx wb)) : PE X (.Subscript a (.Slice (some b) none none p2) pos) (lE B Wx fun Γ M Q R => wAs [wa, wb] Γ M (fun ws M' => slcW true false m ws M' Q) R) := by
  obtain ⟨r, hr, hs⟩ := slc_use g
  refine PE.imp (pe_slice hr ha (po_some hb) po_none) fun σ H Q h => lE_two (K := fun v u H2 => ∃ i, u = .int i ∧ r v (some i) none H2 Q) (k := fun ws M' Q R => slcW true false m ws M' Q) h fun α M x y v u H' Qd R ok rx ry hk q _ => ?_
  cases y with
  | ref j => exact (show False from hk).elim
  | d y => cases y with
    | int i => cases ry; exact ⟨_, rfl, hs α M H' Qd Q m _ v _ none ok rx hk q⟩
    | _ => exact (show False from hk).elim
theorem slc_ft (g : Gw B sg lv N sc X) {m : Bool} {a b : Expr} {p2 : Pos} {wa wb : WE} (ha : PE X a (lE B Wx wa)) (hb : PE X b (lE B Wx wb)) : PE X (.Subscript a (.Slice none (some b) none p2) pos) (lE B Wx fun Γ M Q R => wAs [wa, wb] Γ M (fun ws M' => slcW false true m ws M' Q) R) := by
  obtain ⟨r, hr, hs⟩ := slc_use g
  refine PE.imp (pe_slice hr ha po_none (po_some hb)) fun σ H Q h => lE_two (K := fun v u H2 => ∃ i, u = .int i ∧ r v none (some i) H2 Q) (k := fun ws M' Q R => slcW false true m ws M' Q) h fun α M x y v u H' Qd R ok rx ry hk q _ => ?_
  cases y with
  | ref j => exact (show False from hk).elim
  | d y => cases y with
    | int i => cases ry; exact ⟨_, rfl, hs α M H' Qd Q m _ v none _ ok rx hk q⟩
    | _ => exact (show False from hk).elim
theorem slc_tt (g : Gd B sg lv N sc Wx X) {m : Bool} {a b c : Expr} {p2 : Pos} {ea eb ec : Ex} (ha : PE X a (lE B Wx (wE sg ea))) (hb : PE X b (lE B Wx (wE sg eb))) (hc : PE X c (lE B Wx (wE sg ec))) : PE X (.Subscript a (.Slice (some b) (some c) none p2) pos) (lE B Wx (wE sg (.sl2 m ea eb ec))) := by
  obtain ⟨r, hr, hs⟩ := slc_use g.toGw
  refine PE.imp (pe_slice hr ha (po_some hb) (po_some hc)) fun σ H Q ⟨α, Γ, M, Qd, R, ok, va, hw, q, x⟩ => ?_
  simp only [wE] at hw
  refine ⟨α, Γ, M, _, R, ok, va, hw, fun α1 M1 y v H1 s1 ok1 r1 h1 => ?_, x⟩
  refine ⟨α1, Γ, M1, _, R, ok1, va.step s1, h1, fun α2 M2 z u H2 s2 ok2 r2 h2 => ?_, x.step s1⟩
  cases z with
  | ref j => exact (show False from h2).elim
  | d z => cases z with
    | int i =>
      cases r2
      refine ⟨i, rfl, ⟨α2, Γ, M2, _, R, ok2, va.step (s1.trans s2), h2, fun α3 M3 z3 u3 H3 s3 ok3 r3 h3 => ?_, x.step (s1.trans s2)⟩⟩
      cases z3 with
      | ref j => exact (show False from h3).elim
      | d z3 => cases z3 with
        | int j => cases r3; exact ⟨_, rfl, hs α3 M3 H3 Qd Q m _ v _ _ ok3 (r1.step (s2.trans s3)) h3 (q.step ((s1.trans s2).trans s3))⟩
        | _ => exact (show False from h3).elim
    | _ => exact (show False from h2).elim
end
end DL

/-! DL14: displays, fields, built-ins, calls. -/
namespace DL
open PySem PySem.Spec L2 PyProof.Rows
abbrev lP (sg : Sg) (wes : List WE) (p : Pr) : WE := fun Γ M Q R => wAs wes Γ M (fun ws M' => wP sg p ws M' Q R) R
section
variable {B : Bs} {sg : Sg} {lv : Nat} {N : List Str} {sc : Scope} {Wx : WX} {X : Cx} {σ : L2.St} {α : List Addr} {M : MM} {H : Hp} {Q : VK} {pos : Pos}
theorem SqT.frz {K : PySem.W.Frag} {a : Addr} {o : Obj} {xs : List V} (h : H a = some (.frz o (.tup xs))) : SqT K H a xs := .inl (.inr ⟨o, h⟩)
theorem c_rev (g : Gw B sg lv N sc X) {m : Bool} {a : Expr} {wa : WE} {k : Nat} {p1 p2 p3 : Pos} (ha : PE X a (lE B Wx wa)) :
    PE X (.Subscript a (.Slice none none (some (.UnaryOp .USub (.Constant (.int 1) k p1) p2)) p3) pos) (lE B Wx (lP sg [wa] (.rev m))) := by
  refine PE.imp (pe_revA ha) fun σ H Q h => lE_one (k := fun ws M' Q R => wP sg (.rev m) ws M' Q R) h fun α M x v H' Qd R ok rx hk q _ => ?_
  obtain ⟨p, e, h⟩ := ap1_elim hk
  have rv := view ok e rx
  rw [g.eK]
  split at h
  · obtain ⟨a, vs, rfl, h1, h2⟩ := rv
    exact .inl ⟨a, vs, rfl, SqL.of h1, fun p hp => q.lst ok h2.rev h hp⟩
  · have rv' : Rep B _ _ (.tup _) v := rv
    obtain ⟨a, vs, rfl, h1, _, h2⟩ := rv'
    exact .inr ⟨a, vs, rfl, SqT.of h1, fun p hp => q.tup ok h2.rev h hp⟩
  · have rv' : Rep B _ _ (.tupF _) v := rv
    obtain ⟨a, vs, o, rfl, h1, _, _, h2⟩ := rv'
    exact .inr ⟨a, vs, rfl, SqT.frz h1, fun p hp => q.tup ok h2.rev h hp⟩
  · exact h.elim
theorem allD_rep : ∀ {ws : List W} {ds : List D} {vs : List V}, allD ws = some ds → RepWs B α M H ws vs → RepL B (Lv B α M) H ds vs
  | [], _, _, e, h => by cases e; exact h
  | .ref _ :: _, _, _, e, _ => by cases e
  | .d x :: r, _, _, e, h => by
    obtain ⟨v, s, rfl, h1, h2⟩ := h
    simp only [allD] at e
    split at e
    · rename_i xs e2
      cases e
      exact ⟨v, s, rfl, h1, allD_rep e2 h2⟩
    · cases e
theorem RepWs.len : ∀ {ws : List W} {vs : List V}, RepWs B α M H ws vs → vs.length = ws.length
  | [], _, h => by cases h; rfl
  | _ :: _, _, h => by
    obtain ⟨v, s, rfl, _, h2⟩ := h
    rw [List.length_cons, List.length_cons, RepWs.len h2]
theorem wAs_len (R : XR) : ∀ (wes : List WE) (Γ : GG) (M : MM) (Q : List W → MM → Prop), wAs wes Γ M Q R = wAs wes Γ M (fun ws M' => if ws.length = wes.length then Q ws M' else False) R
  | [], Γ, M, Q => by simp [wAs]
  | w :: ws, Γ, M, Q => by
    simp only [wAs]
    congr 1
    funext x M1
    rw [wAs_len R ws]
    congr 1
    funext xs M2
    by_cases c : xs.length = ws.length
    · rw [if_pos c, if_pos (by simp [c])]
    · rw [if_neg c, if_neg (by simpa using c)]
theorem lE_alln {wes : List WE} {K : List V → Hp → Prop} {k : List W → MM → (W → MM → Prop) → XR → Prop} (h : lE B Wx (fun Γ M Q R => wAs wes Γ M (fun ws M' => k ws M' Q R) R) σ H Q)
    (hk : ∀ α M ws vs H' Qd R, Ok B α M H' → RepWs B α M H' ws vs → ws.length = wes.length → k ws M Qd R → QOk B α M H' Qd Q → XOk B Wx σ α M H' R → K vs H') : lA B Wx (wAs wes) σ H K := by
  obtain ⟨α, Γ, M, Qd, R, ok, va, hw, q, x⟩ := h
  rw [wAs_len] at hw
  refine ⟨α, Γ, M, _, R, ok, va, hw, fun α1 M1 ws vs H1 s1 ok1 r1 h1 => ?_, x⟩
  dsimp only at h1
  split at h1
  · rename_i c
    exact hk α1 M1 ws vs H1 Qd R ok1 r1 c h1 (q.step s1) (x.step s1)
  · exact h1.elim
theorem PEL.len : ∀ {es : List Expr} {wes : List WE}, PEL X B Wx es wes → wes.length = es.length
  | [], [], _ => rfl
  | _ :: _, _ :: _, h => by rw [List.length_cons, List.length_cons, PEL.len h.2]
  | [], _ :: _, h => h.elim
  | _ :: _, [], h => h.elim
def tTupF (t : TA) : TE := fun σ H Q => t σ H fun xs H1 => xs.length ≤ sizeLine ∧ ∀ p (o : Obj), o.dict = none → H1 p = none → Q (.ref p) (upd H1 p (.frz o (.tup xs)))
theorem pe_tupF {es : List Expr} {t : TA} {x1 : Nat} (h : PA X es t) : PE X (.Tuple es x1 pos) (tTupF t) := by
  refine ⟨fun pins s σ H Q I hq => ?_⟩
  refine wpAny_Tuple_spliced (thn (h.run pos pins s σ H _ I hq) fun us s1 ⟨xs, H1, I1, r, z, q⟩ => ⟨by rw [← r.length]; exact z, ?_⟩)
  have hf : H1 s1.heap.objs.size = none := I1.hok.fresh (Nat.le_refl _)
  refine ⟨.ref s1.heap.objs.size, upd H1 s1.heap.objs.size (.frz { cls := .type "tuple", data := .seq us.toArray } (.tup xs)), I1.laid (t' := s1.toks) (fun b u e => Heap.get?_push_of_some _ e) (Nat.le_refl _) ?_, rfl, q _ _ rfl hf⟩
  exact ⟨Heap.get?_push_size _ rfl, z, us, r, ⟨_, Heap.get?_push_size _ rfl, rfl, _, rfl⟩⟩
theorem c_tup (g : Gw B sg lv N sc X) {f : Bool} {es : List Expr} {x1 : Nat} {wes : List WE} (he : PEL X B Wx es wes) (hp : es.all plainX = true) (hz : es.length ≤ 1000) : PE X (.Tuple es x1 pos) (lE B Wx (lP sg wes (.tup f))) := by
  have hz2 := sizeLine_eq
  cases f with
  | false =>
    refine PE.imp (pe_tup (pa_of he hp)) fun σ H Q h => lE_alln (k := fun ws M' Q R => wP sg (.tup false) ws M' Q R) h fun α M ws vs H' Qd R ok rw hl hk q _ => ?_
    simp only [wP] at hk
    split at hk
    · rename_i ds e
      have r := allD_rep e rw
      have h1 := rw.len
      rw [hl, he.len] at h1
      exact ⟨by omega, fun p hp => q.tup ok r hk hp⟩
    · exact hk.elim
  | true =>
    refine PE.imp (pe_tupF (pa_of he hp)) fun σ H Q h => lE_alln (k := fun ws M' Q R => wP sg (.tup true) ws M' Q R) h fun α M ws vs H' Qd R ok rw hl hk q _ => ?_
    simp only [wP] at hk
    split at hk
    · rename_i ds e
      have r := allD_rep e rw
      have h1 := rw.len
      rw [hl, he.len] at h1
      refine ⟨by omega, fun p o ho hp => ?_⟩
      exact q α M (.d (.tupF ds)) _ _ (kept_new ok hp) (ok.new hp) ⟨p, vs, o, rfl, upd_same, ho, ok.notLive hp, RepL.mono (kept_new ok hp).kept ds vs r⟩ hk
    · exact hk.elim
theorem c_lst (g : Gw B sg lv N sc X) {f : Bool} {es : List Expr} {wes : List WE} (he : PEL X B Wx es wes) (hp : es.all plainX = true) (hz : es.length ≤ 1000) : PE X (.List es pos) (lE B Wx (lP sg wes (.lst f))) := by
  have hz2 := sizeLine_eq
  refine PE.imp (pe_lst (pa_of he hp)) fun σ H Q h => lE_alln (k := fun ws M' Q R => wP sg (.lst f) ws M' Q R) h fun α M ws vs H' Qd R ok rw hl hk q _ => ?_
  simp only [wP] at hk
  split at hk
  · rename_i ds e
    have r := allD_rep e rw
    have h1 := rw.len
    rw [hl, he.len] at h1
    exact ⟨by omega, fun p hp => q.lst ok r hk hp⟩
  · exact hk.elim
theorem RepF.look : ∀ {fs : List (Str × D)} {vs : List (Str × V)} {f : Str} {x : D}, RepF B (Lv B α M) H fs vs → fs.lookup f = some x → ∃ v, vs.lookup f = some v ∧ Rep B (Lv B α M) H x v
  | [], _, _, _, _, e => by cases e
  | (k, d) :: fs, _, f, x, h, e => by
    obtain ⟨v, s, rfl, h1, h2⟩ := h
    rw [List.lookup_cons] at e ⊢
    cases c : f == k with
    | true => rw [c] at e; cases e; exact ⟨v, rfl, h1⟩
    | false => rw [c] at e; exact RepF.look h2 e
theorem RepKW.look : ∀ {fs : List (Str × W)} {vs : List (Str × V)} {f : Str} {x : W}, RepKW B α M H fs vs → fs.lookup f = some x → ∃ v, vs.lookup f = some v ∧ RepW B α M H x v
  | [], _, _, _, _, e => by cases e
  | (k, d) :: fs, _, f, x, h, e => by
    obtain ⟨v, s, rfl, h1, h2⟩ := h
    rw [List.lookup_cons] at e ⊢
    cases c : f == k with
    | true => rw [c] at e; cases e; exact ⟨v, rfl, h1⟩
    | false => rw [c] at e; exact RepKW.look h2 e
theorem RepF.miss : ∀ {fs : List (Str × D)} {vs : List (Str × V)} {f : Str}, RepF B (Lv B α M) H fs vs → (fs.lookup f).isNone = true → vs.lookup f = none
  | [], _, _, h, _ => by cases h; rfl
  | (k, d) :: fs, _, f, h, e => by
    obtain ⟨v, s, rfl, h1, h2⟩ := h
    rw [List.lookup_cons] at e ⊢
    cases c : f == k with
    | true => rw [c] at e; cases e
    | false => rw [c] at e; exact RepF.miss h2 e
theorem RepKW.miss : ∀ {fs : List (Str × W)} {vs : List (Str × V)} {f : Str}, RepKW B α M H fs vs → (fs.lookup f).isNone = true → vs.lookup f = none
  | [], _, _, h, _ => by cases h; rfl
  | (k, d) :: fs, _, f, h, e => by
    obtain ⟨v, s, rfl, h1, h2⟩ := h
    rw [List.lookup_cons] at e ⊢
    cases c : f == k with
    | true => rw [c] at e; cases e
    | false => rw [c] at e; exact RepKW.miss h2 e
theorem c_fld (g : Gw B sg lv N sc X) {f : Str} {a : Expr} {wa : WE} (hs : notSuper a = true) (ha : PE X a (lE B Wx wa)) : PE X (.Attribute a f pos) (lE B Wx (lP sg [wa] (.fld f))) := by
  refine PE.imp (pe_fld ha (attrBase hs)) fun σ H Q h => lE_one (k := fun ws M' Q R => wP sg (.fld f) ws M' Q R) h fun α M x v H' Qd R ok rx hk q _ => ?_
  replace hk : fldW sg.fa f x M Qd := hk
  rw [g.eK]
  unfold fldW at hk
  split at hk
  · rename_i c fs
    obtain ⟨a, C, dx, vs, rfl, h1, _, hm, h2⟩ := rx
    obtain ⟨fa, hk⟩ := hk
    obtain ⟨h3, h4⟩ := g.env.fa c f fa C hm
    split at hk
    · rename_i y e
      obtain ⟨v, e1, r⟩ := RepF.look h2 e
      exact ⟨a, C, dx, vs, v, rfl, h1, h3, h4, e1, q.val ok r hk⟩
    · exact hk.elim
  · rename_i i
    obtain ⟨a, ha, rfl⟩ := rx
    split at hk
    · rename_i c fs em
      obtain ⟨o, ho, C, dx, vs, rfl, hm, h2⟩ := ok.obj i _ a em ha
      obtain ⟨fa, hk⟩ := hk
      obtain ⟨h3, h4⟩ := g.env.fa c f fa C hm
      split at hk
      · rename_i y e
        obtain ⟨v, e1, r⟩ := RepKW.look h2 e
        exact ⟨a, C, dx, vs, v, rfl, ho, h3, h4, e1, q.wal ok r hk⟩
      · exact hk.elim
    · exact hk.elim
  · exact hk.elim
theorem bi_bu (f : Bi) : biN f ∈ DL.bu := by cases f <;> decide
theorem c_bi (g : Gd B sg lv N sc Wx X) {f : Bi} {m : Bool} {e : Expr} {es : List Expr} {p : Pos} {wes : List WE} (hx : gloB sc (biN f) = true) (he : PEL X B Wx (e :: es) wes) (hp : (e :: es).all plainX = true) :
    PE X (.Call (.Name (biN f) p) (e :: es) [] pos) (lE B Wx (lP sg wes (.bi f m))) := by
  have hp2 := hp
  rw [List.all_cons, Bool.and_eq_true] at hp2
  obtain ⟨r, hr, hs⟩ := bi_snd (X := X) (B := B) g.eK g.calm g.gds g.u f m
  have fin : PE X (.Call (.Name (biN f) p) (e :: es) [] pos) (tCB r (lA B Wx (wAs wes))) := by
    have hb := biBoot f
    unfold biV at hb hr
    split at hr
    · rename_i c
      rw [if_pos c] at hb
      exact pe_callTy hr (g.glo _ hx) (g.not (bi_bu f)) hb (pa_of he hp) (by cases f <;> decide) (by cases f <;> decide) (star_cons hp) (star_any hp2.2)
    · rename_i c
      rw [if_neg c] at hb
      exact pe_callB hr (g.glo _ hx) (g.not (bi_bu f)) hb (pa_of he hp) (by cases f <;> decide) (by cases f <;> decide) (star_cons hp) (star_any hp2.2)
  exact PE.imp fin fun σ H Q h => lE_all (k := fun ws M' Q R => wP sg (.bi f m) ws M' Q R) h fun α M ws vs H' Qd R ok rw hk q _ => hs α M H' Qd Q ws vs ok rw hk q
/-! ### the arguments of a call; what is lent -/
theorem lend_ws : ∀ {bs : List Bool} {ws us : List W} {vs : List V} {M M' : MM}, Ok B α M H → lend M bs ws = some (us, M') → RepWs B α M H ws vs → Step α M H α M' H ∧ Ok B α M' H ∧ RepWs B α M' H us vs
  | [], ws, us, vs, M, M', ok, e, r => by
    cases e
    exact ⟨Step.refl _ _ _, ok, r⟩
  | true :: bs, [], us, vs, M, M', ok, e, r => by cases e
  | false :: bs, [], us, vs, M, M', ok, e, r => by cases e
  | false :: bs, w :: ws, us, vs, M, M', ok, e, r => by
    simp only [lend] at e
    split at e
    · rename_i us' M2 e2
      cases e
      obtain ⟨v, s, rfl, h1, h2⟩ := r
      obtain ⟨s1, ok1, r1⟩ := lend_ws ok e2 h2
      exact ⟨s1, ok1, v, s, rfl, h1.step s1, r1⟩
    · cases e
  | true :: bs, w :: ws, us, vs, M, M', ok, e, r => by
    simp only [lend] at e
    split at e
    · rename_i d M1 ed
      split at e
      · rename_i us' M2 e2
        cases e
        obtain ⟨v, s, rfl, h1, h2⟩ := r
        obtain ⟨s0, ok0, r0⟩ := frzW_snd 4 M w d M1 v ok h1 ed
        obtain ⟨s1, ok1, r1⟩ := lend_ws ok0 e2 (h2.step s0)
        exact ⟨s0.trans s1, ok1, v, s, rfl, Rep.mono s1.kept d v r0, r1⟩
      · cases e
    · cases e
theorem data_ws {F : Addr → Prop} : ∀ {ws : List W} {vs : List V}, (allD ws).isSome = true → RepWs B α M H ws vs → RepWs (B.at fun a => Lv B α M a) [] [] H ws vs
  | [], _, _, h => h
  | .ref _ :: _, _, ha, _ => by cases ha
  | .d x :: ws, _, ha, h => by
    obtain ⟨v, s, rfl, h1, h2⟩ := h
    simp only [allD] at ha
    split at ha
    · rename_i xs e
      refine ⟨v, s, rfl, ?_, data_ws (F := F) (by rw [e]; rfl) h2⟩
      refine (Rep.at x v).mp (Rep.mono (L := Lv B α M) (H := H) (fun a o e n => ⟨e, fun l => ?_⟩) x v h1)
      rcases l with l | l
      · exact n l
      · obtain ⟨i, mo, e1, _⟩ := l; simp at e1
    · cases ha
theorem flat_at {F : Addr → Prop} {L L' : Addr → Prop} {H' : Hp} {x : D} {v : V} (f : flatD x = true) (h : Rep (B.at F) L H' x v) : Rep B L' H' x v := by
  cases x <;> first | exact h | cases f
theorem RepF.flat {F : Addr → Prop} {L L' : Addr → Prop} {H' : Hp} : ∀ {fs : List (Str × D)} {vs : List (Str × V)}, (fs.all fun q => flatD q.2) = true → RepF (B.at F) L H' fs vs → RepF B L' H' fs vs
  | [], _, _, h => h
  | (k, x) :: fs, _, a, h => by
    obtain ⟨v, s, rfl, h1, h2⟩ := h
    rw [List.all_cons, Bool.and_eq_true] at a
    exact ⟨v, s, rfl, flat_at a.1 h1, RepF.flat a.2 h2⟩
theorem lendW_snd {sp : Spec} {bs : List Bool} {ws : List W} {vs : List V} {Qd : W → MM → Prop} {R : XR} {E : XK} (ok : Ok B α M H) (r : RepWs B α M H ws vs) (h : lendW sp bs ws M Qd R) (q : QOk B α M H Qd Q) (x : EOk B α M H R E) : spOf B sp vs H Q E := by
  unfold lendW at h
  split at h
  · exact callI_snd ok r h q x
  · split at h
    · rename_i us Mk e
      obtain ⟨ha, h⟩ := h
      obtain ⟨sk, okk, hi⟩ := lend_ws ok e r
      have step : ∀ {α' : List Addr} {M' : MM} {H' : Hp}, Step [] [] H α' M' H' → Ok B α M H' ∧ Step α M H α M H' := fun {α' M' H'} s => by
        have kp : ∀ a o, H a = some o → H' a = some o := fun a o e => s.keep a o e fun l => by obtain ⟨i, mo, e1, _⟩ := l; simp at e1
        have st : Step α M H α M H' := ⟨List.prefix_refl _, fun a o e _ => kp a o e, fun a l => .inl l, fun a l => .inl l⟩
        refine ⟨⟨ok.len, ok.nd, fun a h => ?_, fun a h => ?_, ok.sep, fun i mo a e1 e2 => ?_⟩, st⟩
        · obtain ⟨o, e⟩ := ok.trk a h; exact ⟨o, kp a o e⟩
        · obtain ⟨o, e⟩ := ok.frs a h; exact ⟨o, kp a o e⟩
        · obtain ⟨o, e, ro⟩ := ok.obj i mo a e1 e2
          exact ⟨o, kp a o e, ro.mono (List.prefix_refl _) st.kept⟩
      refine ⟨fun a => Lv B α Mk a, [], [], us, _, _, ?_, data_ws (F := B.F) ha hi, h, ?_, ?_⟩
      · refine ⟨rfl, List.nodup_nil, fun a h => (by cases h), fun a h => ?_, fun a h => (by cases h), fun i mo a e1 _ => (by simp at e1)⟩
        rcases h with h | ⟨i, mo, _, e2⟩
        · exact ok.frs a h
        · exact okk.trk a (List.mem_of_getElem? e2)
      · intro α' M' w v H' s ok' rw hq
        obtain ⟨ok2, s2⟩ := step s
        refine q α M w v H' s2 ok2 ?_ hq.2
        have h1 := hq.1
        cases w with
        | ref i => cases h1
        | d x => cases x <;> first | exact rw | cases h1
      · intro α' M' H' cls d c fs s ok' rx hq
        obtain ⟨ok2, s2⟩ := step s
        refine x α M H' cls d c fs s2 ok2 ?_ hq.2
        obtain ⟨C, e1, e2, e3⟩ := rx
        refine ⟨C, e1, e2, ?_⟩
        cases d with
        | none => exact e3
        | some a =>
          obtain ⟨vs, h1, h2, h3⟩ := e3
          refine ⟨vs, h1, fun l => ?_, RepF.flat hq.1 h3⟩
          rcases l with l | ⟨i, mo, e4, e5⟩
          · exact h2 (.inl (.inl l))
          · obtain ⟨o, e6, ro⟩ := ok2.obj i mo a e4 e5
            rw [h1] at e6
            cases e6
            cases mo with
            | lst xs => obtain ⟨_, h, _⟩ := ro; cases h
            | dct xs => obtain ⟨_, h, _⟩ := ro; cases h
            | dctT xs => obtain ⟨_, h, _⟩ := ro; cases h
            | dcw xs => obtain ⟨_, h, _⟩ := ro; cases h
            | ins c xs => obtain ⟨_, _, _, h, _⟩ := ro; cases h
    · exact h.elim
end
end DL

/-! DL15: calls of defs, classes, methods; isinstance; dict displays. -/
namespace DL
open PySem PySem.Spec L2 PyProof.Rows
/-! ### rules of the layer where what is raised is wished for at the caller's slots -/
section
variable {X : Cx} {CX : CXT} {k : Nat} {f C : Addr} {fd : FuncData} {ps : List Str} {sp : Sp} {dvs : List V} {ds : List Value} {E : L2.St → XK} {x m : Str} {p pos apos : Pos} {e o : Expr} {es : List Expr} {ta : TE} {t : TA}
theorem pe_callSD0 (F : FnG X.prog X.w X.K X.mg X.base CX k f fd ps sp) (hr : RoomG k X.A) (hg : Gl X x) (hm : X.mg x = some (.ref f)) (hk : PySem.W.keepIn X.K (.ref f) = true) (hb : Binds X.K fd ps ds) (hd : Vals dvs ds) (hx : ∀ σ, PassesAt CX X σ (E σ))
    (hdb : (x == ("__debug__" : Str)) = false) : PE X (.Call (.Name x p) [] [] pos) (tCallSD sp dvs E tNil) := by
  refine ⟨fun pins s σ H Q I h => ?_⟩
  refine wpAny_Call_Name_kw (ld_glob I hg hm ?_ hdb)
  exact PySem.W.callWith_K0 I.kIn hk (run_g (us := []) F hr hb hd (hx σ) I .nil h)
theorem run_makeSD {pins : List (Addr × Obj)} {σ : L2.St} {H : Hp} {s : Shared} {Q : VK} {us : List Value} {vs : List V} {E : XK} (M : Mk X.K C f) (F : FnG X.prog X.w X.K X.mg X.base CX k f fd ps sp) (hr : RoomG (k + 1) X.A) (hb : Binds X.K fd ps ds) (hd : Vals dvs ds)
    (hx : PassesAt CX X σ E) (I : Inv X pins σ H s) (r : Vals vs us)
    (h : ∀ x dx, H x = none → H dx = none → dx ≠ x → sp (.ref x :: (vs ++ dvs)) (upd (upd H dx (.own x)) x (.ins C dx [])) (fun v H2 => v = .non ∧ Q (.ref x) H2) E) :
    wpAny (model X.prog X.w) X.A (call (.ref C) us) (EP X pins σ Q) X.xe s := by
  have hq := h (s.heap.objs.size + 1) s.heap.objs.size (I.hok.fresh (Nat.le_succ _)) (I.hok.fresh (Nat.le_refl _)) (Nat.ne_of_lt (Nat.lt_succ_self _))
  have I2 := Inv.made (C := C) I
  have r2 : Vals (V.ref (s.heap.objs.size + 1) :: (vs ++ dvs)) (Value.ref (s.heap.objs.size + 1) :: (us ++ ds)) := .cons rfl (r.append hd)
  have hl : (Value.ref (s.heap.objs.size + 1) :: us ++ ds).length = ps.length := by
    have e := r2.length
    rw [F.len _ _ _ _ hq] at e
    exact e.symm
  refine wpAny_call (make_map (f := f) I.kIn M.makes M.init (beq_iff_eq.mp M.fn) (codeAny_mono (F.run _ X.stack _ _ ⟨Value.ref (s.heap.objs.size + 1) :: us, []⟩ (Value.ref (s.heap.objs.size + 1) :: (us ++ ds)) _ _ E (hr.make C us [])
    (I2.env0.make C us []) (hb _ (Value.ref (s.heap.objs.size + 1) :: us) I2.kIn hl) r2 hq) fun r s' hq' => ?_))
  cases r with
  | error e => exact hx pins _ _ e s' I2 hq'
  | ok fl =>
    cases fl with
    | ret u =>
      obtain ⟨v, H', I3, rv, ev, q3⟩ := I2.after hq'
      subst ev
      exact ⟨rv, ⟨V.ref (s.heap.objs.size + 1), H', I3, rfl, q3⟩⟩
    | next => exact False.elim hq'
    | brk => exact False.elim hq'
    | cont => exact False.elim hq'
def tMakeSD (C : Addr) (sp : Sp) (dvs : List V) (E : L2.St → XK) (t : TA) : TE := fun σ H Q => t σ H fun vs H1 => ∀ x dx, H1 x = none → H1 dx = none → dx ≠ x →
  sp (.ref x :: (vs ++ dvs)) (upd (upd H1 dx (.own x)) x (.ins C dx [])) (fun v H2 => v = .non ∧ Q (.ref x) H2) (E σ)
theorem pe_makeSD (M : Mk X.K C f) (F : FnG X.prog X.w X.K X.mg X.base CX k f fd ps sp) (hr : RoomG (k + 1) X.A) (hg : Gl X x) (hm : X.mg x = some (.ref C)) (hb : Binds X.K fd ps ds) (hd : Vals dvs ds) (hx : ∀ σ, PassesAt CX X σ (E σ))
    (ha : PA X (e :: es) t) (hdb : (x == ("__debug__" : Str)) = false) (he : starEach (e :: es) X.env = (false, eval e X.env) :: starEach es X.env) (hpl : (backTo pos (starEach es X.env)).any (·.1) = false) :
    PE X (.Call (.Name x p) (e :: es) [] pos) (tMakeSD C sp dvs E t) := by
  refine ⟨fun pins s σ H Q I h => ?_⟩
  refine wpAny_Call_Name_kw (ld_glob I hg hm ?_ hdb)
  refine PySem.W.callWith_K (h₀ := X.base) I.ok.mod.kin M.kp (thn (ha.run pos pins s σ H _ I h) fun us s1 ⟨vs, H1, I1, r, q⟩ => ⟨I1.kIn, ?_⟩) he hpl
  exact run_makeSD M F hr hb hd (hx σ) I1 r q
theorem pe_makeSD0 (M : Mk X.K C f) (F : FnG X.prog X.w X.K X.mg X.base CX k f fd ps sp) (hr : RoomG (k + 1) X.A) (hg : Gl X x) (hm : X.mg x = some (.ref C)) (hb : Binds X.K fd ps ds) (hd : Vals dvs ds) (hx : ∀ σ, PassesAt CX X σ (E σ))
    (hdb : (x == ("__debug__" : Str)) = false) : PE X (.Call (.Name x p) [] [] pos) (tMakeSD C sp dvs E tNil) := by
  refine ⟨fun pins s σ H Q I h => ?_⟩
  refine wpAny_Call_Name_kw (ld_glob I hg hm ?_ hdb)
  exact PySem.W.callWith_K0 I.kIn M.kp (run_makeSD (us := []) M F hr hb hd (hx σ) I .nil h)
theorem meth_eq {name : Str} {env : Env} (hb : notSuper o = true) (hl : (apos.endLine == pos.line) = true) (hp : es.all plainX = true) (hn : es.length < 28) : eval (.Call (.Attribute o name apos) es [] pos) env = (do
    let ov ← eval o env
    standAt apos.atName
    let (f, first) ← holding [ov] (getMethod ov name (do return (← importBound o env).getD true))
    callWith pos f first (backTo pos (starEach es env)) (backToKw pos (keywordEach [] env))) := by
  have hf : methodCallForm (es.length + ([] : List Keyword).length) (backTo pos (starEach es env)) (backToKw pos (keywordEach [] env)) = true := by
    unfold methodCallForm
    rw [Bool.and_eq_true, Bool.and_eq_true]
    refine ⟨⟨?_, rfl⟩, ?_⟩
    · rw [star_of hp]
      unfold backTo
      rw [List.map_map, List.all_map]
      exact List.all_eq_true.mpr fun _ _ => rfl
    · show decide (es.length + 0 + 0 < 30) = true
      rw [decide_eq_true_eq]
      omega
  rw [arm_eval_Call, attrBase hb]
  unfold methodCall calleeOf methodCallPos
  rw [hf]
  simp only [hl, if_true, Bool.not_true, Bool.or_true, Bool.false_or]
  rfl
/-- o.m(..), the class seen at the time -/
def tMethD (X : Cx) (CX : CXT) (lv : Nat) (m : Str) (E : L2.St → XK) (ta : TE) (t : TA) : TE := fun σ H Q => ta σ H fun x H1 => ∃ a C dx fs f fd ps k dvs ds sp, x = .ref a ∧ H1 a = some (.ins C dx fs) ∧ fs.lookup m = none ∧ Cls X.K C ∧ Meth X.K C m f ∧
  FnG X.prog X.w X.K X.mg X.base CX k f fd ps sp ∧ k ≤ lv ∧ Binds X.K fd ps ds ∧ Vals dvs ds ∧ t σ H1 fun vs H2 => sp (x :: (vs ++ dvs)) H2 Q (E σ)
theorem pe_methD {lv : Nat} (he : PE X o ta) (hr : RoomG lv X.A) (hx : ∀ σ, PassesAt CX X σ (E σ)) (ha : PA X (e :: es) t) (hs : notSuper o = true) (hl : (apos.endLine == pos.line) = true) (hp : (e :: es).all plainX = true) (hn : (e :: es).length < 28) :
    PE X (.Call (.Attribute o m apos) (e :: es) [] pos) (tMethD X CX lv m E ta t) := by
  refine ⟨fun pins s σ H Q I h => ?_⟩
  refine PySem.W.methodCall_KW (pl := do return (← importBound o X.env).getD true) (thn (he.run pins s σ H _ I h) fun u s1 ⟨x, H1, I1, rx, a, C, dx, fs, f, fd, ps, k, dvs, ds, sp, ex, ea, l, c, hm, F, hk, hb, hd, q⟩ => ?_) (meth_eq hs hl hp hn)
  subst ex
  obtain rfl : u = Value.ref a := rx
  refine getmeth_ok I1 ea c hm l ?_
  have hp2 := hp
  rw [List.all_cons, Bool.and_eq_true] at hp2
  refine PySem.W.callWith_K (first := [.ref a]) (h₀ := X.base) I.ok.mod.kin hm.kp (thn (ha.run pos pins s1 σ H1 _ I1 q) fun us s2 ⟨vs, H2, I2, r, q2⟩ => ⟨I2.kIn, ?_⟩) (star_cons hp) (star_any hp2.2)
  exact run_g (us := .ref a :: us) (vs := .ref a :: vs) F (hr.mono hk) hb hd (hx σ) I2 (.cons rfl r) q2
theorem pe_methD0 {lv : Nat} (he : PE X o ta) (hr : RoomG lv X.A) (hx : ∀ σ, PassesAt CX X σ (E σ)) (hs : notSuper o = true) (hl : (apos.endLine == pos.line) = true) :
    PE X (.Call (.Attribute o m apos) [] [] pos) (tMethD X CX lv m E ta tNil) := by
  refine ⟨fun pins s σ H Q I h => ?_⟩
  refine PySem.W.methodCall_KW (pl := do return (← importBound o X.env).getD true) (thn (he.run pins s σ H _ I h) fun u s1 ⟨x, H1, I1, rx, a, C, dx, fs, f, fd, ps, k, dvs, ds, sp, ex, ea, l, c, hm, F, hk, hb, hd, q⟩ => ?_) (meth_eq hs hl rfl (by decide))
  subst ex
  obtain rfl : u = Value.ref a := rx
  refine getmeth_ok I1 ea c hm l ?_
  exact PySem.W.callWith_K0 (first := [.ref a]) I1.kIn hm.kp (run_g (us := [.ref a]) (vs := [.ref a]) F (hr.mono hk) hb hd (hx σ) I1 (.cons rfl .nil) q)
end
section
variable {B : Bs} {sg : Sg} {lv : Nat} {N : List Str} {sc : Scope} {Wx : WX} {X : Cx} {σ : L2.St} {α : List Addr} {M : MM} {H : Hp} {Q : VK} {pos : Pos}
theorem XOk.e {R : XR} (x : XOk B Wx σ α M H R) : EOk B α M H R (fun cls d H' => Wx cls d σ H') := x
theorem RepWs.app : ∀ {ws us : List W} {vs ts : List V}, RepWs B α M H ws vs → RepWs B α M H us ts → RepWs B α M H (ws ++ us) (vs ++ ts)
  | [], _, _, _, h, g => by cases h; exact g
  | _ :: _, _, _, _, h, g => by
    obtain ⟨v, s, rfl, h1, h2⟩ := h
    exact ⟨v, s ++ _, rfl, h1, RepWs.app h2 g⟩
/-- behind the written arguments the defaults -/
theorem spOf_dws {sp sp0 : Spec} {vs dvs : List V} {dws : List W} {E : XK} (hd : ∀ F α M H, RepWs (B.at F) α M H dws dvs) (hi : ∀ ws M Q R, sp ws M Q R → sp0 (ws ++ dws) M Q R) (h : spOf B sp vs H Q E) : spOf B sp0 (vs ++ dvs) H Q E := by
  obtain ⟨F, α, M, ws, Qd, R, ok, r, hs, q, x⟩ := h
  exact ⟨F, α, M, ws ++ dws, Qd, R, ok, r.app (hd F α M H), hi _ _ _ _ hs, q, x⟩
theorem Gd.fn (g : Gd B sg lv N sc Wx X) {k : Nat} {f : Addr} {fd : FuncData} {ps : List Str} {sp : Sp} (F : FnG B.P B.w B.K B.mg B.base (L2.CX B.P B.w) k f fd ps sp) : FnG X.prog X.w X.K X.mg X.base (L2.CX X.prog X.w) k f fd ps sp := by
  rw [g.eP, g.ew, g.eK, g.emg, g.eb]; exact F
theorem dbg_of {x : Str} (h : nmB x = true) : (x == ("__debug__" : Str)) = false := by
  unfold nmB at h
  rw [Bool.and_eq_true, Bool.and_eq_true] at h
  simpa using h.1.1
theorem c_call (g : Gd B sg lv N sc Wx X) {f : Str} {bs : List Bool} {es : List Expr} {p : Pos} {wes : List WE} {sp : Spec} (hsp : sg.fn f wes.length = some sp) (hx : gloB sc f = true) (hn : nmB f = true) (he : PEL X B Wx es wes) (hp : es.all plainX = true) :
    PE X (.Call (.Name f p) es [] pos) (lE B Wx (lP sg wes (.call f bs))) := by
  obtain ⟨a, fd, ps, k, dvs, ds, dws, sp0, hm, F, hk, kp, hb, hd, hdw, hi⟩ := (g.env.fn f _ sp hsp).ex
  have F' := g.fn F
  have main : ∀ σ H Q, lE B Wx (lP sg wes (.call f bs)) σ H Q → tCallSD (spOf B sp0) dvs (fun σ cls d H => Wx cls d σ H) (lA B Wx (wAs wes)) σ H Q := fun σ H Q h =>
    lE_alln (k := fun ws M' Q R => wP sg (.call f bs) ws M' Q R) h fun α M ws vs H' Qd R ok rw hl hk q x => by
      replace hk : lendO (sg.fn f ws.length) bs ws M Qd R := hk
      rw [hl, hsp] at hk
      exact spOf_dws hdw hi (lendW_snd ok rw hk q x.e)
  have hm' : X.mg f = some (.ref a) := by rw [g.emg]; exact hm
  have kp' : PySem.W.keepIn X.K (.ref a) = true := by rw [g.eK]; exact kp
  have hb' : L2.Binds X.K fd ps ds := by rw [g.eK]; exact hb
  cases es with
  | nil =>
    cases wes with
    | nil =>
      refine PE.imp (pe_callSD0 F' (g.room.mono hk) (g.glo f hx) hm' kp' hb' hd g.px (dbg_of hn)) fun σ H Q h => ?_
      obtain ⟨α, Γ, M, Qd, R, ok, va, hw, q, x⟩ := main σ H Q h
      exact q α M [] [] H (Step.refl _ _ _) ok rfl hw
    | cons w ws => exact he.elim
  | cons e es =>
    have hp2 := hp
    rw [List.all_cons, Bool.and_eq_true] at hp2
    exact PE.imp (pe_callG F' (g.room.mono hk) (g.glo f hx) hm' kp' hb' hd g.px (pa_of he hp) (dbg_of hn) (star_cons hp) (star_any hp2.2)) main
theorem new_snd {fr : Bool} {c : Str} {sp0 : Spec} {C : Addr} {vs : List V} {E : XK} (hm : B.mg c = some (.ref C)) (h : spOf B (newSpec fr c sp0) vs H Q E) {x dx : Addr} (hx : H x = none) (hdx : H dx = none) (hne : dx ≠ x) :
    spOf B sp0 (.ref x :: vs) (upd (upd H dx (.own x)) x (.ins C dx [])) (fun v H2 => v = .non ∧ Q (.ref x) H2) E := by
  obtain ⟨F, α, M, ws, Qd, R, ok, r, hs, q, xe⟩ := h
  unfold newSpec at hs
  have s1 := kept_new (o := .own x) ok hdx
  have ok1 := ok.new (o := .own x) hdx
  have hx1 : (upd H dx (.own x)) x = none := by rw [upd_ne (Ne.symm hne)]; exact hx
  have ro : RepO (B.at F) α M (upd H dx (.own x)) (.ins c []) (.ins C dx []) := ⟨C, dx, [], rfl, hm, rfl⟩
  have s2 := step_push (mo := .ins c []) (o := .ins C dx []) ok1 hx1
  have ok2 := ok1.push hx1 ro
  have s := s1.trans s2
  refine ⟨F, α ++ [x], M ++ [some (.ins c [])], .ref M.length :: ws, _, R, ok2, ⟨.ref x, vs, rfl, ⟨x, ?_, rfl⟩, r.step s⟩, hs, ?_, ?_⟩
  · rw [← ok.len, List.getElem?_append_right (Nat.le_refl _), Nat.sub_self]; rfl
  · intro α' M' w v H' s' ok' rw' hq
    have hxa : α'[M.length]? = some x := by
      refine get_prefix s'.pre ?_
      rw [← ok.len, List.getElem?_append_right (Nat.le_refl _), Nat.sub_self]; rfl
    cases w with
    | ref i => exact (show False from hq).elim
    | d w => cases w with
      | non =>
        refine ⟨rw', ?_⟩
        replace hq : (if fr = true then (match frzW 4 M' (.ref M.length) with
          | some (x, M'') => Qd (.d x) M''
          | none => False) else Qd (.ref M.length) M') := ifB_iff.mp hq
        split at hq
        · split at hq
          · rename_i d M2 e
            obtain ⟨s3, ok3, r3⟩ := frzW_snd 4 M' (.ref M.length) d M2 (.ref x) ok' ⟨x, hxa, rfl⟩ e
            exact q α' M2 (.d d) _ H' ((s.trans s').trans s3) ok3 r3 hq
          · exact hq.elim
        · exact q α' M' (.ref M.length) _ H' (s.trans s') ok' ⟨x, hxa, rfl⟩ hq
      | _ => exact (show False from hq).elim
  · intro α' M' H' cls d c fs s' ok' rx hq
    exact xe α' M' H' cls d c fs (s.trans s') ok' rx hq
theorem c_new (g : Gd B sg lv N sc Wx X) {c : Str} {bs : List Bool} {es : List Expr} {p : Pos} {wes : List WE} {sp : Spec} (hsp : sg.nw c wes.length = some sp) (hx : gloB sc c = true) (hn : nmB c = true) (he : PEL X B Wx es wes) (hp : es.all plainX = true) :
    PE X (.Call (.Name c p) es [] pos) (lE B Wx (lP sg wes (.new c bs))) := by
  obtain ⟨C, f, fd, ps, k, dvs, ds, dws, sp0, fr, hm, Mk', F, hk, hb, hd, hdw, hi⟩ := (g.env.nw c _ sp hsp).ex
  have F' := g.fn F
  have main : ∀ σ H Q, lE B Wx (lP sg wes (.new c bs)) σ H Q → tMakeSD C (spOf B sp0) dvs (fun σ cls d H => Wx cls d σ H) (lA B Wx (wAs wes)) σ H Q := fun σ H Q h =>
    lE_alln (k := fun ws M' Q R => wP sg (.new c bs) ws M' Q R) h fun α M ws vs H' Qd R ok rw hl hk q x => by
      replace hk : lendO (sg.nw c ws.length) bs ws M Qd R := hk
      rw [hl, hsp] at hk
      exact fun z dz hz hdz hne => new_snd hm (spOf_dws hdw hi (lendW_snd ok rw hk q x.e)) hz hdz hne
  have hm' : X.mg c = some (.ref C) := by rw [g.emg]; exact hm
  have mk' : Mk X.K C f := by rw [g.eK]; exact Mk'
  have hb' : L2.Binds X.K fd ps ds := by rw [g.eK]; exact hb
  cases es with
  | nil =>
    cases wes with
    | nil =>
      refine PE.imp (pe_makeSD0 mk' F' (g.room.mono hk) (g.glo c hx) hm' hb' hd g.px (dbg_of hn)) fun σ H Q h => ?_
      obtain ⟨α, Γ, M, Qd, R, ok, va, hw, q, x⟩ := main σ H Q h
      exact q α M [] [] H (Step.refl _ _ _) ok rfl hw
    | cons w ws => exact he.elim
  | cons e es =>
    have hp2 := hp
    rw [List.all_cons, Bool.and_eq_true] at hp2
    exact PE.imp (pe_makeSD mk' F' (g.room.mono hk) (g.glo c hx) hm' hb' hd g.px (pa_of he hp) (dbg_of hn) (star_cons hp) (star_any hp2.2)) main
theorem clsOf_snd {m c : Str} {w : W} {v : V} (ok : Ok B α M H) (r : RepW B α M H w v) (h : clsOf M m w = some c) : ∃ a C dx fs, v = .ref a ∧ B.mg c = some (.ref C) ∧ H a = some (.ins C dx fs) ∧ fs.lookup m = none := by
  unfold clsOf at h
  split at h
  · rename_i c' fs
    obtain ⟨a, C, dx, vs, rfl, h1, _, hm, h2⟩ := r
    split at h
    · rename_i e
      cases h
      exact ⟨a, C, dx, vs, rfl, hm, h1, RepF.miss h2 e⟩
    · cases h
  · rename_i i
    obtain ⟨a, hα, rfl⟩ := r
    split at h
    · rename_i c' fs em
      obtain ⟨o, ho, C, dx, vs, rfl, hm, h2⟩ := ok.obj i _ a em hα
      split at h
      · rename_i e
        cases h
        exact ⟨a, C, dx, vs, rfl, hm, ho, RepKW.miss h2 e⟩
      · cases h
    · cases h
  · cases h
theorem c_mt (g : Gd B sg lv N sc Wx X) {m : Str} {bs : List Bool} {o : Expr} {es : List Expr} {apos : Pos} {eo : Ex} {xs : List Ex} (hs : notSuper o = true) (hln : (apos.endLine == pos.line) = true) (hp : es.all plainX = true) (hle : es.length < 28)
    (ho : PE X o (lE B Wx (wE sg eo))) (he : PEL X B Wx es (xs.map (wE sg))) : PE X (.Call (.Attribute o m apos) es [] pos) (lE B Wx (wE sg (.mt m bs eo xs))) := by
  have main : ∀ σ H Q, lE B Wx (wE sg (.mt m bs eo xs)) σ H Q → tMethD X (L2.CX X.prog X.w) lv m (fun σ cls d H => Wx cls d σ H) (lE B Wx (wE sg eo)) (lA B Wx (wAs (xs.map (wE sg)))) σ H Q := fun σ H Q ⟨α, Γ, M, Qd, R, ok, va, hw, q, x⟩ => by
    simp only [wE] at hw
    refine ⟨α, Γ, M, _, R, ok, va, hw, fun α1 M1 w v H1 s1 ok1 r1 h1 => ?_, x⟩
    dsimp only at h1 ⊢
    split at h1
    · rename_i c ec
      obtain ⟨a, C, dx, fs, rfl, hm, ha, hl⟩ := clsOf_snd ok1 r1 ec
      obtain ⟨h0, h1⟩ := h1
      obtain ⟨sp, hsp⟩ := Option.isSome_iff_exists.mp h0
      obtain ⟨C', f, fd, ps, k, dvs, ds, dws, sp0, hm2, cl, me, F, hk, hb, hd, hdw, hi⟩ := (g.env.me c m _ sp hsp).ex
      rw [hm] at hm2
      cases hm2
      refine ⟨a, C, dx, fs, f, fd, ps, k, dvs, ds, _, rfl, ha, hl, g.eK ▸ cl, g.eK ▸ me, g.fn F, hk, g.eK ▸ hb, hd, ?_⟩
      rw [wEs_eq, wAs_len] at h1
      refine ⟨α1, Γ, M1, _, R, ok1, va.step s1, h1, fun α2 M2 ws vs H2 s2 ok2 r2 h2 => ?_, x.step s1⟩
      dsimp only at h2
      split at h2
      · rename_i hlen
        rw [hlen, List.length_map, hsp] at h2
        exact spOf_dws (vs := .ref a :: vs) hdw hi (lendW_snd (ws := w :: ws) ok2 ⟨.ref a, vs, rfl, r1.step s2, r2⟩ h2 (q.step (s1.trans s2)) (x.step (s1.trans s2)).e)
      · exact h2.elim
    · exact h1.elim
  cases es with
  | nil =>
    cases xs with
    | nil =>
      refine PE.imp (pe_methD0 ho g.room g.px hs hln) fun σ H Q h => ?_
      obtain ⟨α, Γ, M, Qd, R, ok, va, hw, q, x⟩ := main σ H Q h
      refine ⟨α, Γ, M, Qd, R, ok, va, hw, fun α1 M1 w v H1 s1 ok1 r1 h1 => ?_, x⟩
      obtain ⟨a, C, dx, fs, f, fd, ps, k, dvs, ds, sp, h1, h2, h3, h4, h5, h6, h7, h8, h9, α, Γ, M, Qd, R, ok, va, hw, q, x⟩ := q α1 M1 w v H1 s1 ok1 r1 h1
      exact ⟨a, C, dx, fs, f, fd, ps, k, dvs, ds, sp, h1, h2, h3, h4, h5, h6, h7, h8, h9, q α M [] [] H1 (Step.refl _ _ _) ok rfl hw⟩
    | cons w ws => exact he.elim
  | cons e es => exact PE.imp (pe_methD ho g.room g.px (pa_of he hp) hs hln hp hle) main
end
end DL

/-! DL16: isinstance; dict displays; methods of built-in types. -/
namespace DL
open PySem PySem.Spec L2 PyProof.Rows
section
variable {B : Bs} {sg : Sg} {lv : Nat} {N : List Str} {sc : Scope} {Wx : WX} {X : Cx} {σ : L2.St} {α : List Addr} {M : MM} {H : Hp} {Q : VK} {pos : Pos}
theorem tyD_rep {x : D} {v : V} {t : String} (r : RepV B (Lv B α M) H x v) (e : tyD x = some t) : TyX B.K H v (.type t) := by
  cases x <;> cases e
  · cases r; exact .base .non
  · cases r; exact .base (.bl _)
  · cases r; exact .base (.int _)
  · obtain ⟨rfl, _⟩ := r; exact .base (.str _)
  · obtain ⟨a, vs, rfl, h, _⟩ := r; exact .base (.lst h)
  · have r' : Rep B _ _ (.tup _) v := r
    obtain ⟨a, vs, rfl, h, _⟩ := r'; exact .base (.tup h)
  · have r' : Rep B _ _ (.tupK _) v := r
    obtain ⟨a, vs, rfl, ⟨o, its, n, h1, h2, _⟩, _⟩ := r'; exact .kTuple h1 h2
  · have r' : Rep B _ _ (.tupF _) v := r
    obtain ⟨a, vs, o, rfl, h, _⟩ := r'; exact .fTuple h
  · obtain ⟨a, vs, rfl, h, _⟩ := r
    rcases h with h | ⟨o, h⟩
    · exact .base (.dK h)
    · exact .fDict h
theorem isi_boot {T : String} (h : T ∈ isiTs) : bootBuiltins (Str.ofString T) = some (.type T) ∧ Str.ofString T ∈ DL.bu ∧ (Str.ofString T) ≠ "__name__" ∧ ((Str.ofString T) == ("__debug__" : Str)) = false := by
  unfold isiTs at h
  simp only [List.mem_cons, List.not_mem_nil, or_false] at h
  rcases h with rfl | rfl | rfl | rfl | rfl | rfl <;> decide +kernel
theorem c_isi (g : Gw B sg lv N sc X) {T : String} {a : Expr} {p p2 : Pos} {wa : WE} (hx : gloB sc "isinstance" = true) (hT : T ∈ isiTs) (hy : gloB sc (Str.ofString T) = true) (ha : PE X a (lE B Wx wa)) (hp : plainX a = true) :
    PE X (.Call (.Name "isinstance" p) [a, .Name (Str.ofString T) p2] [] pos) (lE B Wx (lP sg [wa] (.isi T))) := by
  obtain ⟨h1, h2, h3, h4⟩ := isi_boot hT
  have hp2 : ([a, .Name (Str.ofString T) p2] : List Expr).all plainX = true := by rw [List.all_cons, hp]; rfl
  have hb : PE X (.Name (Str.ofString T) p2) (tC (.ty T)) := pe_bltn (g.glo _ hy) (g.not h2) h1 rfl h3 h4
  refine PE.imp (pe_callB call_isi (g.glo _ hx) (g.not (by decide)) (by decide +kernel) (pa_cons ha (pa_cons hb pa_nil (star_cons (by simp [plainX]))) (star_cons hp2)) (by decide) (by decide) (star_cons hp2) (star_any (by simp [plainX]))) fun σ H Q h => ?_
  refine lE_one (K := fun x H1 => rIsi X.K [x, .ty T] H1 Q) (k := fun ws M' Q R => wP sg (.isi T) ws M' Q R) h fun α M x v H' Qd R ok rx hk q _ => ?_
  obtain ⟨p, e, h⟩ := ap1_elim hk
  have rv := view ok e rx
  unfold isiD at h
  split at h
  · rename_i t et
    split at h
    · rename_i b eb
      rw [g.eK]
      exact ⟨v, .ty T, .type t, .type T, b, rfl, .ty T, tyD_rep rv et, kit_ty eb, q.val ok (x := .bl _) rfl h⟩
    · exact h.elim
  · exact h.elim
/-! ### dict displays -/
theorem c_dnT (g : Gd B sg lv N sc Wx X) {m : Bool} : PE X (.Dict [] [] pos) (lE B Wx (lP sg [] (.dnT m))) := by
  refine PE.imp pe_dnewT fun σ H Q ⟨α, Γ, M, Qd, R, ok, va, hw, q, x⟩ p hp => ?_
  exact q.alc ok (mo := .dctT []) (x := .dctT []) ⟨[], rfl, rfl⟩ hp ⟨p, [], rfl, .inl upd_same, ok.notLive hp, rfl⟩ hw
theorem key_pe {e : Option Expr} {k : Key} (h : keyE e = some k) : ∃ y, e = some y ∧ PE X y (tC (kV k)) := by
  unfold keyE at h
  split at h
  · cases h; exact ⟨_, rfl, pe_str⟩
  · cases h; exact ⟨_, rfl, pe_int⟩
  · cases h
def trsOf (B : Bs) (Wx : WX) (ks : List Key) (wes : List WE) : List (TE × TE) := (ks.zip wes).map fun q => (tC (kV q.1), lE B Wx q.2)
theorem pps_of : ∀ {keys : List (Option Expr)} {vals : List Expr} {ks : List Key} {wes : List WE}, keys.map keyE = ks.map some → keys.length = vals.length → PEL X B Wx vals wes → PPs X pos keys vals (trsOf B Wx ks wes)
  | [], [], [], [], _, _, _ => pps_nil
  | k :: keys, v :: vals, q :: ks, w :: wes, h, hl, he => by
    rw [List.map_cons, List.map_cons, List.cons.injEq] at h
    obtain ⟨y, rfl, hy⟩ := key_pe (X := X) h.1
    exact pps_cons hy he.1 (pps_of h.2 (by simpa using hl) he.2)
  | [], _ :: _, _, _, _, hl, _ => by cases hl
  | _ :: _, [], _, _, _, hl, _ => by cases hl
  | [], [], _ :: _, _, h, _, _ => by cases h
  | _ :: _, _ :: _, [], _, h, _, _ => by cases h
  | [], [], [], _ :: _, _, _, he => he.elim
  | _ :: _, _ :: _, _ :: _, [], _, _, he => he.elim
theorem pairs_wish : ∀ {ks : List Key} {wes : List WE} {H : Hp} {K : List (V × V) → Hp → Prop}, ks.length = wes.length → lA B Wx (wAs wes) σ H (fun vs H' => vs.length = ks.length → K ((ks.zip vs).map fun q => (kV q.1, q.2)) H') → tPairs (trsOf B Wx ks wes) σ H K
  | [], [], H, K, _, ⟨α, Γ, M, Qd, R, ok, va, hw, q, x⟩ => q α M [] [] H (Step.refl _ _ _) ok rfl hw rfl
  | k :: ks, w :: wes, H, K, hl, ⟨α, Γ, M, Qd, R, ok, va, hw, q, x⟩ => by
    show lE B Wx w σ H fun y H2 => tPairs (trsOf B Wx ks wes) σ H2 fun ps H3 => K ((kV k, y) :: ps) H3
    refine ⟨α, Γ, M, _, R, ok, va, hw, fun α1 M1 y v H1 s1 ok1 r1 h1 => ?_, x⟩
    refine pairs_wish (by simpa using hl) ⟨α1, Γ, M1, _, R, ok1, va.step s1, h1, fun α2 M2 xs vs H2 s2 ok2 r2 h2 hlen => ?_, x.step s1⟩
    exact q α2 M2 (y :: xs) (v :: vs) H2 (s1.trans s2) ok2 ⟨v, vs, rfl, r1.step s2, r2⟩ h2 (by simp [hlen])
  | [], _ :: _, _, _, hl, _ => by cases hl
  | _ :: _, [], _, _, hl, _ => by cases hl
theorem mergeK_app : ∀ (more kvs : List (Key × V)), (kvs.map (·.1) ++ more.map (·.1)).Nodup → mergeK kvs more = kvs ++ more
  | [], kvs, _ => by simp [mergeK]
  | (k, v) :: r, kvs, nd => by
    show mergeK (putK kvs k v) r = _
    have hn : valV kvs k = none := by
      unfold valV
      rw [Option.map_eq_none_iff, List.find?_eq_none]
      intro q hq
      simp only [decide_eq_true_eq]
      intro e
      rw [List.nodup_append] at nd
      exact nd.2.2 q.1 (List.mem_map.mpr ⟨q, hq, rfl⟩) k (by simp) e
    rw [putK_new v hn, mergeK_app r (kvs ++ [(k, v)]) (by simpa using nd), List.append_assoc]
    rfl
theorem repK_zip : ∀ {ks : List Key} {ds : List D} {vs : List V}, RepL B (Lv B α M) H ds vs → RepK B (Lv B α M) H (ks.zip ds) (ks.zip vs)
  | [], _, _, _ => by simp [RepK]
  | _ :: _, [], _, h => by cases h; rfl
  | k :: ks, d :: ds, _, h => by
    obtain ⟨v, s, rfl, h1, h2⟩ := h
    exact ⟨v, ks.zip s, rfl, h1, repK_zip h2⟩
theorem repKW_zip : ∀ {ks : List Key} {ws : List W} {vs : List V}, RepWs B α M H ws vs → RepKW B α M H (ks.zip ws) (ks.zip vs)
  | [], _, _, _ => by simp [RepKW]
  | _ :: _, [], _, h => by cases h; rfl
  | k :: ks, d :: ds, _, h => by
    obtain ⟨v, s, rfl, h1, h2⟩ := h
    exact ⟨v, ks.zip s, rfl, h1, repKW_zip h2⟩
theorem c_dsp (g : Gd B sg lv N sc Wx X) {ks : List Key} {m : Bool} {keys : List (Option Expr)} {vals : List Expr} {es : List Ex} (hk : keys.map keyE = ks.map some ∧ keys.length = vals.length) (he : PEL X B Wx vals (es.map (wE sg))) :
    PE X (.Dict keys vals pos) (lE B Wx (wE sg (.dsp ks m es))) := by
  have hlk : keys.length = ks.length := by have := congrArg List.length hk.1; simpa using this
  -- what is wished behind the values
  have fin : ∀ (p : Addr) (α : List Addr) (Γ : GG) (M : MM) (Qd : W → MM → Prop) (R : XR) (σ : L2.St) (H : Hp) (Q : VK), H p = none → Ok B α M H → Vars B α M H Γ σ → wE sg (.dsp ks m es) Γ M Qd R → QOk B α M H Qd Q → XOk B Wx σ α M H R →
      lA B Wx (wAs (es.map (wE sg))) σ (upd H p (.dK [])) (fun vs H2 => vs.length = ks.length → H2 p = some (.dK []) ∧ ks.length ≤ 15 ∧ Q (.ref p) (upd H2 p (.dK (ks.zip vs)))) := by
    intro p α Γ M Qd R σ H Q hp ok va hw q x
    simp only [wE] at hw
    obtain ⟨⟨hl, h15, nd⟩, hw⟩ := hw
    rw [wEs_eq] at hw
    have s0 := step_push (o := .dK []) (mo := .dct []) ok hp
    have ok0 := ok.push (mo := .dct []) (o := .dK []) hp ⟨[], rfl, rfl⟩
    refine ⟨α ++ [p], Γ, M ++ [some (.dct [])], _, R, ok0, va.step s0, hw, fun α1 M1 ws vs H1 s1 ok1 r1 h1 hlen => ?_, x.step s0⟩
    obtain ⟨em, h1⟩ := h1
    have hα : α1[M.length]? = some p := by
      refine get_prefix s1.pre ?_
      rw [← ok.len, List.getElem?_append_right (Nat.le_refl _), Nat.sub_self]; rfl
    obtain ⟨o, ho, vs0, rfl, hv0⟩ := ok1.obj _ _ p em hα
    cases hv0
    refine ⟨ho, h15, ?_⟩
    have s := s0.trans s1
    split at h1
    · rename_i ds e
      have r := allD_rep e r1
      have ro : RepO B α1 M1 H1 (.dct (ks.zip ds)) (.dK (ks.zip vs)) := ⟨_, rfl, repK_zip r⟩
      have s2 := step_write (mo' := .dct (ks.zip ds)) (o := .dK (ks.zip vs)) ok1 em hα
      have ok2 := ok1.write em hα ro
      rw [ifB_iff] at h1
      split at h1
      · exact q α1 _ (.ref M.length) _ _ (s.trans s2) ok2 ⟨p, hα, rfl⟩ h1
      · have s3 := step_kill (α := α1) (M := M1.set M.length (some (.dct (ks.zip ds)))) (H := upd H1 p (.dK (ks.zip vs))) M.length
        have ok3 := ok2.kill M.length
        rw [List.set_set] at s3 ok3
        refine q α1 _ (.d (.dct (ks.zip ds))) _ _ ((s.trans s2).trans s3) ok3 ⟨p, _, rfl, .inl upd_same, fun l => ?_, ?_⟩ h1
        · rcases l with l | l
          · exact ok1.sep p (List.mem_of_getElem? hα) l
          · exact dead_kill ok1.nd hα l
        · exact RepK.mono (s2.trans s3).kept _ _ (repK_zip r)
    · have ro : RepO B α1 M1 H1 (.dcw (ks.zip ws)) (.dK (ks.zip vs)) := ⟨_, rfl, repKW_zip r1⟩
      exact q α1 _ (.ref M.length) _ _ (s.trans (step_write (mo' := .dcw (ks.zip ws)) ok1 em hα)) (ok1.write em hα ro) ⟨p, hα, rfl⟩ h1
  cases keys with
  | nil =>
    cases vals with
    | cons v vs => exact absurd hk.2 (by simp)
    | nil =>
      cases ks with
      | cons k ks => exact absurd hlk (by simp)
      | nil =>
        cases es with
        | cons e es => exact he.elim
        | nil =>
          refine PE.imp pe_dnewK fun σ H Q ⟨α, Γ, M, Qd, R, ok, va, hw, q, x⟩ p hp => ?_
          obtain ⟨α1, Γ1, M1, Qd1, R1, ok1, va1, hw1, q1, x1⟩ := fin p α Γ M Qd R σ H Q hp ok va hw q x
          have h := (q1 α1 M1 [] [] _ (Step.refl _ _ _) ok1 rfl hw1 rfl).2.2
          have e : upd (upd H p (.dK [])) p (.dK (([] : List Key).zip ([] : List V))) = upd H p (.dK []) := by
            funext a
            by_cases c : a = p
            · subst c; rw [upd_same, upd_same]; rfl
            · rw [upd_ne c]
          rw [e] at h
          exact h
  | cons k keys =>
    by_cases h15 : (k :: keys).length ≤ 15
    · have hh : ((k :: keys).all (·.isSome)) = true := by
        rw [List.all_eq_true]
        intro y hy
        have : keyE y ∈ ks.map some := hk.1 ▸ List.mem_map.mpr ⟨y, hy, rfl⟩
        obtain ⟨z, _, hz⟩ := List.mem_map.mp this
        obtain ⟨y', rfl, _⟩ := key_pe (X := X) hz.symm
        rfl
      refine PE.imp (pe_disp (pps_of hk.1 hk.2 he) hh hk.2 (by simp) h15) fun σ H Q ⟨α, Γ, M, Qd, R, ok, va, hw, q, x⟩ p hp => ?_
      have hw' := hw
      simp only [wE] at hw'
      obtain ⟨⟨hl, _, nd⟩, _⟩ := hw'
      refine pairs_wish (by rw [List.length_map]; exact hl) ?_
      obtain ⟨α1, Γ1, M1, Qd1, R1, ok1, va1, hw1, q1, x1⟩ := fin p α Γ M Qd R σ H Q hp ok va hw q x
      refine ⟨α1, Γ1, M1, Qd1, R1, ok1, va1, hw1, fun α2 M2 ws vs H2 s2 ok2 r2 h2 hlen => ?_, x1⟩
      obtain ⟨h3, h4, h5⟩ := q1 α2 M2 ws vs H2 s2 ok2 r2 h2 hlen
      refine ⟨h3, ks.zip vs, rfl, by rw [List.length_zip]; omega, ?_⟩
      rw [mergeK_app]
      · exact h5
      · simp only [List.map_nil, List.nil_append]
        rw [List.map_fst_zip (by omega)]
        exact nd
    · refine ⟨fun pins s σ H Q I ⟨α, Γ, M, Qd, R, ok, va, hw, q, x⟩ => ?_⟩
      simp only [wE] at hw
      exact absurd hw.1.2.1 (by omega)
theorem c_dk1 {k v : Expr} {ek ev : Ex} {m : Bool} (hk : PE X k (lE B Wx (wE sg ek))) (hv : PE X v (lE B Wx (wE sg ev))) : PE X (.Dict [some k] [v] pos) (lE B Wx (wE sg (.dk1 m ek ev))) := by
  refine PE.imp (pe_disp (pps_cons hk hv pps_nil) rfl rfl (by simp) (by show 1 ≤ 15; omega)) fun σ H Q ⟨α, Γ, M, Qd, R, ok, va, hw, q, x⟩ p hp => ?_
  simp only [wE] at hw
  have s0 := step_push (o := .dK []) (mo := .dct []) ok hp
  have ok0 := ok.push (mo := .dct []) (o := .dK []) hp ⟨[], rfl, rfl⟩
  refine ⟨α ++ [p], Γ, M ++ [some (.dct [])], _, R, ok0, va.step s0, hw, fun α1 M1 a va1 H1 s1 ok1 r1 h1 => ?_, x.step s0⟩
  refine ⟨α1, Γ, M1, _, R, ok1, (va.step s0).step s1, h1, fun α2 M2 b vb1 H2 s2 ok2 r2 h2 => ?_, (x.step s0).step s1⟩
  obtain ⟨em, h2⟩ := h2
  have s12 := s1.trans s2
  have hα : α2[M.length]? = some p := by
    refine get_prefix s12.pre ?_
    rw [← ok.len, List.getElem?_append_right (Nat.le_refl _), Nat.sub_self]; rfl
  obtain ⟨o, ho, vs0, rfl, hv0⟩ := ok2.obj _ _ p em hα
  cases hv0
  have s := s0.trans s12
  unfold dk1W at h2
  split at h2
  · rename_i kd
    split at h2
    · rename_i y ey
      have rk : Rep B (Lv B α2 M2) H2 kd va1 := RepW.step s2 r1
      have e2 := keyD_rep ey rk
      subst e2
      refine ⟨ho, [(y, vb1)], rfl, by show 1 ≤ 15; omega, ?_⟩
      rw [show mergeK [] [(y, vb1)] = [(y, vb1)] from rfl]
      split at h2
      · rename_i d
        have ro : RepO B α2 M2 H2 (.dct [(y, d)]) (.dK [(y, vb1)]) := ⟨_, rfl, vb1, [], rfl, r2, rfl⟩
        have s3 := step_write (mo' := .dct [(y, d)]) (o := .dK [(y, vb1)]) ok2 em hα
        have ok3 := ok2.write em hα ro
        rw [ifB_iff] at h2
        split at h2
        · exact q α2 _ (.ref M.length) _ _ (s.trans s3) ok3 ⟨p, hα, rfl⟩ h2
        · have s4 := step_kill (α := α2) (M := M2.set M.length (some (.dct [(y, d)]))) (H := upd H2 p (.dK [(y, vb1)])) M.length
          have ok4 := ok3.kill M.length
          rw [List.set_set] at s4 ok4
          refine q α2 _ (.d (.dct [(y, d)])) _ _ ((s.trans s3).trans s4) ok4 ⟨p, _, rfl, .inl upd_same, fun l => ?_, ?_⟩ h2
          · rcases l with l | l
            · exact ok2.sep p (List.mem_of_getElem? hα) l
            · exact dead_kill ok2.nd hα l
          · exact RepK.mono (s3.trans s4).kept _ _ (show RepK B (Lv B α2 M2) H2 [(y, d)] [(y, vb1)] from ⟨vb1, [], rfl, r2, rfl⟩)
      · rename_i j
        have ro : RepO B α2 M2 H2 (.dcw [(y, .ref j)]) (.dK [(y, vb1)]) := ⟨_, rfl, vb1, [], rfl, r2, rfl⟩
        exact q α2 _ (.ref M.length) _ _ (s.trans (step_write (mo' := .dcw [(y, .ref j)]) ok2 em hα)) (ok2.write em hα ro) ⟨p, hα, rfl⟩ h2
    · exact h2.elim
  · exact h2.elim
/-! ### methods of built-in types -/
theorem c_me (g : Gd B sg lv N sc Wx X) {f : Bm} {m : Bool} {o : Expr} {es : List Expr} {apos : Pos} {eo : Ex} {xs : List Ex} (hf : f ≠ .get) (hs : notSuper o = true) (hln : (apos.endLine == pos.line) = true) (hp : es.all plainX = true) (hle : es.length < 28)
    (ho : PE X o (lE B Wx (wE sg eo))) (he : PEL X B Wx es (xs.map (wE sg))) : PE X (.Call (.Attribute o (meN f) apos) es [] pos) (lE B Wx (wE sg (.me f m eo xs))) := by
  obtain ⟨T, id, r, row, hty, hr⟩ := me_snd (X := X) (B := B) g.eK f m hf
  have main : ∀ σ H Q, lE B Wx (wE sg (.me f m eo xs)) σ H Q → tMe X (meN f) (lE B Wx (wE sg eo)) (lA B Wx (wAs (xs.map (wE sg)))) σ H Q := fun σ H Q ⟨α, Γ, M, Qd, R, ok, va, hw, q, x⟩ => by
    simp only [wE] at hw
    refine ⟨α, Γ, M, _, R, ok, va, hw, fun α1 M1 w v H1 s1 ok1 r1 h1 => ?_, x⟩
    obtain ⟨h0, h1⟩ := meK_iff h1
    rw [wEs_eq] at h1
    exact ⟨T, id, r, row, hty α1 M1 H1 w v ok1 r1 h0, α1, Γ, M1, _, R, ok1, va.step s1, h1, fun α2 M2 ws vs H2 s2 ok2 r2 h2 => hr α2 M2 H2 Qd Q w v ws vs ok2 (r1.step s2) r2 h2 (q.step (s1.trans s2)), x.step s1⟩
  cases es with
  | nil =>
    cases xs with
    | nil =>
      refine PE.imp (pe_me0 ho (attrBase hs) hln) fun σ H Q h => ?_
      obtain ⟨α, Γ, M, Qd, R, ok, va, hw, q, x⟩ := main σ H Q h
      refine ⟨α, Γ, M, Qd, R, ok, va, hw, fun α1 M1 w v H1 s1 ok1 r1 h1 => ?_, x⟩
      obtain ⟨T, id, r, row, ty, α, Γ, M, Qd, R, ok, va, hw, q, x⟩ := q α1 M1 w v H1 s1 ok1 r1 h1
      exact ⟨T, id, r, row, ty, q α M [] [] H1 (Step.refl _ _ _) ok rfl hw⟩
    | cons w ws => exact he.elim
  | cons e es => exact PE.imp (pe_me ho (pa_of he hp) (attrBase hs) hln (star_of hp) hle) main
end
end DL

/-! DL17: targets, what is walked over, list comprehensions. -/
namespace DL
open PySem PySem.Spec L2 PyProof.Rows
/-! ### targets -/
def gsOf : List Nat → TGs
  | [] => gNil
  | i :: is => gCons (gName i) (gsOf is)
def gT (K : PySem.W.Frag) (tg : Tg) : TG := match tg with
  | .n i => gName i
  | .t is => gTup K is.length (gsOf is)
def tgIn (tg : Tg) (own : List Nat) : Bool := match tg with
  | .n i => decide (i ∈ own)
  | .t is => is.all fun i => decide (i ∈ own)
section
variable {B : Bs} {sg : Sg} {lv : Nat} {N : List Str} {sc : Scope} {Wx : WX} {X : Cx} {σ : L2.St} {α : List Addr} {M : MM} {H : Hp} {Q : VK} {pos : Pos}
theorem okNms_each {env : Env} : ∀ {is : List Nat} {es : List Expr}, okNms N sc is es = true → assignEach es env = (es.map fun e => (false, assign e env)) ∧ es.length = is.length
  | [], [], _ => ⟨by unfold assignEach; rfl, rfl⟩
  | i :: is, e :: es, h => by
    unfold okNms at h
    rw [Bool.and_eq_true] at h
    obtain ⟨h1, h2⟩ := okNms_each (env := env) h.2
    have h0 := h.1
    cases e <;> first | (refine ⟨?_, by rw [List.length_cons, List.length_cons, h2]⟩; unfold assignEach; rw [h1]; rfl) | (unfold okNm at h0; cases h0)
  | [], _ :: _, h => by unfold okNms at h; cases h
  | _ :: _, [], h => by unfold okNms at h; cases h
theorem pg_nm (g : Gd B sg lv N sc Wx X) {i : Nat} {e : Expr} (h : okNm N sc i e = true) : PG X e (gName i) := by
  unfold okNm at h
  split at h
  · rw [Bool.and_eq_true] at h
    obtain ⟨h1, h2⟩ := g.asg _ h.2
    exact pg_name g.nd (by rw [g.eN]; exact of_decide_eq_true h.1) h1 h2
  · cases h
theorem pgs_of (g : Gd B sg lv N sc Wx X) : ∀ {is : List Nat} {es : List Expr}, okNms N sc is es = true → PGs X es (gsOf is)
  | [], [], _ => pgs_nil
  | i :: is, e :: es, h => by
    have h' := h
    unfold okNms at h
    rw [Bool.and_eq_true] at h
    refine pgs_cons (pg_nm g h.1) (pgs_of g h.2) ?_
    rw [(okNms_each h').1, (okNms_each h.2).1]
    rfl
  | [], _ :: _, h => by unfold okNms at h; cases h
  | _ :: _, [], h => by unfold okNms at h; cases h
theorem pg_of (g : Gd B sg lv N sc Wx X) {tg : Tg} {e : Expr} (h : okTg N sc tg e = true) : PG X e (gT X.K tg) := by
  cases tg with
  | n i => exact pg_nm g h
  | t is =>
    unfold okTg at h
    dsimp only at h
    split at h
    · obtain ⟨h1, h2⟩ := okNms_each (env := X.env) h
      refine pg_tup g.calm (pgs_of g h) (by rw [h1, List.length_map, h2]) ?_
      rw [h1]
      rw [List.findIdx?_eq_none_iff]
      intro x hx
      obtain ⟨y, _, rfl⟩ := List.mem_map.mp hx
      rfl
    · cases h
theorem wipe_get {σ : L2.St} : ∀ {vs : List Nat} {j : Nat}, (wipe σ vs)[j]? = if j ∈ vs ∧ j < σ.length then some none else σ[j]?
  | [], j => by simp [wipe]
  | v :: vs, j => by
    show ((wipe σ vs).set v none)[j]? = _
    by_cases c : v = j
    · subst c
      by_cases l : v < σ.length
      · rw [List.getElem?_set_self (by rw [wipe_length]; exact l), if_pos ⟨List.mem_cons_self, l⟩]
      · rw [List.getElem?_eq_none (by rw [List.length_set, wipe_length]; omega), if_neg (fun h => l h.2), List.getElem?_eq_none (by omega)]
    · rw [List.getElem?_set_ne c, wipe_get]
      have : (j ∈ v :: vs ∧ j < σ.length) ↔ (j ∈ vs ∧ j < σ.length) := by
        rw [List.mem_cons]
        exact ⟨fun h => ⟨h.1.resolve_left fun e => c e.symm, h.2⟩, fun h => ⟨.inr h.1, h.2⟩⟩
      simp only [this]
theorem wipe_set {σ : L2.St} {own : List Nat} {i : Nat} {u : Option V} (h : i ∈ own) : wipe (σ.set i u) own = wipe σ own := by
  apply List.ext_getElem?
  intro j
  rw [wipe_get, wipe_get, List.length_set]
  by_cases c : j ∈ own ∧ j < σ.length
  · rw [if_pos c, if_pos c]
  · rw [if_neg c, if_neg c]
    by_cases e : i = j
    · subst e
      rw [List.getElem?_eq_none (by rw [List.length_set]; exact Nat.le_of_not_lt fun l => c ⟨h, l⟩), List.getElem?_eq_none (Nat.le_of_not_lt fun l => c ⟨h, l⟩)]
    · rw [List.getElem?_set_ne e]
theorem wipe_wipe {σ : L2.St} {own : List Nat} : wipe (wipe σ own) own = wipe σ own := by
  apply List.ext_getElem?
  intro j
  rw [wipe_get, wipe_get, wipe_length]
  by_cases c : j ∈ own ∧ j < σ.length
  · rw [if_pos c, if_pos c]
  · rw [if_neg c, if_neg c]
theorem vars_wipe {Γ : GG} (va : Vars B α M H Γ σ) : ∀ own : List Nat, Vars B α M H (wipeG Γ own) (wipe σ own)
  | [] => va
  | v :: vs => (vars_wipe va vs).unset v none
theorem tgs_snd : ∀ {is : List Nat} {ds : List D} {vs : List V} {Γ Γ' : GG} {σ : L2.St} {K : L2.St → Hp → Prop}, Vars B α M H Γ σ → RepL B (Lv B α M) H ds vs → setAll Γ is (ds.map .d) = some Γ' →
    (∀ σ', Vars B α M H Γ' σ' → (∀ own, (is.all fun i => decide (i ∈ own)) = true → wipe σ' own = wipe σ own) → K σ' H) → vs.length = is.length ∧ gsOf is vs σ H K
  | [], [], _, Γ, Γ', σ, K, va, r, e, h => by
    cases r
    cases e
    exact ⟨rfl, rfl, h σ va fun _ _ => rfl⟩
  | i :: is, d :: ds, _, Γ, Γ', σ, K, va, r, e, h => by
    obtain ⟨v, s, rfl, h1, h2⟩ := r
    obtain ⟨h3, h4⟩ := tgs_snd (K := K) (va.set i (x := .d d) h1) h2 e fun σ' va' hw => h σ' va' fun own ho => by
      rw [List.all_cons, Bool.and_eq_true] at ho
      rw [hw own ho.2, wipe_set (of_decide_eq_true ho.1)]
    exact ⟨by rw [List.length_cons, List.length_cons, h3], v, s, rfl, h4⟩
  | [], _ :: _, _, _, _, _, _, _, _, e, _ => by cases e
  | _ :: _, [], _, _, _, _, _, _, _, e, _ => by cases e
theorem tg_snd (hK : X.K = B.K) {tg : Tg} {d : D} {v : V} {Γ : GG} {k : GG → Prop} {K : L2.St → Hp → Prop} (va : Vars B α M H Γ σ) (r : Rep B (Lv B α M) H d v) (h : tgW tg d Γ k)
    (f : ∀ Γ' σ', Vars B α M H Γ' σ' → k Γ' → (∀ own, tgIn tg own = true → wipe σ' own = wipe σ own) → K σ' H) : gT X.K tg v σ H K := by
  cases tg with
  | n i => exact f _ _ (va.set i (x := .d d) r) h fun own ho => wipe_set (of_decide_eq_true ho)
  | t is =>
    unfold tgW at h
    dsimp only at h
    rw [hK]
    cases d with
    | tup xs =>
      dsimp only at h
      obtain ⟨a, vs, rfl, h1, _, h2⟩ := r
      split at h
      · rename_i Γ' e
        obtain ⟨h3, h4⟩ := tgs_snd (K := K) va h2 e fun σ' va' hw => f Γ' σ' va' h hw
        exact ⟨a, vs, rfl, SqT.of h1, h3, h4⟩
      · exact h.elim
    | tupF xs =>
      dsimp only at h
      obtain ⟨a, vs, o, rfl, h1, _, _, h2⟩ := r
      split at h
      · rename_i Γ' e
        obtain ⟨h3, h4⟩ := tgs_snd (K := K) va h2 e fun σ' va' hw => f Γ' σ' va' h hw
        exact ⟨a, vs, rfl, SqT.frz h1, h3, h4⟩
      · exact h.elim
    | _ => exact h.elim
/-! ### what is walked over -/
/-- the walk J gives the items, as long as what was told stays so -/
def WalkD (B : Bs) (L : Addr → Prop) (H : Hp) (items : List D) (J : L2.It) : Prop :=
  ∃ (G : Hp → Prop) (Y : Nat → Hp → V → Hp → Prop), Walk J items.length G Y ∧ (∀ L' H', Kept L H L' H' → G H') ∧ ∀ L' H' i x H'', Kept L H L' H' → i < items.length → Y i H' x H'' → H'' = H' ∧ ∃ d, items[i]? = some d ∧ Rep B L' H' d x
def lI (B : Bs) (Wx : WX) (wes : List WE) (k : It) : TI := fun σ H R => ∃ (α : List Addr) (Γ : GG) (M : MM) (Qd : List D → MM → Prop) (Rx : XR), Ok B α M H ∧ Vars B α M H Γ σ ∧ wAs wes Γ M (fun ws M' => itW k ws fun items => Qd items M') Rx ∧
  (∀ α' M' H' items J, Step α M H α' M' H' → Ok B α' M' H' → WalkD B (Lv B α' M') H' items J → Qd items M' → R J H') ∧ XOk B Wx σ α M H Rx
def iSeqA (K : PySem.W.Frag) (tl : TE) : TI := fun σ H R => tl σ H fun x H1 => (∃ a, x = .ref a ∧ (∃ xs, SqL K H1 a xs) ∧ R (Itl K a) H1) ∨ (∃ a, x = .ref a ∧ (∃ xs, SqT K H1 a xs) ∧ R (Itt K a) H1) ∨ ∃ z, x = .str z ∧ R (Its z) H1
theorem pi_seqA {tg l : Expr} {tl : TE} (hl : PE X l tl) : PI X tg l (iSeqA X.K tl) := by
  refine ⟨fun pins s σ H R I h => ?_⟩
  refine thn (hl.run pins s σ H _ I h) fun v s1 ⟨x, H1, I1, r1, q1⟩ => ?_
  rcases q1 with ⟨a, e, ⟨xs, hq⟩, q⟩ | ⟨a, e, ⟨xs, hq⟩, q⟩ | ⟨z, e, q⟩
  · subst e
    cases r1
    obtain ⟨its, rv, p, hz⟩ := I1.list hq
    exact wpAny_pyIter_list p.isList (pi_one (tk := s1.toks) I1 _ (turn_list a _) ⟨_, Heap.get?_push_size _ rfl, rfl, rfl⟩ q)
  · subst e
    cases r1
    obtain ⟨its, rv, p, hz⟩ := I1.tuple hq
    exact wpAny_pyIter_tuple (show s1.heap.IsTuple a its.toArray from p) (pi_one (tk := s1.toks) I1 _ (turn_tuple a _) ⟨_, Heap.get?_push_size _ rfl, rfl, rfl⟩ q)
  · subst e
    obtain ⟨t, rfl⟩ := r1
    cases ha : z.cps.all (· < 128)
    · exact wpAny_pyIter_wide ha (pi_one (tk := s1.toks) I1 _ (turn_str _ z t "str_iterator" (.inr rfl)) ⟨_, Heap.get?_push_size _ rfl, rfl, rfl⟩ q)
    · exact wpAny_pyIter_ascii ha (pi_one (tk := s1.toks) I1 _ (turn_str _ z t "str_ascii_iterator" (.inl rfl)) ⟨_, Heap.get?_push_size _ rfl, rfl, rfl⟩ q)
theorem walkD_lst {L : Addr → Prop} {a : Addr} {xs : List D} {vs : List V} (h : H a = some (.lst vs)) (n : ¬ L a) (r : RepL B L H xs vs) : WalkD B L H xs (Itl B.K a) :=
  ⟨_, _, r.len ▸ walk_list, fun L' H' k => SqL.of (k a _ h n).1, fun L' H' i x H'' k hi y => by
    obtain ⟨rfl, y⟩ := y
    obtain ⟨d, e, rd⟩ := (RepL.mono k xs vs r).get2 y
    exact ⟨rfl, d, e, rd⟩⟩
theorem walkD_tup {L : Addr → Prop} {a : Addr} {xs : List D} {vs : List V} (h : ∀ L' H', Kept L H L' H' → SqT B.K H' a vs) (r : RepL B L H xs vs) : WalkD B L H xs (Itt B.K a) :=
  ⟨_, _, r.len ▸ walk_tup, h, fun L' H' i x H'' k hi y => by
    obtain ⟨rfl, y⟩ := y
    obtain ⟨d, e, rd⟩ := (RepL.mono k xs vs r).get2 y
    exact ⟨rfl, d, e, rd⟩⟩
theorem walkD_str {L : Addr → Prop} {z : Str} (h : z.cps.all (· < 0x110000) = true) : WalkD B L H (z.cps.toList.map fun n => .str ⟨#[n]⟩) (Its z) := by
  refine ⟨fun _ => True, fun i H v H' => H' = H ∧ ∃ c, z.cps[i]? = some c ∧ v = .str ⟨#[c]⟩, ?_, fun _ _ _ => trivial, fun L' H' i x H'' k hi y => ?_⟩
  · rw [List.length_map, Array.length_toList]; exact walk_str
  · obtain ⟨rfl, c, hc, rfl⟩ := y
    refine ⟨rfl, .str ⟨#[c]⟩, ?_, rfl, ?_⟩
    · rw [List.getElem?_map, Array.getElem?_toList, hc]; rfl
    · have := (tl_all.mp h) c (by rw [Array.mem_toList_iff]; exact Array.mem_of_getElem? hc)
      simpa using this
theorem walkD_rng {L : Addr → Prop} {lo : Int} {n : Nat} : WalkD B L H ((List.range n).map fun (i : Nat) => .int (lo + (i : Int))) (Itr lo n) := by
  refine ⟨fun _ => True, YFn fun i => .int (lo + i), ?_, fun _ _ _ => trivial, fun L' H' i x H'' k hi y => ?_⟩
  · rw [List.length_map, List.length_range]; exact walk_range
  · obtain ⟨rfl, rfl⟩ := y
    rw [List.length_map, List.length_range] at hi
    exact ⟨rfl, .int (lo + i), by rw [List.getElem?_map, List.getElem?_range hi]; rfl, rfl⟩
theorem tupK_sq {L : Addr → Prop} {a : Addr} {vs : List V} (h : KT B.K a vs) : ∀ L' H', Kept L H L' H' → SqT B.K H' a vs := fun _ _ _ => by
  obtain ⟨o, its, n, h1, h2, h3, h4, h5⟩ := h
  exact .inr ⟨o, its, n, h1, h2, h3, h4, h5⟩
theorem c_it (g : Gd B sg lv N sc Wx X) {tg iter : Expr} {k : It} {is : List Expr} {wes : List WE} (h : decIt sc k iter = some is) (he : PEL X B Wx is wes) (hp : is.all plainX = true) : PI X tg iter (lI B Wx wes k) := by
  cases k with
  | seq =>
    cases h
    cases wes with
    | nil => exact he.elim
    | cons w ws => cases ws with
      | cons w' ws => exact he.2.elim
      | nil =>
        have hi := pi_seqA (tg := tg) he.1
        refine ⟨fun pins s σ H R I ⟨α, Γ, M, Qd, Rx, ok, va, hw, q, x⟩ => hi.run pins s σ H R I ⟨α, Γ, M, _, Rx, ok, va, hw, fun α1 M1 y v H1 s1 ok1 r1 h1 => ?_, x⟩⟩
        rw [g.eK]
        replace h1 : itW .seq [y] fun items => Qd items M1 := h1
        cases y with
        | ref i => exact h1.elim
        | d y => cases y with
          | lst xs =>
            obtain ⟨a, vs, rfl, h2, h3, h4⟩ := r1
            exact .inl ⟨a, rfl, ⟨vs, SqL.of h2⟩, q α1 M1 H1 xs _ s1 ok1 (walkD_lst h2 h3 h4) h1⟩
          | tup xs =>
            obtain ⟨a, vs, rfl, h2, h3, h4⟩ := r1
            exact .inr (.inl ⟨a, rfl, ⟨vs, SqT.of h2⟩, q α1 M1 H1 xs _ s1 ok1 (walkD_tup (fun L' H' k => SqT.of (k a _ h2 h3).1) h4) h1⟩)
          | tupF xs =>
            obtain ⟨a, vs, o, rfl, h2, h5, h3, h4⟩ := r1
            exact .inr (.inl ⟨a, rfl, ⟨vs, SqT.frz h2⟩, q α1 M1 H1 xs _ s1 ok1 (walkD_tup (fun L' H' k => SqT.frz (k a _ h2 h3).1) h4) h1⟩)
          | tupK xs =>
            obtain ⟨a, vs, rfl, h2, h4⟩ := r1
            have sq := tupK_sq (L := Lv B α1 M1) (H := H1) h2
            exact .inr (.inl ⟨a, rfl, ⟨vs, sq _ _ (Kept.refl _ _)⟩, q α1 M1 H1 xs _ s1 ok1 (walkD_tup sq h4) h1⟩)
          | str z =>
            obtain ⟨rfl, hz⟩ := r1
            exact .inr (.inr ⟨z, rfl, q α1 M1 H1 _ _ s1 ok1 (walkD_str hz) h1⟩)
          | _ => exact h1.elim
  | rng =>
    have main : ∀ σ H R, lI B Wx wes .rng σ H R → lA B Wx (wAs wes) σ H fun vs H' => ∃ (α : List Addr) (M : MM) (ws : List W) (Q : List D → MM → Prop), ws.length = is.length ∧ RepWs B α M H' ws vs ∧ itW .rng ws (fun items => Q items M) ∧ ∀ items J, WalkD B (Lv B α M) H' items J → Q items M → R J H' := by
      intro σ H R ⟨α, Γ, M, Qd, Rx, ok, va, hw, q, x⟩
      rw [wAs_len] at hw
      refine ⟨α, Γ, M, _, Rx, ok, va, hw, fun α1 M1 ws vs H1 s1 ok1 r1 h1 => ?_, x⟩
      dsimp only at h1
      split at h1
      · rename_i hlen
        exact ⟨α1, M1, ws, Qd, by rw [hlen, he.len], r1, h1, fun items J w hq => q α1 M1 H1 items J s1 ok1 w hq⟩
      · exact h1.elim
    unfold decIt at h
    dsimp only at h
    split at h
    · split at h
      · rename_i hx
        cases h
        obtain ⟨rfl, hx⟩ := hx
        refine ⟨fun pins s σ H R I hw => (pi_range1 (tg := tg) (g.glo _ hx) (g.not (by decide)) (pa_of he hp) (star_of hp)).run pins s σ H R I ?_⟩
        obtain ⟨α, Γ, M, Qd, Rx, ok, va, hw, q, x⟩ := main σ H R hw
        refine ⟨α, Γ, M, Qd, Rx, ok, va, hw, fun α1 M1 ws vs H1 s1 ok1 r1 h1 => ?_, x⟩
        obtain ⟨α2, M2, ws2, Q2, hlen, r2, h2, q2⟩ := q α1 M1 ws vs H1 s1 ok1 r1 h1
        unfold itW at h2
        dsimp only at h2
        split at h2
        · obtain ⟨v, s, rfl, h3, rfl⟩ := r2
          cases h3
          exact ⟨_, rfl, h2.1.1, h2.1.2, q2 _ _ walkD_rng h2.2⟩
        · cases hlen
        · exact h2.elim
      · cases h
    · split at h
      · rename_i hx
        cases h
        obtain ⟨rfl, hx⟩ := hx
        refine ⟨fun pins s σ H R I hw => (pi_range2 (tg := tg) (g.glo _ hx) (g.not (by decide)) (pa_of he hp) (star_of hp) (star_of (by rw [List.all_cons, Bool.and_eq_true] at hp; exact hp.2))).run pins s σ H R I ?_⟩
        obtain ⟨α, Γ, M, Qd, Rx, ok, va, hw, q, x⟩ := main σ H R hw
        refine ⟨α, Γ, M, Qd, Rx, ok, va, hw, fun α1 M1 ws vs H1 s1 ok1 r1 h1 => ?_, x⟩
        obtain ⟨α2, M2, ws2, Q2, hlen, r2, h2, q2⟩ := q α1 M1 ws vs H1 s1 ok1 r1 h1
        unfold itW at h2
        dsimp only at h2
        split at h2
        · cases hlen
        · obtain ⟨v, s, rfl, h3, v2, s2, rfl, h4, rfl⟩ := r2
          cases h3
          cases h4
          exact ⟨_, _, rfl, h2.1, q2 _ _ walkD_rng h2.2⟩
        · exact h2.elim
      · cases h
    · cases h
end
end DL

/-! DL18: list comprehensions. -/
namespace DL
open PySem PySem.Spec L2 PyProof.Rows
abbrev noW : WX := fun _ _ _ _ => False
section
variable {B : Bs} {sg : Sg} {lv : Nat} {N : List Str} {sc : Scope} {Wx : WX} {X : Cx} {σ : L2.St} {α α' : List Addr} {M M' : MM} {H H' : Hp} {F : Addr → Prop} {Q : VK} {pos : Pos}
/-! from one ground to another -/
theorem RepW.to {x : W} {v : V} (p : α <+: α') (k : Kept (Lv B α M) H (Lv (B.at F) α' M') H') (h : RepW B α M H x v) : RepW (B.at F) α' M' H' x v := by
  cases x with
  | d x => exact (Rep.at x v).mp (Rep.mono k x v h)
  | ref i =>
    obtain ⟨a, e, r⟩ := h
    exact ⟨a, get_prefix p e, r⟩
theorem RepKW.to {κ : Type} (p : α <+: α') (k : Kept (Lv B α M) H (Lv (B.at F) α' M') H') : ∀ {xs : List (κ × W)} {vs : List (κ × V)}, RepKW B α M H xs vs → RepKW (B.at F) α' M' H' xs vs
  | [], _, h => h
  | (c, x) :: xs, _, h => by
    obtain ⟨v, r, e, h1, h2⟩ := h
    exact ⟨v, r, e, h1.to p k, RepKW.to p k h2⟩
theorem RepO.to {mo : MO} {o : HO} (p : α <+: α') (k : Kept (Lv B α M) H (Lv (B.at F) α' M') H') (h : RepO B α M H mo o) : RepO (B.at F) α' M' H' mo o := by
  cases mo with
  | lst xs => obtain ⟨vs, e, h⟩ := h; exact ⟨vs, e, (RepL.at xs vs).mp (RepL.mono k xs vs h)⟩
  | dct kvs => obtain ⟨vs, e, h⟩ := h; exact ⟨vs, e, (RepK.at kvs vs).mp (RepK.mono k kvs vs h)⟩
  | dctT kvs => obtain ⟨vs, e, h⟩ := h; exact ⟨vs, e, (RepT.at kvs vs).mp (RepT.mono k kvs vs h)⟩
  | dcw kvs => obtain ⟨vs, e, h⟩ := h; exact ⟨vs, e, RepKW.to p k h⟩
  | ins c fs => obtain ⟨C, dx, vs, e, m, h⟩ := h; exact ⟨C, dx, vs, e, m, RepKW.to p k h⟩
theorem Vars.to {Γ : GG} (p : α <+: α') (k : Kept (Lv B α M) H (Lv (B.at F) α' M') H') (h : Vars B α M H Γ σ) : Vars (B.at F) α' M' H' Γ σ := ⟨h.1, fun i x e => by
  obtain ⟨v, e1, r⟩ := h.2 i x e
  exact ⟨v, e1, r.to p k⟩⟩
/-- one more object that is nobody's to change -/
theorem Ok.hold (ok : Ok B α M H) {D : Addr} {o : HO} (hD : H D = none) : Ok (B.at fun a => B.F a ∨ a = D) α M (upd H D o) := by
  have k : Kept (Lv B α M) H (Lv (B.at fun a => B.F a ∨ a = D) α M) (upd H D o) := fun a u e n => ⟨by rw [upd_ne (ne_of_none e hD)]; exact e, fun l => by
    rcases l with (l | l) | l
    · exact n (.inl l)
    · exact ne_of_none e hD l
    · exact n (.inr l)⟩
  have ok1 := ok.new (o := o) hD
  refine ⟨ok.len, ok.nd, ok1.trk, fun a h => ?_, fun a h hF => ?_, fun i mo a e1 e2 => ?_⟩
  · rcases h with h | h
    · exact ok1.frs a h
    · subst h; exact ⟨o, upd_same⟩
  · rcases hF with h2 | h2
    · exact ok.sep a h h2
    · subst h2; exact ok.fresh hD h
  · obtain ⟨u, e, r⟩ := ok.obj i mo a e1 e2
    exact ⟨u, by rw [upd_ne (ne_of_none e hD)]; exact e, r.to (List.prefix_refl _) k⟩
def wo (H : Hp) (D : Addr) : Hp := fun a => if a = D then none else H a
theorem wo_ne {D a : Addr} (h : a ≠ D) : wo H D a = H a := if_neg h
theorem wo_same {D : Addr} : wo H D D = none := if_pos rfl
theorem upd_wo {D : Addr} {o : HO} (h : H D = some o) : upd (wo H D) D o = H := by
  funext a
  by_cases c : a = D
  · subst c; rw [upd_same, h]
  · rw [upd_ne c, wo_ne c]
theorem Ok.unhold {D : Addr} (ok : Ok (B.at fun a => B.F a ∨ a = D) α M H) (hF : ¬ B.F D) : Ok B α M (wo H D) ∧ Kept (Lv (B.at fun a => B.F a ∨ a = D) α M) H (Lv B α M) (wo H D) := by
  have k : Kept (Lv (B.at fun a => B.F a ∨ a = D) α M) H (Lv B α M) (wo H D) := fun a u e n => by
    have hne : a ≠ D := fun c => n (.inl (.inr c))
    refine ⟨by rw [wo_ne hne]; exact e, fun l => ?_⟩
    rcases l with l | l
    · exact n (.inl (.inl l))
    · exact n (.inr l)
  have hα : ∀ a ∈ α, a ≠ D := fun a h c => ok.sep a h (.inr c)
  refine ⟨⟨ok.len, ok.nd, fun a h => ?_, fun a h => ?_, fun a h hF => ok.sep a h (.inl hF), fun i mo a e1 e2 => ?_⟩, k⟩
  · obtain ⟨o, e⟩ := ok.trk a h
    exact ⟨o, by rw [wo_ne (hα a h)]; exact e⟩
  · obtain ⟨o, e⟩ := ok.frs a (.inl h)
    exact ⟨o, by rw [wo_ne fun c => hF (by rw [← c]; exact h)]; exact e⟩
  · obtain ⟨u, e, r⟩ := ok.obj i mo a e1 e2
    exact ⟨u, by rw [wo_ne (hα a (List.mem_of_getElem? e2))]; exact e, RepO.to (B := B.at fun a => B.F a ∨ a = D) (F := B.F) (List.prefix_refl _) k r⟩
/-- what is held is written -/
theorem Ok.poke {D : Addr} {o : HO} (ok : Ok (B.at fun a => B.F a ∨ a = D) α M H) : Ok (B.at fun a => B.F a ∨ a = D) α M (upd H D o) ∧ Kept (Lv (B.at fun a => B.F a ∨ a = D) α M) H (Lv (B.at fun a => B.F a ∨ a = D) α M) (upd H D o) := by
  have k : Kept (Lv (B.at fun a => B.F a ∨ a = D) α M) H (Lv (B.at fun a => B.F a ∨ a = D) α M) (upd H D o) := fun a u e n => by
    have hne : a ≠ D := fun c => n (.inl (.inr c))
    exact ⟨by rw [upd_ne hne]; exact e, n⟩
  have hα : ∀ a ∈ α, a ≠ D := fun a h c => ok.sep a h (.inr c)
  refine ⟨⟨ok.len, ok.nd, fun a h => ?_, fun a h => ?_, ok.sep, fun i mo a e1 e2 => ?_⟩, k⟩
  · obtain ⟨u, e⟩ := ok.trk a h
    exact ⟨u, by rw [upd_ne (hα a h)]; exact e⟩
  · by_cases c : a = D
    · subst c; exact ⟨o, upd_same⟩
    · obtain ⟨u, e⟩ := ok.frs a h
      exact ⟨u, by rw [upd_ne c]; exact e⟩
  · obtain ⟨u, e, r⟩ := ok.obj i mo a e1 e2
    exact ⟨u, by rw [upd_ne (hα a (List.mem_of_getElem? e2))]; exact e, r.mono (List.prefix_refl _) k⟩
/-! the block -/
theorem relS_fwd {sc : Scope} : ∀ {names : List (Str × NameKind)} {x : Str} {k : NameKind}, names.lookup x = some k →
    (names.map fun (n, k) => if (k == NameKind.free && sc.kind == .function && sc.names.lookup n == some .cell) then (n, NameKind.cell) else (n, k)).lookup x = some k ∨ (k = .free ∧ (names.map fun (n, k) => if (k == NameKind.free && sc.kind == .function && sc.names.lookup n == some .cell) then (n, NameKind.cell) else (n, k)).lookup x = some .cell)
  | [], _, _, h => by cases h
  | (n, k0) :: r, x, k, h => by
    have ih := @relS_fwd sc r x k
    rw [List.map_cons]
    cases hx : x == n with
    | true =>
      rw [List.lookup_cons, hx] at h
      cases h
      by_cases hc : (k0 == NameKind.free && sc.kind == .function && sc.names.lookup n == some .cell) = true
      · refine .inr ⟨?_, ?_⟩
        · simp only [Bool.and_eq_true, beq_iff_eq] at hc; exact hc.1.1
        · show List.lookup x ((if _ then (n, NameKind.cell) else (n, k0)) :: _) = _
          rw [if_pos hc, List.lookup_cons, hx]
      · refine .inl ?_
        show List.lookup x ((if _ then (n, NameKind.cell) else (n, k0)) :: _) = _
        rw [if_neg hc, List.lookup_cons, hx]
    | false =>
      rw [List.lookup_cons, hx] at h
      have hd : ∀ (y : Str × NameKind) (l : List (Str × NameKind)), y.1 = n → List.lookup x (y :: l) = List.lookup x l := fun y l e => by
        obtain ⟨y1, y2⟩ := y
        obtain rfl : y1 = n := e
        rw [List.lookup_cons, hx]
      have e1 : ((if (k0 == NameKind.free && sc.kind == .function && sc.names.lookup n == some .cell) = true then (n, NameKind.cell) else (n, k0)) : Str × NameKind).1 = n := by split <;> rfl
      rcases ih h with h | ⟨h1, h2⟩
      · exact .inl ((hd _ _ e1).trans h)
      · exact .inr ⟨h1, (hd _ _ e1).trans h2⟩
theorem Gd.blk (g : Gd B sg lv N sc Wx X) (F : Addr → Prop) (scope : Scope) (hs : ∀ y ∈ scope.names, scope.names.lookup y.1 = some y.2) (s : Shared) (H : Hp) (cl : List (Str × Addr)) (C : Addr) (fp : List Addr) :
    Gd (B.at F) sg lv N scope noW (X.blk s H scope (compEnvC scope cl C X.env) fp) where
  eP := g.eP
  ew := g.ew
  eK := g.eK
  emg := g.emg
  eb := g.eb
  eN := g.eN
  nd := g.nd
  vis := fun x h => by
    unfold visB at h
    split at h <;> rename_i e
    · rcases relS_fwd (sc := X.env.scope) e with e | ⟨e, _⟩
      · exact .inl e
      · cases e
    · rcases relS_fwd (sc := X.env.scope) e with e | ⟨e, _⟩
      · exact .inr (.inl e)
      · cases e
    · rcases relS_fwd (sc := X.env.scope) e with e | ⟨_, e⟩
      · exact .inr (.inr e)
      · exact .inr (.inl e)
    · cases h
  asg := fun x h => by
    unfold asgB at h
    split at h <;> rename_i e
    · rcases relS_fwd (sc := X.env.scope) e with e | ⟨e, _⟩
      · exact ⟨.inl e, .inr e⟩
      · cases e
    · rcases relS_fwd (sc := X.env.scope) e with e2 | ⟨e2, _⟩
      · exact ⟨.inr e2, .inl (by show (scope.names.lookup x == some .cell) = true; rw [e]; rfl)⟩
      · cases e2
    · cases h
  glo := fun x h => by
    unfold gloB at h
    split at h <;> rename_i e
    · rcases relS_fwd (sc := X.env.scope) e with e | ⟨e, _⟩
      · exact e
      · cases e
    · cases h
  free := fun x h => by
    rcases h with e | e
    · rcases relS_fwd (sc := X.env.scope) e with e | ⟨e, _⟩
      · exact .inl e
      · cases e
    · rcases relS_fwd (sc := X.env.scope) e with e | ⟨_, e⟩
      · exact .inr e
      · exact .inl e
  calm := g.calm
  room := g.room
  un := g.un
  gds := g.gds
  px := fun σ pins H s e s' I c => by
    obtain ⟨_, _, _, _, _, _, _, _, _, _, _, _, hE⟩ := c
    exact hE.elim
  env := g.env.at F
def lEF (B : Bs) (w : WE) : TE := fun σ H Q => ∃ F, lE (B.at F) noW w σ H Q
def lTF (B : Bs) (w : WT) : TT := fun σ H Q => ∃ F, lT (B.at F) noW w σ H Q
theorem drop_next {β : Type} {l : List β} {i : Nat} {x : β} (h : l[i]? = some x) : l.drop i = x :: l.drop (i + 1) := by
  obtain ⟨hi, rfl⟩ := List.getElem?_eq_some_iff.mp h
  exact List.drop_eq_getElem_cons hi
def fLc (sg : Sg) (tg : Tg) (own : List Nat) (cs : List Ex) (e : Ex) (Γ : GG) : D → MM → (Option D → MM → Prop) → Prop := fun x M2 q => tgW tg x (wipeG Γ own) fun Γ2 => wCs sg cs Γ2 M2 (fun b M3 => ifB b (wE sg e Γ2 M3 (fun y M4 => match y with
        | .d d => q (some d) M4
        | .ref _ => False) noX) (q none M3)) noX
theorem lc_wish (hK : X.K = B.K) {tg : Tg} {own : List Nat} {k : It} {its cs : List Ex} {e1 : Ex} {m : Bool} (ht : tgIn tg own = true) (hw : lE B Wx (wE sg (.lc tg own k its cs e1 m)) σ H Q) :
    tLc (lI B Wx (its.map (wE sg)) k) (gT X.K tg) (lTF B (wCs sg cs)) (lEF B (wE sg e1)) ((ownOf N own).map (·.2)) σ H Q := by
  have eown : (ownOf N own).map (·.2) = own := by unfold ownOf; rw [List.map_map]; exact List.map_id _
  obtain ⟨α, Γ, M, Qd, R, ok, va, hw, q, x⟩ := hw
  simp only [wE] at hw
  rw [wEs_eq] at hw
  rw [eown]
  refine ⟨α, Γ, M, _, R, ok, va, hw, fun α1 M1 H1 items J s1 okb wd hq D hD => ?_, x⟩
  obtain ⟨hlen, hq⟩ := hq
  replace hq : goLc (fLc sg tg own cs e1 Γ) items [] M1 (fun acc M2 => allocL m acc M2 Qd) := hq
  obtain ⟨G, Y, walk, hG, hY⟩ := wd
  have hF : ¬ B.F D := fun h => by
    obtain ⟨o, e⟩ := okb.frs D h
    rw [hD] at e; cases e
  have keptOf : ∀ {M2 : MM} {Hh : Hp}, Step α1 M1 H1 α1 M2 Hh → Kept (Lv B α1 M1) H1 (Lv (B.at fun a => B.F a ∨ a = D) α1 M2) Hh := fun {M2 Hh} s a o e n => ⟨(s.kept a o e n).1, fun l => by
    rcases l with (l | l) | l
    · exact n (.inl l)
    · exact ne_of_none e hD l
    · exact (s.kept a o e n).2 (.inr l)⟩
  refine lc_it walk (fun i Hh => ∃ (M2 : MM) (acc : List DL.D) (vs : List V), Step α1 M1 H1 α1 M2 Hh ∧ Ok (B.at fun a => B.F a ∨ a = D) α1 M2 Hh ∧ Hh D = some (.lst vs) ∧ RepL (B.at fun a => B.F a ∨ a = D) (Lv (B.at fun a => B.F a ∨ a = D) α1 M2) Hh acc vs ∧ acc.length ≤ i ∧
    goLc (fLc sg tg own cs e1 Γ) (items.drop i) acc M2 (fun acc M2 => allocL m acc M2 Qd)) ?_ ?_ ?_ ?_
  · exact ⟨M1, [], [], kept_new okb hD, okb.hold hD, upd_same, rfl, Nat.le_refl _, hq⟩
  · rintro i Hh _ ⟨M2, acc, vs, s2, ok2, _⟩
    exact hG _ _ (keptOf s2)
  · rintro i xv Hh Hh' hi ⟨M2, acc, vs, s2, ok2, hDv, hacc, hle, hgo⟩ hy
    obtain ⟨rfl, d, hd, rd⟩ := hY _ _ i xv Hh' (keptOf s2) hi hy
    rw [drop_next hd] at hgo
    simp only [goLc_nil, goLc_cons] at hgo
    replace hgo : tgW tg d (wipeG Γ own) fun Γ2 => wCs sg cs Γ2 M2 (fun b M3 => ifB b (wE sg e1 Γ2 M3 (fun y M4 => match y with
      | .d z => goLc (fLc sg tg own cs e1 Γ) (items.drop (i + 1)) (acc ++ [z]) (trunc M2.length M4) (fun acc M2 => allocL m acc M2 Qd)
      | .ref _ => False) noX) (goLc (fLc sg tg own cs e1 Γ) (items.drop (i + 1)) acc (trunc M2.length M3) (fun acc M2 => allocL m acc M2 Qd))) noX := hgo
    have va2 : Vars (B.at fun a => B.F a ∨ a = D) α1 M2 Hh' (wipeG Γ own) (wipe σ own) := vars_wipe ((va.step s1).to (List.prefix_refl _) (keptOf s2)) own
    have notL : ∀ {α3 : List Addr} {M3 : MM} {H3 : Hp}, Ok (B.at fun a => B.F a ∨ a = D) α3 M3 H3 → ¬ Live α3 M3 D := fun {α3 M3 H3} ok3 ⟨j, mo, _, e2⟩ => ok3.sep D (List.mem_of_getElem? e2) (.inr rfl)
    refine tg_snd (B := B.at fun a => B.F a ∨ a = D) hK va2 ((Rep.at d xv).mp rd) hgo fun Γ2 σ2 va3 h3 hw3 => ?_
    refine ⟨by rw [hw3 own ht, wipe_wipe], _, α1, Γ2, M2, _, noX, ok2, va3, h3, fun α3 M3 b H3 s3 ok3 hb3 => ?_, XOk.no⟩
    cases b with
    | false =>
      obtain ⟨e4, s4, ok4⟩ := turn_step ok2 s3 ok3
      refine ⟨_, acc, vs, s2.trans s4, ok4, s4.keep D _ hDv (notL ok2), RepL.mono s4.kept _ _ hacc, Nat.le_succ_of_le hle, hb3⟩
    | true =>
      refine ⟨_, α3, Γ2, M3, _, noX, ok3, va3.step s3, hb3, fun α4 M4 y v H4 s4 ok4 r4 h4 => ?_, XOk.no⟩
      cases y with
      | ref j => exact (show False from h4).elim
      | d y =>
        have s34 := s3.trans s4
        obtain ⟨e5, s5, ok5⟩ := turn_step ok2 s34 ok4
        have hD4 : H4 D = some (.lst vs) := s5.keep D _ hDv (notL ok2)
        have hl := hacc.len
        refine ⟨vs, hD4, by omega, ?_⟩
        obtain ⟨ok6, k6⟩ := ok5.poke (o := .lst (vs ++ [v]))
        have kt : Kept (Lv (B.at fun a => B.F a ∨ a = D) α4 M4) H4 (Lv (B.at fun a => B.F a ∨ a = D) α1 (trunc M2.length M4)) H4 := fun a o e n => ⟨e, fun l => by
          rcases l with l | l
          · exact n (.inl l)
          · rw [← e5] at l
            exact n (.inr (trunc_live ok4 l))⟩
        refine ⟨_, acc ++ [y], vs ++ [v], ?_, ok6, upd_same, (RepL.mono k6 _ _ (RepL.mono s5.kept _ _ hacc)).app (RepL.one (Rep.mono k6 _ _ (Rep.mono kt _ _ r4))), by rw [List.length_append, List.length_singleton]; omega, h4⟩
        have s25 := s2.trans s5
        exact ⟨List.prefix_refl _, fun a o e n => by rw [upd_ne (ne_of_none e hD)]; exact s25.keep a o e n, s25.live, s25.new⟩
  · rintro Hh ⟨M2, acc, vs, s2, ok2, hDv, hacc, hle, hgo⟩
    rw [List.drop_length] at hgo
    simp only [goLc_nil, goLc_cons] at hgo
    obtain ⟨ok3, k3⟩ := ok2.unhold hF
    have s3 : Step α1 M1 H1 α1 M2 (wo Hh D) := ⟨List.prefix_refl _, fun a o e n => by rw [wo_ne (ne_of_none e hD)]; exact s2.keep a o e n, s2.live, s2.new⟩
    have r3 := (RepL.at acc vs).mpr (RepL.mono k3 acc vs hacc)
    have := (q.step (s1.trans s3)).lst ok3 r3 hgo wo_same
    rw [upd_wo hDv] at this
    exact this
theorem c_lc (g : Gd B sg lv N sc Wx X) {tg : Tg} {own : List Nat} {k : It} {its cs : List Ex} {e1 : Ex} {m : Bool} {elt tgt iter : Expr} {ifs : List Expr} {scope : Scope} {is : List Expr}
    (h1 : okTg N scope tg tgt = true) (hb : blkC N sc scope (ownOf N own) = true) (ht : tgIn tg own = true) (hit : decIt sc k iter = some is) (hp : is.all plainX = true) (hpi : plainX iter = true) (he : PEL X B Wx is (its.map (wE sg)))
    (hcs : ∀ F X', Gd (B.at F) sg lv N scope noW X' → PTs X' ifs (lT (B.at F) noW (wCs sg cs))) (helt : ∀ F X', Gd (B.at F) sg lv N scope noW X' → PE X' elt (lE (B.at F) noW (wE sg e1))) :
    PE X (.ListComp elt [⟨tgt, iter, ifs, 0⟩] scope pos) (lE B Wx (wE sg (.lc tg own k its cs e1 m))) ∧
    ∀ (i : Nat) (y : Str) (py spos : Pos), N[i]? = some y → X.env.scope.names.lookup y = some .local → X.env.scope.kind = .function → (py.line == pos.line) = true → (scope.names.any fun (n, k) => n == y && (k == .local || k == .cell)) = false →
      PS X (.Assign [.Name y py] (.ListComp elt [⟨tgt, iter, ifs, 0⟩] scope pos) spos) (tAsg (lE B Wx (wE sg (.lc tg own k its cs e1 m))) (gName i)) := by
  have ok0 := blkOk_by hb
  have ok1 : BlkOk X.N X.env.scope scope (ownOf N own) := ⟨ok0.kind, ok0.uniq, by rw [g.eN]; exact ok0.ix, fun y hy e => g.free y.1 (ok0.free y hy e), by rw [g.eN]; exact ok0.own⟩
  have hg := fun (s : Shared) (H : Hp) (C : Addr) (cl : List (Str × Addr)) (fp : List Addr) => pg_of (g.blk B.F scope ok0.uniq s H cl C fp) h1
  have ht' : ∀ (s : Shared) (H : Hp) (C : Addr) (cl : List (Str × Addr)) (fp : List Addr), PTs (X.blk s H scope (compEnvC scope cl C X.env) fp) ifs (lTF B (wCs sg cs)) := fun s H C cl fp => ⟨fun pins s' σ H' Q I ⟨F, h⟩ => (hcs F _ (g.blk F scope ok0.uniq s H cl C fp)).run pins s' σ H' Q I h⟩
  have he' : ∀ (s : Shared) (H : Hp) (C : Addr) (cl : List (Str × Addr)) (fp : List Addr), PE (X.blk s H scope (compEnvC scope cl C X.env) fp) elt (lEF B (wE sg e1)) := fun s H C cl fp => ⟨fun pins s' σ H' Q I ⟨F, h⟩ => (helt F _ (g.blk F scope ok0.uniq s H cl C fp)).run pins s' σ H' Q I h⟩
  refine ⟨PE.imp (pe_lc (pos := pos) g.calm g.nd (c_it g (tg := tgt) hit he hp) ok1 (g := gT X.K tg) hg ht' he' (folded_of hpi)) fun σ H Q hw => lc_wish g.eK ht hw, fun i y py spos hy hl hk hln hc => ?_⟩
  exact PS.imp (ps_setLc g.calm g.nd (by rw [g.eN]; exact hy) hl (sw_true hk hl hln hc) (c_it g (tg := tgt) hit he hp) ok1 (g := gT X.K tg) hg ht' he' (folded_of hpi)) fun D σ H hw => lc_wish g.eK ht hw
end
end DL

/-! DL19: terms whole. -/
namespace DL
open PySem PySem.Spec L2 PyProof.Rows
def PlainT (e : Expr) (env : Env) : Prop := ∀ whole, isTrue e env whole = (do let v ← whole; standAt e.pos; holding [v] (truthy v))
section
variable {B : Bs} {sg : Sg} {lv : Nat} {N : List Str} {sc : Scope} {Wx : WX} {X : Cx} {σ : L2.St} {α : List Addr} {M : MM} {H : Hp} {Q : VK} {pos : Pos}
theorem PEL.one {a : Expr} {wes : List WE} (h : PEL X B Wx [a] wes) : ∃ wa, wes = [wa] ∧ PE X a (lE B Wx wa) := by
  cases wes with
  | nil => exact h.elim
  | cons w ws => cases ws with
    | nil => exact ⟨w, rfl, h.1⟩
    | cons _ _ => exact h.2.elim
theorem PEL.two {a b : Expr} {wes : List WE} (h : PEL X B Wx [a, b] wes) : ∃ wa wb, wes = [wa, wb] ∧ PE X a (lE B Wx wa) ∧ PE X b (lE B Wx wb) := by
  cases wes with
  | nil => exact h.elim
  | cons w ws =>
    obtain ⟨wb, rfl, hb⟩ := PEL.one h.2
    exact ⟨w, wb, rfl, h.1, hb⟩
theorem PEL.none {wes : List WE} (h : PEL X B Wx [] wes) : wes = [] := by
  cases wes with
  | nil => rfl
  | cons _ _ => exact h.elim
theorem pl1 {a : Expr} (h : [a].all plainX = true) : plainX a = true := by
  rw [List.all_cons, Bool.and_eq_true] at h; exact h.1
theorem pl2 {a b : Expr} (h : [a, b].all plainX = true) : plainX a = true ∧ plainX b = true := by
  rw [List.all_cons, Bool.and_eq_true] at h; exact ⟨h.1, pl1 h.2⟩
theorem c_pr0 (g : Gd B sg lv N sc Wx X) {p : Pr} {e : Expr} {es : List Expr} {wes : List WE} (hd : dec sc p e = some es) (hp : es.all plainX = true) (he : PEL X B Wx es wes) (hk : prOk sg p wes.length) : PE X e (lE B Wx (lP sg wes p)) := by
  cases p with
  | bin op m =>
    unfold dec at hd; dsimp only at hd
    split at hd
    · split at hd
      · rename_i h; subst h; cases hd
        obtain ⟨wa, wb, rfl, ha, hb⟩ := he.two
        exact c_bin g.toGw ha hb
      · cases hd
    · cases hd
  | neg =>
    unfold dec at hd; dsimp only at hd
    split at hd
    · cases hd
      obtain ⟨wa, rfl, ha⟩ := he.one
      exact c_neg ha
    · cases hd
  | cmp op =>
    unfold dec at hd; dsimp only at hd
    split at hd
    · split at hd
      · rename_i h; subst h; cases hd
        obtain ⟨wa, wb, rfl, ha, hb⟩ := he.two
        exact c_cmp g.toGw (pl2 hp).2 ha hb
      · cases hd
    · cases hd
  | idx =>
    unfold dec at hd; dsimp only at hd
    split at hd
    · cases hd
      obtain ⟨wa, wb, rfl, ha, hb⟩ := he.two
      exact c_idx g.toGw (pl2 hp).2 ha hb
    · cases hd
  | slc lo hi m =>
    unfold dec at hd; dsimp only at hd
    split at hd
    · split at hd
      · cases hd
        obtain ⟨wa, rfl, ha⟩ := he.one
        exact slc_ff g.toGw ha
      · cases hd
        obtain ⟨wa, wb, rfl, ha, hb⟩ := he.two
        exact slc_tf g.toGw ha hb
      · cases hd
        obtain ⟨wa, wb, rfl, ha, hb⟩ := he.two
        exact slc_ft g.toGw ha hb
      · cases hd
    · cases hd
  | rev m =>
    unfold dec at hd; dsimp only at hd
    split at hd
    · cases hd
      obtain ⟨wa, rfl, ha⟩ := he.one
      exact c_rev g.toGw ha
    · cases hd
  | tup f =>
    unfold dec at hd; dsimp only at hd
    split at hd
    · split at hd
      · cases hd
        exact c_tup g.toGw he hp (by assumption)
      · cases hd
    · cases hd
  | lst m =>
    unfold dec at hd; dsimp only at hd
    split at hd
    · split at hd
      · cases hd
        exact c_lst g.toGw he hp (by assumption)
      · cases hd
    · cases hd
  | dnT m =>
    unfold dec at hd; dsimp only at hd
    split at hd
    · cases hd
      obtain rfl := he.none
      exact c_dnT g
    · cases hd
  | fld f =>
    unfold dec at hd; dsimp only at hd
    split at hd
    · split at hd
      · rename_i h; obtain ⟨rfl, h⟩ := h; cases hd
        obtain ⟨wa, rfl, ha⟩ := he.one
        exact c_fld g.toGw h ha
      · cases hd
    · cases hd
  | bi f m =>
    unfold dec at hd; dsimp only at hd
    split at hd
    · split at hd
      · rename_i h; obtain ⟨rfl, h⟩ := h; cases hd
        exact c_bi g h he hp
      · cases hd
    · cases hd
  | isi T =>
    unfold dec at hd; dsimp only at hd
    split at hd
    · split at hd
      · rename_i h; obtain ⟨rfl, h1, rfl, h2, h3⟩ := h; cases hd
        obtain ⟨wa, rfl, ha⟩ := he.one
        exact c_isi g.toGw h1 h3 h2 ha (pl1 hp)
      · cases hd
    · cases hd
  | call f bs =>
    unfold dec at hd; dsimp only at hd
    split at hd
    · split at hd
      · rename_i h; obtain ⟨rfl, h1, h2⟩ := h; cases hd
        obtain ⟨sp, hsp⟩ := Option.isSome_iff_exists.mp hk
        exact c_call g hsp h1 h2 he hp
      · cases hd
    · cases hd
  | new f bs =>
    unfold dec at hd; dsimp only at hd
    split at hd
    · split at hd
      · rename_i h; obtain ⟨rfl, h1, h2⟩ := h; cases hd
        obtain ⟨sp, hsp⟩ := Option.isSome_iff_exists.mp hk
        exact c_new g hsp h1 h2 he hp
      · cases hd
    · cases hd
  | exi Ts => unfold dec at hd; cases hd
  | exf f => unfold dec at hd; cases hd
theorem dec_plain {p : Pr} {e : Expr} {es : List Expr} {env : Env} (hd : dec sc p e = some es) (hp : ∀ op, p ≠ .cmp op) : PlainT e env := by
  cases p <;> (unfold dec at hd; dsimp only at hd)
  case cmp op => exact absurd rfl (hp op)
  all_goals first | (cases hd; done) | (split at hd <;> first | (exact fun _ => rfl) | (cases hd))
theorem c_pr (g : Gd B sg lv N sc Wx X) {p : Pr} {e : Expr} {es : List Expr} {xs : List Ex} (hd : dec sc p e = some es) (hp : es.all plainX = true) (he : PEL X B Wx es (xs.map (wE sg))) : PE X e (lE B Wx (wE sg (.pr p xs))) := by
  by_cases hk : prOk sg p xs.length
  · refine PE.imp (c_pr0 g hd hp he (by rw [List.length_map]; exact hk)) fun σ H Q ⟨α, Γ, M, Qd, R, ok, va, hw, q, x⟩ => ?_
    simp only [wE] at hw
    have hw2 := (prK_iff.mp hw).2
    rw [wEs_eq] at hw2
    exact ⟨α, Γ, M, Qd, R, ok, va, hw2, q, x⟩
  · refine ⟨fun pins s σ H Q I ⟨α, Γ, M, Qd, R, ok, va, hw, q, x⟩ => ?_⟩
    simp only [wE] at hw
    exact absurd (prK_iff.mp hw).1 hk
/-! ### tests -/
theorem tru_rep {d : D} {v : V} {b : Bool} (r : RepV B (Lv B α M) H d v) (e : truD d = some b) : TruV B.K v H b := by
  cases d <;> first | (cases e; done) | skip
  · cases e; cases r; rfl
  · cases e; cases r; rfl
  · cases e; cases r; rfl
  · obtain ⟨rfl, _⟩ := r
    simp only [truD] at e
    split at e
    · rename_i h; cases e; exact ⟨h, rfl⟩
    · cases e
  · obtain ⟨a, vs, rfl, h1, h2⟩ := r
    cases e
    have hl := h2.len
    refine .inl ⟨vs, SqL.of h1, ?_⟩
    cases vs <;> cases ‹List D› <;> first | rfl | (simp at hl)
  · have r' : Rep B _ _ (.tup _) v := r
    obtain ⟨a, vs, rfl, h1, _, h2⟩ := r'
    cases e
    have hl := h2.len
    refine .inr (.inl ⟨vs, SqT.of h1, ?_⟩)
    cases vs <;> cases ‹List D› <;> first | rfl | (simp at hl)
theorem truW_elim {x : W} {k : Bool → Prop} (h : truW M x k) : ∃ d b, vw M x = some d ∧ truD d = some b ∧ k b := by
  unfold truW at h
  split at h
  · rename_i d e
    split at h
    · rename_i b e2; exact ⟨d, b, e, e2, h⟩
    · exact h.elim
  · exact h.elim
theorem pt_tru (g : Gw B sg lv N sc X) {e : Expr} {w : WE} (h : PE X e (lE B Wx w)) (he : PlainT e X.env) : PT X e (lT B Wx fun Γ M Q R => w Γ M (fun x M' => truW M' x fun b => Q b M') R) := by
  refine PT.imp (pt_truth h he) fun σ H Q ⟨α, Γ, M, Qd, R, ok, va, hw, q, x⟩ => ⟨α, Γ, M, _, R, ok, va, hw, fun α1 M1 y v H1 s1 ok1 r1 h1 => ?_, x⟩
  obtain ⟨d, b, e1, e2, h2⟩ := truW_elim h1
  rw [g.eK]
  exact ⟨b, tru_rep (view ok1 e1 r1) e2, q α1 M1 b H1 s1 ok1 h2⟩
/-! ### and, or, not as values; one of two -/
theorem c_and (g : Gw B sg lv N sc X) {a b : Expr} {rest : List Expr} {x y : Ex} (ha : PE X a (lE B Wx (wE sg x))) (hb : PE X (.BoolOp .And (b :: rest) pos) (lE B Wx (wE sg y))) : PE X (.BoolOp .And (a :: b :: rest) pos) (lE B Wx (wE sg (.and x y))) := by
  refine PE.imp (pe_andT ha hb) fun σ H Q ⟨α, Γ, M, Qd, R, ok, va, hw, q, xx⟩ => ?_
  simp only [wE] at hw
  refine ⟨α, Γ, M, _, R, ok, va, hw, fun α1 M1 z v H1 s1 ok1 r1 h1 => ?_, xx⟩
  obtain ⟨d, c, e1, e2, h2⟩ := truW_elim h1
  refine ⟨c, g.eK ▸ tru_rep (view ok1 e1 r1) e2, ?_⟩
  cases c with
  | true => exact ⟨α1, Γ, M1, Qd, R, ok1, va.step s1, h2, q.step s1, xx.step s1⟩
  | false => exact q α1 M1 z v H1 s1 ok1 r1 h2
theorem c_or (g : Gw B sg lv N sc X) {a b : Expr} {rest : List Expr} {x y : Ex} (ha : PE X a (lE B Wx (wE sg x))) (hb : PE X (.BoolOp .Or (b :: rest) pos) (lE B Wx (wE sg y))) : PE X (.BoolOp .Or (a :: b :: rest) pos) (lE B Wx (wE sg (.or x y))) := by
  refine PE.imp (pe_orT ha hb) fun σ H Q ⟨α, Γ, M, Qd, R, ok, va, hw, q, xx⟩ => ?_
  simp only [wE] at hw
  refine ⟨α, Γ, M, _, R, ok, va, hw, fun α1 M1 z v H1 s1 ok1 r1 h1 => ?_, xx⟩
  obtain ⟨d, c, e1, e2, h2⟩ := truW_elim h1
  refine ⟨c, g.eK ▸ tru_rep (view ok1 e1 r1) e2, ?_⟩
  cases c with
  | true => exact q α1 M1 z v H1 s1 ok1 r1 h2
  | false => exact ⟨α1, Γ, M1, Qd, R, ok1, va.step s1, h2, q.step s1, xx.step s1⟩
theorem c_not (g : Gw B sg lv N sc X) {a : Expr} {x : Ex} (ha : PE X a (lE B Wx (wE sg x))) : PE X (.UnaryOp .Not a pos) (lE B Wx (wE sg (.not x))) := by
  refine PE.imp (pe_notT ha) fun σ H Q ⟨α, Γ, M, Qd, R, ok, va, hw, q, xx⟩ => ?_
  simp only [wE] at hw
  refine ⟨α, Γ, M, _, R, ok, va, hw, fun α1 M1 z v H1 s1 ok1 r1 h1 => ?_, xx⟩
  obtain ⟨d, c, e1, e2, h2⟩ := truW_elim h1
  exact ⟨c, g.eK ▸ tru_rep (view ok1 e1 r1) e2, (q.step s1).val ok1 (x := .bl _) rfl h2⟩
theorem c_ife {c a b : Expr} {xc xa xb : Ex} (hc : PT X c (lT B Wx (wT sg xc))) (ha : PE X a (lE B Wx (wE sg xa))) (hb : PE X b (lE B Wx (wE sg xb))) : PE X (.IfExp c a b pos) (lE B Wx (wE sg (.ife xc xa xb))) := by
  refine PE.imp (pe_ifExp hc ha hb) fun σ H Q ⟨α, Γ, M, Qd, R, ok, va, hw, q, xx⟩ => ?_
  simp only [wE] at hw
  refine ⟨α, Γ, M, _, R, ok, va, hw, fun α1 M1 k H1 s1 ok1 h1 => ?_, xx⟩
  cases k with
  | true => exact ⟨α1, Γ, M1, Qd, R, ok1, va.step s1, h1, q.step s1, xx.step s1⟩
  | false => exact ⟨α1, Γ, M1, Qd, R, ok1, va.step s1, h1, q.step s1, xx.step s1⟩
theorem marks_of {op op' : CmpOp} {b c : Expr} (h : plainX c = true) : lastMarks [op, op'] [b, c] = false := behind_of h
theorem c_chn (g : Gw B sg lv N sc X) {o1 o2 : CmpOp} {a b c : Expr} {xa xb xc : Ex} (hp : plainX c = true) (ha : PE X a (lE B Wx (wE sg xa))) (hb : PE X b (lE B Wx (wE sg xb))) (hc : PE X c (lE B Wx (wE sg xc))) :
    PE X (.Compare a [o1, o2] [b, c] pos) (lE B Wx (wE sg (.chn o1 o2 xa xb xc))) := by
  have := g.u
  obtain ⟨r1, hr1, hs1⟩ := cmp_snd (X := X) (B := B) g.eK (by omega) o1
  obtain ⟨r2, hr2, hs2⟩ := cmp_snd (X := X) (B := B) g.eK (by omega) o2
  refine PE.imp (pe_chain hr1 hr2 ha hb hc (marks_of hp)) fun σ H Q ⟨α, Γ, M, Qd, R, ok, va, hw, q, xx⟩ => ?_
  simp only [wE] at hw
  refine ⟨α, Γ, M, _, R, ok, va, hw, fun α1 M1 x v H1 s1 ok1 rx h1 => ?_, xx⟩
  refine ⟨α1, Γ, M1, _, R, ok1, va.step s1, h1, fun α2 M2 y u H2 s2 ok2 ry h2 => ?_, xx.step s1⟩
  obtain ⟨p, p', e, e', h⟩ := ap2_elim h2
  have s12 := s1.trans s2
  refine hs1 (Lv B α2 M2) H2 _ p p' v u (view ok2 e (rx.step s2)) (view ok2 e' ry) (cmpD_mono h fun k hk => ?_)
  refine ⟨k, rfl, ?_⟩
  cases k with
  | false => exact (q.step s12).val ok2 (x := .bl _) rfl hk
  | true =>
    refine ⟨α2, Γ, M2, _, R, ok2, va.step s12, hk, fun α3 M3 z t H3 s3 ok3 rz h3 => ?_, xx.step s12⟩
    obtain ⟨p, p', e, e', h⟩ := ap2_elim h3
    exact hs2 (Lv B α3 M3) H3 _ p p' u t (view ok3 e (ry.step s3)) (view ok3 e' rz) (cmpD_mono h fun k hk => (q.step (s12.trans s3)).val ok3 (x := .bl _) rfl hk)
theorem t_chn (g : Gd B sg lv N sc Wx X) {o1 o2 : CmpOp} {a b c : Expr} {xa xb xc : Ex} (hp : plainX c = true) (ha : PE X a (lE B Wx (wE sg xa))) (hb : PE X b (lE B Wx (wE sg xb))) (hc : PE X c (lE B Wx (wE sg xc))) :
    PT X (.Compare a [o1, o2] [b, c] pos) (lT B Wx (wT sg (.chn o1 o2 xa xb xc))) := by
  have := g.u
  obtain ⟨r1, hr1, hs1⟩ := cmp_snd (X := X) (B := B) g.eK (by omega) o1
  obtain ⟨r2, hr2, hs2⟩ := cmp_snd (X := X) (B := B) g.eK (by omega) o2
  refine PT.imp (pt_chain hr1 hr2 ha hb hc (marks_of hp)) fun σ H Q ⟨α, Γ, M, Qd, R, ok, va, hw, q, xx⟩ => ?_
  simp only [wT] at hw
  refine ⟨α, Γ, M, _, R, ok, va, hw, fun α1 M1 x v H1 s1 ok1 rx h1 => ?_, xx⟩
  refine ⟨α1, Γ, M1, _, R, ok1, va.step s1, h1, fun α2 M2 y u H2 s2 ok2 ry h2 => ?_, xx.step s1⟩
  obtain ⟨p, p', e, e', h⟩ := ap2_elim h2
  have s12 := s1.trans s2
  refine hs1 (Lv B α2 M2) H2 _ p p' v u (view ok2 e (rx.step s2)) (view ok2 e' ry) (cmpD_mono h fun k hk => ?_)
  refine ⟨k, rfl, ?_⟩
  cases k with
  | false => exact ⟨false, rfl, q α2 M2 false H2 s12 ok2 hk⟩
  | true =>
    refine ⟨α2, Γ, M2, _, R, ok2, va.step s12, hk, fun α3 M3 z t H3 s3 ok3 rz h3 => ?_, xx.step s12⟩
    obtain ⟨p, p', e, e', h⟩ := ap2_elim h3
    exact hs2 (Lv B α3 M3) H3 _ p p' u t (view ok3 e (ry.step s3)) (view ok3 e' rz) (cmpD_mono h fun k hk => ⟨k, rfl, q α3 M3 k H3 (s12.trans s3) ok3 hk⟩)
theorem t_cmp (g : Gw B sg lv N sc X) {op : CmpOp} {a b : Expr} {xs : List Ex} (hp : plainX b = true) (he : PEL X B Wx [a, b] (xs.map (wE sg))) : PT X (.Compare a [op] [b] pos) (lT B Wx (wT sg (.pr (.cmp op) xs))) := by
  have := g.u
  obtain ⟨r, hr, hs⟩ := cmp_snd (X := X) (B := B) g.eK (by omega) op
  obtain ⟨wa, wb, ew, ha, hb⟩ := he.two
  refine PT.imp (pt_cmpR hr ha hb (behind_of hp)) fun σ H Q ⟨α, Γ, M, Qd, R, ok, va, hw, q, xx⟩ => ?_
  simp only [wT] at hw
  rw [wEs_eq, ew] at hw
  refine ⟨α, Γ, M, _, R, ok, va, hw, fun α1 M1 x v H1 s1 ok1 rx h1 => ?_, xx⟩
  refine ⟨α1, Γ, M1, _, R, ok1, va.step s1, h1, fun α2 M2 y u H2 s2 ok2 ry h2 => ?_, xx.step s1⟩
  obtain ⟨p, p', e, e', h⟩ := ap2_elim h2
  exact hs (Lv B α2 M2) H2 _ p p' v u (view ok2 e (rx.step s2)) (view ok2 e' ry) (cmpD_mono h fun k hk => ⟨k, rfl, q α2 M2 k H2 (s1.trans s2) ok2 hk⟩)
theorem t_and {a b : Expr} {rest : List Expr} {x y : Ex} (ha : PT X a (lT B Wx (wT sg x))) (hb : PW X (.BoolOp .And (b :: rest) pos) (lT B Wx (wT sg y))) : PW X (.BoolOp .And (a :: b :: rest) pos) (lT B Wx (wT sg (.and x y))) := by
  refine PW.imp (pw_and ha hb) fun σ H Q ⟨α, Γ, M, Qd, R, ok, va, hw, q, xx⟩ => ?_
  simp only [wT] at hw
  refine ⟨α, Γ, M, _, R, ok, va, hw, fun α1 M1 k H1 s1 ok1 h1 => ?_, xx⟩
  cases k with
  | true => exact ⟨α1, Γ, M1, Qd, R, ok1, va.step s1, h1, q.step s1, xx.step s1⟩
  | false => exact q α1 M1 false H1 s1 ok1 h1
theorem t_or {a b : Expr} {rest : List Expr} {x y : Ex} (ha : PT X a (lT B Wx (wT sg x))) (hb : PW X (.BoolOp .Or (b :: rest) pos) (lT B Wx (wT sg y))) : PW X (.BoolOp .Or (a :: b :: rest) pos) (lT B Wx (wT sg (.or x y))) := by
  refine PW.imp (pw_or ha hb) fun σ H Q ⟨α, Γ, M, Qd, R, ok, va, hw, q, xx⟩ => ?_
  simp only [wT] at hw
  refine ⟨α, Γ, M, _, R, ok, va, hw, fun α1 M1 k H1 s1 ok1 h1 => ?_, xx⟩
  cases k with
  | true => exact q α1 M1 true H1 s1 ok1 h1
  | false => exact ⟨α1, Γ, M1, Qd, R, ok1, va.step s1, h1, q.step s1, xx.step s1⟩
theorem t_not {a : Expr} {x : Ex} (ha : PT X a (lT B Wx (wT sg x))) : PT X (.UnaryOp .Not a pos) (lT B Wx (wT sg (.not x))) := by
  refine PT.imp (pt_not ha) fun σ H Q ⟨α, Γ, M, Qd, R, ok, va, hw, q, xx⟩ => ?_
  simp only [wT] at hw
  exact ⟨α, Γ, M, _, R, ok, va, hw, fun α1 M1 k H1 s1 ok1 h1 => q α1 M1 (!k) H1 s1 ok1 h1, xx⟩
theorem t_bl {b : Bool} {j : Nat} : PT X (.Constant (.bool b) j pos) (lT B Wx (wT sg (.bl b))) := by
  refine PT.imp (pt_val (pe_bl (b := b) (j := j))) fun σ H Q ⟨α, Γ, M, Qd, R, ok, va, hw, q, xx⟩ => ?_
  simp only [wT] at hw
  exact ⟨b, rfl, q α M b H (Step.refl _ _ _) ok hw⟩
theorem t_no {e : Expr} {w : WT} (h : ∀ Γ M Q R, ¬ w Γ M Q R) : PT X e (lT B Wx w) := ⟨fun pins s σ H Q I ⟨α, Γ, M, Qd, R, ok, va, hw, q, xx⟩ => absurd hw (h _ _ _ _)⟩
theorem t_pr (g : Gd B sg lv N sc Wx X) {p : Pr} {e : Expr} {es : List Expr} {xs : List Ex} (hd : dec sc p e = some es) (hp : es.all plainX = true) (he : PEL X B Wx es (xs.map (wE sg))) : PT X e (lT B Wx (wT sg (.pr p xs))) := by
  by_cases hc : ∃ op, p = .cmp op
  · obtain ⟨op, rfl⟩ := hc
    unfold dec at hd; dsimp only at hd
    split at hd
    · split at hd
      · rename_i h; subst h; cases hd
        exact t_cmp g.toGw (pl2 hp).2 he
      · cases hd
    · cases hd
  · have hne : ∀ op, p ≠ .cmp op := fun op h => hc ⟨op, h⟩
    refine PT.imp (pt_tru g.toGw (c_pr g hd hp he) (dec_plain hd hne)) fun σ H Q ⟨α, Γ, M, Qd, R, ok, va, hw, q, xx⟩ => ⟨α, Γ, M, Qd, R, ok, va, ?_, q, xx⟩
    cases p <;> first | exact absurd rfl (hne _) | (simp only [wT] at hw; simp only [wE]; exact hw)
end
end DL

/-! DL20: what the look finds is sound. -/
namespace DL
open PySem PySem.Spec L2 PyProof.Rows
section
variable {sg : Sg} {lv : Nat}
/-- a term: as a value, as a test; a row of and, or as a test within -/
def SndE (sg : Sg) (lv : Nat) (x : Ex) : Prop := ∀ (e : Expr) (B : Bs) (N : List Str) (sc : Scope) (Wx : WX) (X : Cx), Gd B sg lv N sc Wx X → okE N sc x e = true →
  PE X e (lE B Wx (wE sg x)) ∧ PT X e (lT B Wx (wT sg x)) ∧ ∀ op es pos, e = .BoolOp op es pos → PW X e (lT B Wx (wT sg x))
def SndEs (sg : Sg) (lv : Nat) (xs : List Ex) : Prop := (∀ (es : List Expr) (B : Bs) (N : List Str) (sc : Scope) (Wx : WX) (X : Cx), Gd B sg lv N sc Wx X → okEs N sc xs es = true → PEL X B Wx es (xs.map (wE sg))) ∧
  ∀ (es : List Expr) (B : Bs) (N : List Str) (sc : Scope) (Wx : WX) (X : Cx), Gd B sg lv N sc Wx X → es.length ≤ 1 → okEs N sc xs es = true → PTs X es (lT B Wx (wCs sg xs))
theorem sndEs_nil : SndEs sg lv [] := by
  refine ⟨fun es B N sc Wx X g h => ?_, fun es B N sc Wx X g hl h => ?_⟩
  · cases es with
    | nil => exact trivial
    | cons e es => unfold okEs at h; cases h
  · cases es with
    | nil =>
      refine ⟨fun pins s σ H Q I ⟨α, Γ, M, Qd, R, ok, va, hw, q, x⟩ => pts_nil.run pins s σ H Q I ?_⟩
      simp only [wCs] at hw
      exact q α M true H (Step.refl _ _ _) ok hw
    | cons e es => unfold okEs at h; cases h
theorem sndEs_cons {x : Ex} {xs : List Ex} (h1 : SndE sg lv x) (h2 : SndEs sg lv xs) : SndEs sg lv (x :: xs) := by
  refine ⟨fun es B N sc Wx X g h => ?_, fun es B N sc Wx X g hl h => ?_⟩
  · cases es with
    | nil => unfold okEs at h; cases h
    | cons e es =>
      unfold okEs at h
      dsimp only at h
      rw [Bool.and_eq_true] at h
      exact ⟨(h1 e B N sc Wx X g h.1).1, h2.1 es B N sc Wx X g h.2⟩
  · cases es with
    | nil => unfold okEs at h; cases h
    | cons e es =>
      unfold okEs at h
      dsimp only at h
      rw [Bool.and_eq_true] at h
      cases es with
      | cons e2 es => simp at hl
      | nil =>
        have ht := pts_one (h1 e B N sc Wx X g h.1).2.1
        refine ⟨fun pins s σ H Q I ⟨α, Γ, M, Qd, R, ok, va, hw, q, x⟩ => ht.run pins s σ H Q I ⟨α, Γ, M, Qd, R, ok, va, ?_, q, x⟩⟩
        simp only [wCs] at hw
        exact hw
theorem nobool {e : Expr} {P : Prop} (h : ∀ op es pos, e ≠ .BoolOp op es pos) : ∀ op es pos, e = .BoolOp op es pos → P := fun op es pos he => absurd he (h op es pos)
theorem snd_v (i : Nat) : SndE sg lv (.v i) := by
  intro e B N sc Wx X g h
  unfold okE at h
  split at h
  · refine ⟨c_var g.toGw h, ?_, fun _ _ _ he => by cases he⟩
    refine PT.imp (pt_tru g.toGw (c_var g.toGw h) fun _ => rfl) fun σ H Q ⟨α, Γ, M, Qd, R, ok, va, hw, q, xx⟩ => ⟨α, Γ, M, Qd, R, ok, va, ?_, q, xx⟩
    simp only [wT] at hw
    simp only [wE]
    exact hw
  · cases h
theorem snd_non : SndE sg lv .non := by
  intro e B N sc Wx X g h
  unfold okE at h
  split at h
  · exact ⟨c_non, t_no fun _ _ _ _ h => by simp only [wT] at h, fun _ _ _ he => by cases he⟩
  · cases h
theorem snd_bl (b : Bool) : SndE sg lv (.bl b) := by
  intro e B N sc Wx X g h
  unfold okE at h
  split at h
  · rename_i c _ _
    obtain rfl : c = b := by simpa using h
    exact ⟨c_bl, t_bl, fun _ _ _ he => by cases he⟩
  · cases h
theorem snd_int (i : Int) : SndE sg lv (.int i) := by
  intro e B N sc Wx X g h
  unfold okE at h
  split at h
  · obtain rfl := of_decide_eq_true h
    exact ⟨c_int, t_no fun _ _ _ _ h => by simp only [wT] at h, fun _ _ _ he => by cases he⟩
  · cases h
theorem snd_str (s : Str) : SndE sg lv (.str s) := by
  intro e B N sc Wx X g h
  unfold okE at h
  split at h
  · rw [Bool.and_eq_true] at h
    obtain rfl := of_decide_eq_true h.1
    exact ⟨c_str h.2, t_no fun _ _ _ _ h => by simp only [wT] at h, fun _ _ _ he => by cases he⟩
  · cases h
theorem snd_gl (x : Str) : SndE sg lv (.gl x) := by
  intro e B N sc Wx X g h
  unfold okE at h
  split at h
  · rw [Bool.and_eq_true, Bool.and_eq_true] at h
    obtain rfl := of_decide_eq_true h.1.1
    exact ⟨c_gl g.toGw h.1.2 h.2, t_no fun _ _ _ _ h => by simp only [wT] at h, fun _ _ _ he => by cases he⟩
  · cases h
theorem dec_nobool {sc : Scope} {p : Pr} {e : Expr} {es : List Expr} (hd : dec sc p e = some es) {P : Prop} : ∀ op es pos, e = .BoolOp op es pos → P := by
  rintro op es' pos rfl
  exfalso
  cases p <;> (unfold dec at hd; dsimp only at hd; cases hd)
theorem snd_pr (p : Pr) (xs : List Ex) (h2 : SndEs sg lv xs) : SndE sg lv (.pr p xs) := by
  intro e B N sc Wx X g h
  unfold okE at h
  split at h
  · rename_i es hd
    rw [Bool.and_eq_true] at h
    have he := h2.1 es B N sc Wx X g h.2
    exact ⟨c_pr g hd h.1 he, t_pr g hd h.1 he, dec_nobool hd⟩
  · cases h
theorem snd_me (f : Bm) (m : Bool) (o : Ex) (xs : List Ex) (h1 : SndE sg lv o) (h2 : SndEs sg lv xs) : SndE sg lv (.me f m o xs) := by
  intro e B N sc Wx X g h
  unfold okE at h
  split at h
  · simp only [Bool.and_eq_true, decide_eq_true_eq] at h
    obtain ⟨⟨⟨⟨⟨⟨⟨hf, hn⟩, hs⟩, hl⟩, hp⟩, hle⟩, ho⟩, he⟩ := h
    subst hn
    have key := c_me (m := m) g hf hs hl hp hle (h1 _ B N sc Wx X g ho).1 (h2.1 _ B N sc Wx X g he)
    refine ⟨key, ?_, fun _ _ _ he => by cases he⟩
    refine PT.imp (pt_tru g.toGw key fun _ => rfl) fun σ H Q ⟨α, Γ, M, Qd, R, ok, va, hw, q, xx⟩ => ⟨α, Γ, M, Qd, R, ok, va, ?_, q, xx⟩
    simp only [wT] at hw
    simp only [wE]
    exact hw
  · cases h
theorem snd_mt (m : Str) (bs : List Bool) (o : Ex) (xs : List Ex) (h1 : SndE sg lv o) (h2 : SndEs sg lv xs) : SndE sg lv (.mt m bs o xs) := by
  intro e B N sc Wx X g h
  unfold okE at h
  split at h
  · simp only [Bool.and_eq_true, decide_eq_true_eq] at h
    obtain ⟨⟨⟨⟨⟨⟨hn, hs⟩, hl⟩, hp⟩, hle⟩, ho⟩, he⟩ := h
    subst hn
    rename_i name _ _ _
    have key := c_mt (m := name) (bs := bs) g hs hl hp hle (h1 _ B N sc Wx X g ho).1 (h2.1 _ B N sc Wx X g he)
    refine ⟨key, ?_, fun _ _ _ he => by cases he⟩
    refine PT.imp (pt_tru g.toGw key fun _ => rfl) fun σ H Q ⟨α, Γ, M, Qd, R, ok, va, hw, q, xx⟩ => ⟨α, Γ, M, Qd, R, ok, va, ?_, q, xx⟩
    simp only [wT] at hw
    simp only [wE]
    exact hw
  · cases h
theorem snd_and (a b : Ex) (h1 : SndE sg lv a) (h2 : SndE sg lv b) : SndE sg lv (.and a b) := by
  intro e B N sc Wx X g h
  unfold okE at h
  split at h
  · rename_i x y rest pos
    rw [Bool.and_eq_true] at h
    obtain ⟨ha, ta, _⟩ := h1 x B N sc Wx X g h.1
    have hb : PE X (.BoolOp .And (y :: rest) pos) (lE B Wx (wE sg b)) ∧ PW X (.BoolOp .And (y :: rest) pos) (lT B Wx (wT sg b)) := by
      cases rest with
      | nil =>
        obtain ⟨hb, tb, _⟩ := h2 y B N sc Wx X g h.2
        exact ⟨pe_one hb, pw_and1 tb⟩
      | cons z r =>
        obtain ⟨hb, _, wb⟩ := h2 (.BoolOp .And (y :: z :: r) pos) B N sc Wx X g h.2
        exact ⟨hb, wb _ _ _ rfl⟩
    have w := t_and ta hb.2
    exact ⟨c_and g.toGw ha hb.1, w.pt, fun _ _ _ _ => w⟩
  · cases h
theorem snd_or (a b : Ex) (h1 : SndE sg lv a) (h2 : SndE sg lv b) : SndE sg lv (.or a b) := by
  intro e B N sc Wx X g h
  unfold okE at h
  split at h
  · rename_i x y rest pos
    rw [Bool.and_eq_true] at h
    obtain ⟨ha, ta, _⟩ := h1 x B N sc Wx X g h.1
    have hb : PE X (.BoolOp .Or (y :: rest) pos) (lE B Wx (wE sg b)) ∧ PW X (.BoolOp .Or (y :: rest) pos) (lT B Wx (wT sg b)) := by
      cases rest with
      | nil =>
        obtain ⟨hb, tb, _⟩ := h2 y B N sc Wx X g h.2
        exact ⟨pe_one hb, pw_or1 tb⟩
      | cons z r =>
        obtain ⟨hb, _, wb⟩ := h2 (.BoolOp .Or (y :: z :: r) pos) B N sc Wx X g h.2
        exact ⟨hb, wb _ _ _ rfl⟩
    have w := t_or ta hb.2
    exact ⟨c_or g.toGw ha hb.1, w.pt, fun _ _ _ _ => w⟩
  · cases h
theorem snd_not (a : Ex) (h1 : SndE sg lv a) : SndE sg lv (.not a) := by
  intro e B N sc Wx X g h
  unfold okE at h
  split at h
  · obtain ⟨ha, ta, _⟩ := h1 _ B N sc Wx X g h
    exact ⟨c_not g.toGw ha, t_not ta, fun _ _ _ he => by cases he⟩
  · cases h
theorem snd_ife (c a b : Ex) (h0 : SndE sg lv c) (h1 : SndE sg lv a) (h2 : SndE sg lv b) : SndE sg lv (.ife c a b) := by
  intro e B N sc Wx X g h
  unfold okE at h
  split at h
  · rw [Bool.and_eq_true, Bool.and_eq_true] at h
    exact ⟨c_ife (h0 _ B N sc Wx X g h.1.1).2.1 (h1 _ B N sc Wx X g h.1.2).1 (h2 _ B N sc Wx X g h.2).1, t_no fun _ _ _ _ h => by simp only [wT] at h, fun _ _ _ he => by cases he⟩
  · cases h
theorem snd_chn (o1 o2 : CmpOp) (a b c : Ex) (h0 : SndE sg lv a) (h1 : SndE sg lv b) (h2 : SndE sg lv c) : SndE sg lv (.chn o1 o2 a b c) := by
  intro e B N sc Wx X g h
  unfold okE at h
  split at h
  · simp only [Bool.and_eq_true, decide_eq_true_eq] at h
    obtain ⟨⟨⟨⟨⟨e1, e2⟩, hp⟩, ha⟩, hb⟩, hc⟩ := h
    subst e1 e2
    have pa := (h0 _ B N sc Wx X g ha).1
    have pb := (h1 _ B N sc Wx X g hb).1
    have pc := (h2 _ B N sc Wx X g hc).1
    exact ⟨c_chn g.toGw hp pa pb pc, t_chn g hp pa pb pc, fun _ _ _ he => by cases he⟩
  · cases h
theorem snd_sl2 (m : Bool) (a b c : Ex) (h0 : SndE sg lv a) (h1 : SndE sg lv b) (h2 : SndE sg lv c) : SndE sg lv (.sl2 m a b c) := by
  intro e B N sc Wx X g h
  unfold okE at h
  split at h
  · rw [Bool.and_eq_true, Bool.and_eq_true] at h
    exact ⟨slc_tt g (h0 _ B N sc Wx X g h.1.1).1 (h1 _ B N sc Wx X g h.1.2).1 (h2 _ B N sc Wx X g h.2).1, t_no fun _ _ _ _ h => by simp only [wT] at h, fun _ _ _ he => by cases he⟩
  · cases h
theorem snd_dk1 (m : Bool) (a b : Ex) (h1 : SndE sg lv a) (h2 : SndE sg lv b) : SndE sg lv (.dk1 m a b) := by
  intro e B N sc Wx X g h
  unfold okE at h
  split at h
  · rw [Bool.and_eq_true] at h
    exact ⟨c_dk1 (h1 _ B N sc Wx X g h.1).1 (h2 _ B N sc Wx X g h.2).1, t_no fun _ _ _ _ h => by simp only [wT] at h, fun _ _ _ he => by cases he⟩
  · cases h
theorem snd_dsp (ks : List Key) (m : Bool) (xs : List Ex) (h2 : SndEs sg lv xs) : SndE sg lv (.dsp ks m xs) := by
  intro e B N sc Wx X g h
  unfold okE at h
  split at h
  · rw [Bool.and_eq_true, decide_eq_true_eq] at h
    exact ⟨c_dsp g h.1 (h2.1 _ B N sc Wx X g h.2), t_no fun _ _ _ _ h => by simp only [wT] at h, fun _ _ _ he => by cases he⟩
  · cases h
theorem snd_lc (tg : Tg) (own : List Nat) (k : It) (its cs : List Ex) (e1 : Ex) (m : Bool) (h0 : SndEs sg lv its) (h1 : SndEs sg lv cs) (h2 : SndE sg lv e1) : SndE sg lv (.lc tg own k its cs e1 m) := by
  intro e B N sc Wx X g h
  unfold okE at h
  split at h
  · rename_i elt tgt iter ifs scope pos
    simp only [Bool.and_eq_true] at h
    obtain ⟨⟨⟨⟨⟨⟨⟨ht, hpi⟩, hb⟩, hown⟩, hit⟩, hl⟩, hcs⟩, helt⟩ := h
    split at hit
    · rename_i is hd
      rw [Bool.and_eq_true] at hit
      have hin : tgIn tg own = true := by cases tg <;> exact hown
      refine ⟨(c_lc g ht hb hin hd hit.1 hpi (h0.1 _ B N sc Wx X g hit.2) (fun F X' g' => h1.2 _ _ N scope noW X' g' (of_decide_eq_true hl) hcs) (fun F X' g' => (h2 _ _ N scope noW X' g' helt).1)).1, t_no fun _ _ _ _ h => by simp only [wT] at h, fun _ _ _ he => by cases he⟩
    · cases hit
  · cases h
mutual
theorem sndE : ∀ x : Ex, SndE sg lv x
  | .v i => snd_v i
  | .non => snd_non
  | .bl b => snd_bl b
  | .int i => snd_int i
  | .str s => snd_str s
  | .gl x => snd_gl x
  | .pr p es => snd_pr p es (sndEs es)
  | .me f m o es => snd_me f m o es (sndE o) (sndEs es)
  | .mt m bs o es => snd_mt m bs o es (sndE o) (sndEs es)
  | .and a b => snd_and a b (sndE a) (sndE b)
  | .or a b => snd_or a b (sndE a) (sndE b)
  | .not a => snd_not a (sndE a)
  | .ife c a b => snd_ife c a b (sndE c) (sndE a) (sndE b)
  | .chn o1 o2 a b c => snd_chn o1 o2 a b c (sndE a) (sndE b) (sndE c)
  | .sl2 m a b c => snd_sl2 m a b c (sndE a) (sndE b) (sndE c)
  | .dsp ks m es => snd_dsp ks m es (sndEs es)
  | .dk1 m a b => snd_dk1 m a b (sndE a) (sndE b)
  | .lc tg own k its cs e m => snd_lc tg own k its cs e m (sndEs its) (sndEs cs) (sndE e)
theorem sndEs : ∀ xs : List Ex, SndEs sg lv xs
  | [] => sndEs_nil
  | x :: xs => sndEs_cons (sndE x) (sndEs xs)
end
end
end DL

/-! DX3: terms of a suite. -/
namespace DL
open PySem PySem.Spec L2 PyProof.Rows
/-- the error that the suite holds -/
structure ExOk (sg : Sg) (B : Bs) (X : Cx) : Prop where
  ex : ∀ a c d, sg.ex = some (a, c, d) → ∃ (C : Addr) (oe : Obj) (pn : List (Addr × Obj)) (X0 : Cx), X = X0.suite a ((a, oe) :: pn) ∧ B.mg c = some (.ref C) ∧ Zc (.ref C) d oe ∧ ∃ vs, oe.data = .fields vs
theorem PE.absurd {X : Cx} {e : Expr} {t : TE} (h : ∀ σ H Q, ¬ t σ H Q) : PE X e t := ⟨fun pins s σ H Q I q => (h σ H Q q).elim⟩
mutual
def okU (N : List Str) (sc : Scope) : Ex → Expr → Bool
  | .pr p xs, e => (match p with
    | .exi Ts => (match e with
      | .Call (.Name x _) [a, t] [] _ => decide (x = "isinstance") && gloB sc x && plainX a && okUs N sc xs [a] && decide (1 ≤ Ts.length ∧ Ts.length ≤ 100) && (match t with
        | .Tuple es _ _ => clsNms sc es Ts
        | t => (match Ts with
          | [T] => clsNm sc t T
          | _ => false))
      | _ => false)
    | .exf f => (match e with
      | .Attribute a f' _ => decide (f' = f) && notSuper a && plainX a && okUs N sc xs [a]
      | _ => false)
    | .tup false => (match e with
      | .Tuple es _ _ => decide (es.length ≤ 1000) && es.all plainX && okUs N sc xs es
      | _ => false)
    | .lst _ => (match e with
      | .List es _ => decide (es.length ≤ 1000) && es.all plainX && okUs N sc xs es
      | _ => false)
    | .cmp op => (match e with
      | .Compare a [op'] [b] _ => decide (op' = op) && plainX b && okUs N sc xs [a, b]
      | _ => false)
    | .idx => (match e with
      | .Subscript a b _ => plainX b && okUs N sc xs [a, b]
      | _ => false)
    | _ => false)
  | .v i, e => okE N sc (.v i) e
  | .non, e => okE N sc .non e
  | .bl b, e => okE N sc (.bl b) e
  | .int i, e => okE N sc (.int i) e
  | .str z, e => okE N sc (.str z) e
  | .and a b, e => (match e with
    | .BoolOp .And [x, y] _ => okU N sc a x && okU N sc b y
    | _ => false)
  | .or a b, e => (match e with
    | .BoolOp .Or [x, y] _ => okU N sc a x && okU N sc b y
    | _ => false)
  | .not a, e => (match e with
    | .UnaryOp .Not x _ => okU N sc a x
    | _ => false)
  | .ife c a b, e => (match e with
    | .IfExp x y z _ => okU N sc c x && okU N sc a y && okU N sc b z
    | _ => false)
  | _, _ => false
def okUs (N : List Str) (sc : Scope) : List Ex → List Expr → Bool
  | [], es => es.isEmpty
  | x :: xs, es => (match es with
    | e :: r => okU N sc x e && okUs N sc xs r
    | [] => false)
end
section
variable {B : Bs} {sg : Sg} {lv : Nat} {N : List Str} {sc : Scope} {Wx : WX} {X : Cx} {σ : L2.St} {α : List Addr} {M : MM} {H : Hp} {Q : VK} {pos : Pos}
/-- a class's value for the layer -/
theorem cls_v {T : Str} {cv : Value} (h : ClsN B T cv) : ∃ v : V, ClsV v cv ∧ RelV v cv := by
  rcases h with ⟨C, rfl, _⟩ | ⟨_, n, rfl, _⟩
  · exact ⟨.ref C, .own C, rfl⟩
  · exact ⟨.ty n, .ty n, rfl⟩
theorem cls_pe (g : Gw B sg lv N sc X) {e : Expr} {T : Str} {cv : Value} {v : V} (hn : clsNm sc e T = true) (h : ClsN B T cv) (r : RelV v cv) : PE X e (tC v) := by
  unfold clsNm at hn
  split at hn
  · rename_i y p
    simp only [Bool.and_eq_true, decide_eq_true_eq] at hn
    obtain ⟨⟨rfl, hg⟩, hb⟩ := hn
    unfold nmB at hb
    simp only [Bool.and_eq_true, Bool.not_eq_true'] at hb
    obtain ⟨⟨h1, h2⟩, h3⟩ := hb
    rcases h with ⟨C, rfl, hm⟩ | ⟨hm, n, rfl, hb⟩
    · exact pe_glob (g.glo _ hg) (by rw [g.emg]; exact hm) r h1
    · exact pe_bltn (g.glo _ hg) (by rw [g.emg]; exact hm) hb r (by simpa using h3) h1
  · cases hn
theorem cls_plain {e : Expr} {T : Str} (hn : clsNm sc e T = true) : plainX e = true := by
  unfold clsNm at hn
  split at hn
  · rfl
  · cases hn
theorem clss_plain : ∀ {es : List Expr} {Ts : List Str}, clsNms sc es Ts = true → es.all plainX = true
  | [], _, _ => rfl
  | e :: es, [], h => by cases h
  | e :: es, T :: Ts, h => by
    unfold clsNms at h
    rw [Bool.and_eq_true] at h
    rw [List.all_cons, cls_plain h.1, clss_plain h.2]; rfl
def tCs : List V → TA
  | [] => tNil
  | v :: vs => tCons (tC v) (tCs vs)
theorem tCs_run : ∀ (vs : List V) (σ : L2.St) (H : Hp) (Q : List V → Hp → Prop), Q vs H → tCs vs σ H Q
  | [], _, _, _, h => h
  | v :: vs, σ, H, Q, h => by
    show tCs vs σ H fun xs H2 => Q (v :: xs) H2
    exact tCs_run vs σ H _ h
/-- of a row of classes, each told of -/
theorem clss_pa (g : Gw B sg lv N sc X) {c : Str} {C : Addr} (hc : B.mg c = some (.ref C)) : ∀ {es : List Expr} {Ts : List Str} {b : Bool}, clsNms sc es Ts = true → subAny (sg.sub c) Ts = some b →
    ∃ (vs : List V) (us : List Value), PA X es (tCs vs) ∧ Paired ClsV vs us ∧ PySem.W.kitAny B.K (.ref C) us = some b ∧ vs.length ≤ Ts.length
  | [], [], b, _, h => by cases h; exact ⟨[], [], pa_nil, .nil, rfl, Nat.le_refl _⟩
  | [], _ :: _, _, h, _ => by cases h
  | _ :: _, [], _, h, _ => by cases h
  | e :: es, T :: Ts, b, h, hb => by
    have hpl := clss_plain h
    unfold clsNms at h
    rw [Bool.and_eq_true] at h
    unfold subAny at hb
    split at hb
    · rename_i b1 b2 h1 h2
      cases hb
      obtain ⟨C', cv, m1, _, m2, _, m3⟩ := (g.env.sub c T b1 h1).ex
      rw [hc] at m1
      cases m1
      obtain ⟨v, k, r⟩ := cls_v m2
      obtain ⟨vs, us, pa, kk, ka, hl⟩ := clss_pa g hc (es := es) (Ts := Ts) h.2 h2
      refine ⟨v :: vs, cv :: us, pa_cons (cls_pe g h.1 m2 r) pa (star_cons hpl), .cons k kk, kitAny_cons m3 ?_ ?_, by simp; omega⟩
      · rintro rfl; simpa using ka
      · rintro rfl; rfl
    · cases hb
theorem dic_of {a : Nat} {c : Str} {d : Option Nat} {fs : List (Str × D)} {v : V} (r : RepW B α M H (.d (.exc a c d fs)) v) : v = .ref a ∧ dicOk H d := by
  obtain ⟨e, h⟩ := (r : Rep B _ _ (.exc a c d fs) v)
  refine ⟨e, ?_⟩
  cases d with
  | none => trivial
  | some dd =>
    obtain ⟨vs, h1, _⟩ := h
    exact ⟨vs, h1⟩
theorem callr_no {f : Value} : CallR X f (fun _ _ _ => False) := fun _ _ _ _ _ _ _ _ _ h => h.elim
theorem exi_elim {Ts : List Str} {w : W} {M : MM} {Qd : W → MM → Prop} (h : exiW sg Ts [w] M Qd) : ∃ a c d fs b, w = .d (.exc a c d fs) ∧ sg.ex = some (a, c, d) ∧ subAny (sg.sub c) Ts = some b ∧ Qd (.d (.bl b)) M := by
  unfold exiW at h
  split at h
  · rename_i a c d fs e
    cases e
    obtain ⟨h1, h2⟩ := h
    obtain ⟨b, h3, h4⟩ := optK_elim h2
    exact ⟨a, c, d, fs, b, rfl, h1, h3, h4⟩
  · exact h.elim
theorem exf_elim {f : Str} {w : W} {M : MM} {Qd : W → MM → Prop} (h : exfW sg f [w] M Qd) : ∃ a c d fs x ns, w = .d (.exc a c d fs) ∧ sg.ex = some (a, c, d) ∧ sg.xc c = some ns ∧ f ∈ ns ∧ fs.lookup f = some x ∧ Qd (.d x) M := by
  unfold exfW at h
  split at h
  · rename_i a c d fs e
    cases e
    obtain ⟨h1, h2⟩ := h
    obtain ⟨ns, h3, h4, h5⟩ := optK_elim h2
    obtain ⟨x, h6, h7⟩ := optK_elim h5
    exact ⟨a, c, d, fs, x, ns, rfl, h1, h3, h4, h6, h7⟩
  · exact h.elim
theorem c_exi (g : Gw B sg lv N sc X) (hx : ExOk sg B X) {Ts : List Str} {a t : Expr} {p : Pos} {wa : WE} (hg : gloB sc "isinstance" = true) (hl : 1 ≤ Ts.length ∧ Ts.length ≤ 100) (ha : PE X a (lE B Wx wa)) (hp : plainX a = true)
    (ht : (∃ es k p2, t = .Tuple es k p2 ∧ clsNms sc es Ts = true) ∨ (∃ T, Ts = [T] ∧ clsNm sc t T = true)) :
    PE X (.Call (.Name "isinstance" p) [a, t] [] pos) (lE B Wx (lP sg [wa] (.exi Ts))) := by
  have hpt : plainX t = true := by
    rcases ht with ⟨es, k, p2, rfl, _⟩ | ⟨T, _, h⟩
    · rfl
    · exact cls_plain h
  have hp2 : ([a, t] : List Expr).all plainX = true := by rw [List.all_cons, hp, List.all_cons, hpt]; rfl
  have hp3 : ([t] : List Expr).all plainX = true := by rw [List.all_cons, hpt]; rfl
  have no : (∀ w M Qd, ¬ exiW sg Ts [w] M Qd) → PE X (.Call (.Name "isinstance" p) [a, t] [] pos) (lE B Wx (lP sg [wa] (.exi Ts))) := fun hno =>
    PE.imp (pe_callB (callr_no (f := .builtin "isinstance")) (g.glo _ hg) (g.not (by decide)) (by decide +kernel) (pa_cons ha (pa_cons (PE.absurd (t := fun _ _ _ => False) fun _ _ _ h => h) pa_nil (star_cons hp3)) (star_cons hp2)) (by decide) (by decide) (star_cons hp2) (star_any hp3)) fun σ H Q h =>
      lE_one (K := fun x H1 => False) (k := fun ws M' Q R => wP sg (.exi Ts) ws M' Q R) h fun α M x v H' Qd R ok rx hk q _ => hno x M Qd hk
  cases he : sg.ex with
  | none => exact no fun w M Qd h => by obtain ⟨_, _, _, _, _, _, h1, _⟩ := exi_elim h; rw [he] at h1; cases h1
  | some z =>
    obtain ⟨a0, c, d⟩ := z
    cases hsb : subAny (sg.sub c) Ts with
    | none => exact no fun w M Qd h => by obtain ⟨_, _, _, _, _, _, h1, h2, _⟩ := exi_elim h; rw [he] at h1; cases h1; rw [hsb] at h2; cases h2
    | some b =>
      obtain ⟨C, oe, pn, X0, eX, hm, hz, hf⟩ := hx.ex a0 c d he
      have key : ∀ {v : V} {M : MM} {w : W} {Qd : W → MM → Prop}, exiW sg Ts [w] M Qd → ∃ fs, w = .d (.exc a0 c d fs) ∧ Qd (.d (.bl b)) M := fun {v M w Qd} h => by
        obtain ⟨a1, c1, d1, fs, b1, e1, h1, h2, h3⟩ := exi_elim h
        rw [he] at h1; cases h1
        rw [hsb] at h2; cases h2
        exact ⟨fs, e1, h3⟩
      have fin : ExcQ B.K C → PE X (.Call (.Name "isinstance" p) [a, t] [] pos) (lE B Wx (lP sg [wa] (.exi Ts))) := by
        intro eq
        rcases ht with ⟨es, k, p2, rfl, hes⟩ | ⟨T, rfl, hT⟩
        · obtain ⟨vs, us, pa, kk, ka, hvl⟩ := clss_pa g hm hes hsb
          have hc : CallR X (.builtin "isinstance") (rIsN X.K C a0 d) := by
            have eK := g.eK
            subst eX
            exact call_isN (by rw [eK]; exact eq) hz hf
          refine PE.imp (pe_callB hc (g.glo _ hg) (g.not (by decide)) (by decide +kernel) (pa_cons ha (pa_cons (pe_tup pa) pa_nil (star_cons hp3)) (star_cons hp2)) (by decide) (by decide) (star_cons hp2) (star_any hp3)) fun σ H Q h => ?_
          refine lE_one (k := fun ws M' Q R => wP sg (.exi Ts) ws M' Q R) h fun α M x v H' Qd R ok rx hk q _ => ?_
          obtain ⟨fs, rfl, h3⟩ := key (v := v) hk
          obtain ⟨rfl, hd⟩ := dic_of rx
          refine tCs_run vs _ _ _ ⟨by rw [sizeLine_eq]; omega, fun p hp => ?_⟩
          rw [g.eK]
          refine ⟨p, vs, us, b, rfl, ?_, upd_same, kk, ka, (q.step (kept_new ok hp)).val (ok.new hp) (x := .bl b) rfl h3⟩
          cases d with
          | none => trivial
          | some dd =>
            obtain ⟨fs', e'⟩ := hd
            exact ⟨fs', by rw [upd_ne (ne_of_none e' hp)]; exact e'⟩
        · obtain ⟨b1, h1, hb1⟩ : ∃ b1, sg.sub c T = some b1 ∧ b1 = b := by
            unfold subAny at hsb
            split at hsb
            · rename_i b1 b2 h1 h2
              cases h2
              cases hsb
              exact ⟨b1, h1, by simp⟩
            · cases hsb
          subst hb1
          obtain ⟨C', cv, m1, _, m2, _, m3⟩ := (g.env.sub c T b1 h1).ex
          rw [hm] at m1
          cases m1
          obtain ⟨v', kv, r⟩ := cls_v m2
          have hc : CallR X (.builtin "isinstance") (rIs1 X.K C a0 d) := by
            have eK := g.eK
            subst eX
            exact call_is1 (by rw [eK]; exact eq) hz hf
          refine PE.imp (pe_callB hc (g.glo _ hg) (g.not (by decide)) (by decide +kernel) (pa_cons ha (pa_cons (cls_pe g hT m2 r) pa_nil (star_cons hp3)) (star_cons hp2)) (by decide) (by decide) (star_cons hp2) (star_any hp3)) fun σ H Q h => ?_
          refine lE_one (k := fun ws M' Q R => wP sg (.exi [T]) ws M' Q R) h fun α M x v H' Qd R ok rx hk q _ => ?_
          obtain ⟨fs, rfl, h3⟩ := key (v := v) hk
          obtain ⟨rfl, hd⟩ := dic_of rx
          rw [g.eK]
          exact ⟨v', cv, b1, rfl, hd, kv, m3, q.val ok (x := .bl b1) rfl h3⟩
      cases Ts with
      | nil => exact absurd hl.1 (by decide)
      | cons T Ts =>
        have hsb' := hsb
        unfold subAny at hsb'
        split at hsb'
        · rename_i b1 b2 h1 h2
          obtain ⟨C', cv, m1, q, _⟩ := (g.env.sub c T b1 h1).ex
          rw [hm] at m1
          cases m1
          exact fin q
        · cases hsb'
theorem c_exf (g : Gw B sg lv N sc X) (hx : ExOk sg B X) {f : Str} {a : Expr} {wa : WE} (hb : notSuper a = true) (ha : PE X a (lE B Wx wa)) : PE X (.Attribute a f pos) (lE B Wx (lP sg [wa] (.exf f))) := by
  have no : (∀ w M Qd, ¬ exfW sg f [w] M Qd) → PE X (.Attribute a f pos) (lE B Wx (lP sg [wa] (.exf f))) := fun hno =>
    ⟨fun pins s σ H Q I h => attr_of (attrBase hb) (thn (ha.run pins s σ H _ I (lE_one (K := fun x H1 => False) (k := fun ws M' Q R => wP sg (.exf f) ws M' Q R) h fun α M x v H' Qd R ok rx hk q _ => hno x M Qd hk)) fun u s1 ⟨_, _, _, _, z⟩ => z.elim)⟩
  cases he : sg.ex with
  | none => exact no fun w M Qd h => by obtain ⟨_, _, _, _, _, _, _, h1, _⟩ := exf_elim h; rw [he] at h1; cases h1
  | some z =>
    obtain ⟨a0, c, d⟩ := z
    by_cases hxc : ∃ ns, sg.xc c = some ns ∧ f ∈ ns
    · obtain ⟨ns, h1, h2⟩ := hxc
      obtain ⟨C, oe, pn, X0, eX, hm, hz, hf⟩ := hx.ex a0 c d he
      obtain ⟨C', fI, fd, ps, k, m1, _, eq, _, _, _, _, _, hno⟩ := (g.env.xc c ns h1).ex
      rw [hm] at m1
      cases m1
      have eK := g.eK
      have T : XfC X.K C := by rw [eK]; exact ⟨eq.hg, eq.hk, eq.hs, eq.hd⟩
      have key : PE X (.Attribute a f pos) (tXf a0 (.ref C) d C f (lE B Wx wa)) → PE X (.Attribute a f pos) (lE B Wx (lP sg [wa] (.exf f))) := fun hpe => by
        refine PE.imp hpe fun σ H Q h => ?_
        refine lE_one (k := fun ws M' Q R => wP sg (.exf f) ws M' Q R) h fun α M x v H' Qd R ok rx hk q _ => ?_
        obtain ⟨a1, c1, d1, fs, y, ns1, e1, h3, h4, h5, h6, h7⟩ := exf_elim hk
        subst e1
        rw [he] at h3; cases h3
        obtain ⟨ev, r⟩ := (rx : Rep B _ _ (.exc a0 c d fs) v)
        cases d with
        | none => subst r; cases h6
        | some dd =>
          obtain ⟨vs, r1, r2, r3⟩ := r
          obtain ⟨v', hv, rv⟩ := RepF.look r3 h6
          exact ⟨ev, rfl, dd, vs, v', rfl, r1, hv, q.val ok (x := y) rv h7⟩
      subst eX
      exact key (pe_xf T (by rw [eK]; exact hno f h2) hz hf ha (attrBase hb))
    · exact no fun w M Qd h => by
        obtain ⟨_, _, _, _, _, ns, _, h1, h2, h3, _⟩ := exf_elim h
        rw [he] at h1; cases h1
        exact hxc ⟨ns, h2, h3⟩
/-! ### terms, as a whole -/
def UOk (sg : Sg) (lv : Nat) (x : Ex) : Prop := ∀ (e : Expr) (B : Bs) (N : List Str) (sc : Scope) (Wx : WX) (X : Cx), Gw B sg lv N sc X → ExOk sg B X → okU N sc x e = true →
  PE X e (lE B Wx (wE sg x)) ∧ PT X e (lT B Wx (wT sg x)) ∧ ∀ op es pos, e = .BoolOp op es pos → PW X e (lT B Wx (wT sg x))
def UsOk (sg : Sg) (lv : Nat) (xs : List Ex) : Prop := ∀ (es : List Expr) (B : Bs) (N : List Str) (sc : Scope) (Wx : WX) (X : Cx), Gw B sg lv N sc X → ExOk sg B X → okUs N sc xs es = true → PEL X B Wx es (xs.map (wE sg))
theorem u_v (i : Nat) : UOk sg lv (.v i) := by
  intro e B N sc Wx X g hx h
  unfold okU at h
  unfold okE at h
  split at h
  · refine ⟨c_var g h, ?_, fun _ _ _ he => by cases he⟩
    refine PT.imp (pt_tru g (c_var g h) fun _ => rfl) fun σ H Q ⟨α, Γ, M, Qd, R, ok, va, hw, q, xx⟩ => ⟨α, Γ, M, Qd, R, ok, va, ?_, q, xx⟩
    simp only [wT] at hw
    simp only [wE]
    exact hw
  · cases h
theorem u_non : UOk sg lv .non := by
  intro e B N sc Wx X g hx h
  unfold okU at h
  unfold okE at h
  split at h
  · exact ⟨c_non, t_no fun _ _ _ _ h => by simp only [wT] at h, fun _ _ _ he => by cases he⟩
  · cases h
theorem u_bl (b : Bool) : UOk sg lv (.bl b) := by
  intro e B N sc Wx X g hx h
  unfold okU at h
  unfold okE at h
  split at h
  · rename_i c _ _
    obtain rfl : c = b := by simpa using h
    exact ⟨c_bl, t_bl, fun _ _ _ he => by cases he⟩
  · cases h
theorem u_int (i : Int) : UOk sg lv (.int i) := by
  intro e B N sc Wx X g hx h
  unfold okU at h
  unfold okE at h
  split at h
  · obtain rfl := of_decide_eq_true h
    exact ⟨c_int, t_no fun _ _ _ _ h => by simp only [wT] at h, fun _ _ _ he => by cases he⟩
  · cases h
theorem u_str (s : Str) : UOk sg lv (.str s) := by
  intro e B N sc Wx X g hx h
  unfold okU at h
  unfold okE at h
  split at h
  · rw [Bool.and_eq_true] at h
    obtain rfl := of_decide_eq_true h.1
    exact ⟨c_str h.2, t_no fun _ _ _ _ h => by simp only [wT] at h, fun _ _ _ he => by cases he⟩
  · cases h
/-- what is made of one operation -/
theorem pr_of {p : Pr} {xs : List Ex} (hp : prK sg p xs.length True = True) {e : Expr} (h : PE X e (lE B Wx (lP sg (xs.map (wE sg)) p))) (hk : ∀ P : Prop, prK sg p xs.length P = P) : PE X e (lE B Wx (wE sg (.pr p xs))) :=
  PE.imp h fun σ H Q ⟨α, Γ, M, Qd, R, ok, va, hw, q, x⟩ => by
    simp only [wE, hk] at hw
    rw [wEs_eq] at hw
    exact ⟨α, Γ, M, Qd, R, ok, va, hw, q, x⟩
theorem pt_pr (g : Gw B sg lv N sc X) {p : Pr} {xs : List Ex} {e : Expr} (hne : ∀ op, p ≠ .cmp op) (he : PlainT e X.env) (h : PE X e (lE B Wx (wE sg (.pr p xs)))) : PT X e (lT B Wx (wT sg (.pr p xs))) := by
  refine PT.imp (pt_tru g h he) fun σ H Q ⟨α, Γ, M, Qd, R, ok, va, hw, q, xx⟩ => ⟨α, Γ, M, Qd, R, ok, va, ?_, q, xx⟩
  cases p <;> first | exact absurd rfl (hne _) | (simp only [wT] at hw; simp only [wE]; exact hw)
theorem u_pr (p : Pr) (xs : List Ex) (h2 : UsOk sg lv xs) : UOk sg lv (.pr p xs) := by
  intro e B N sc Wx X g hx h
  unfold okU at h
  cases p with
  | exi Ts =>
    dsimp only at h
    split at h
    · rename_i x px a t pos
      simp only [Bool.and_eq_true, decide_eq_true_eq] at h
      obtain ⟨⟨⟨⟨⟨rfl, hg⟩, hp⟩, ha⟩, hl⟩, ht⟩ := h
      have hl' := h2 _ B N sc Wx X g hx ha
      have hxs : ∃ x, xs = [x] := by
        cases xs with
        | nil => exact hl'.elim
        | cons x r => cases r with
          | nil => exact ⟨x, rfl⟩
          | cons y r => exact hl'.2.elim
      obtain ⟨x, rfl⟩ := hxs
      have key := c_exi (pos := pos) (p := px) (Wx := Wx) g hx (wa := wE sg x) hg hl hl'.1 hp (by
        have hT : (∃ es k p2, t = Expr.Tuple es k p2 ∧ clsNms sc es Ts = true) ∨ (∃ T, Ts = [T] ∧ clsNm sc t T = true) := by
          cases t with
          | Tuple es k p2 => exact .inl ⟨es, k, p2, rfl, ht⟩
          | _ =>
            dsimp only at ht
            split at ht
            · exact .inr ⟨_, rfl, ht⟩
            · cases ht
        exact hT)
      have key2 := pr_of (p := .exi Ts) (xs := [x]) rfl key fun _ => rfl
      exact ⟨key2, pt_pr g (fun op h => by cases h) (fun _ => rfl) key2, fun _ _ _ he => by cases he⟩
    · cases h
  | exf f =>
    dsimp only at h
    split at h
    · rename_i a f' pos
      simp only [Bool.and_eq_true, decide_eq_true_eq] at h
      obtain ⟨⟨⟨rfl, hs⟩, hp⟩, ha⟩ := h
      have hl' := h2 _ B N sc Wx X g hx ha
      have hxs : ∃ x, xs = [x] := by
        cases xs with
        | nil => exact hl'.elim
        | cons x r => cases r with
          | nil => exact ⟨x, rfl⟩
          | cons y r => exact hl'.2.elim
      obtain ⟨x, rfl⟩ := hxs
      have key2 := pr_of (p := .exf f') (xs := [x]) rfl (c_exf (f := f') (pos := pos) g hx (wa := wE sg x) hs hl'.1) fun _ => rfl
      exact ⟨key2, pt_pr g (fun op h => by cases h) (fun _ => rfl) key2, fun _ _ _ he => by cases he⟩
    · cases h
  | tup f =>
    cases f with
    | true => cases h
    | false =>
      dsimp only at h
      split at h
      · rename_i es kx posx
        simp only [Bool.and_eq_true, decide_eq_true_eq] at h
        obtain ⟨⟨h1, hp⟩, ha⟩ := h
        have key2 := pr_of (p := .tup false) (xs := xs) rfl (c_tup (x1 := kx) (pos := posx) g (h2 _ B N sc Wx X g hx ha) hp h1) fun _ => rfl
        exact ⟨key2, pt_pr g (fun op h => by cases h) (fun _ => rfl) key2, fun _ _ _ he => by cases he⟩
      · cases h
  | lst m =>
    dsimp only at h
    split at h
    · rename_i es posx
      simp only [Bool.and_eq_true, decide_eq_true_eq] at h
      obtain ⟨⟨h1, hp⟩, ha⟩ := h
      have key2 := pr_of (p := .lst m) (xs := xs) rfl (c_lst (pos := posx) g (h2 _ B N sc Wx X g hx ha) hp h1) fun _ => rfl
      exact ⟨key2, pt_pr g (fun op h => by cases h) (fun _ => rfl) key2, fun _ _ _ he => by cases he⟩
    · cases h
  | cmp op =>
    dsimp only at h
    split at h
    · rename_i a op' b pos
      simp only [Bool.and_eq_true, decide_eq_true_eq] at h
      obtain ⟨⟨rfl, hp⟩, ha⟩ := h
      have hl' := h2 _ B N sc Wx X g hx ha
      obtain ⟨x, y, rfl⟩ : ∃ x y, xs = [x, y] := by
        cases xs with
        | nil => exact hl'.elim
        | cons x r => cases r with
          | nil => exact hl'.2.elim
          | cons y r => cases r with
            | nil => exact ⟨x, y, rfl⟩
            | cons _ _ => exact hl'.2.2.elim
      have key2 := pr_of (p := .cmp op') (xs := [x, y]) rfl (c_cmp (pos := pos) g hp hl'.1 hl'.2.1) fun _ => rfl
      refine ⟨key2, ?_, fun _ _ _ he => by cases he⟩
      exact t_cmp (pos := pos) g hp hl'
    · cases h
  | idx =>
    dsimp only at h
    split at h
    · rename_i a b posx
      simp only [Bool.and_eq_true, decide_eq_true_eq] at h
      obtain ⟨hp, ha⟩ := h
      have hl' := h2 _ B N sc Wx X g hx ha
      obtain ⟨x, y, rfl⟩ : ∃ x y, xs = [x, y] := by
        cases xs with
        | nil => exact hl'.elim
        | cons x r => cases r with
          | nil => exact hl'.2.elim
          | cons y r => cases r with
            | nil => exact ⟨x, y, rfl⟩
            | cons _ _ => exact hl'.2.2.elim
      have key2 := pr_of (p := .idx) (xs := [x, y]) rfl (c_idx (pos := posx) g hp hl'.1 hl'.2.1) fun _ => rfl
      exact ⟨key2, pt_pr g (fun op h => by cases h) (fun _ => rfl) key2, fun _ _ _ he => by cases he⟩
    · cases h
  | _ => cases h
theorem u_and (a b : Ex) (h1 : UOk sg lv a) (h2 : UOk sg lv b) : UOk sg lv (.and a b) := by
  intro e B N sc Wx X g hx h
  unfold okU at h
  split at h
  · rename_i x y pos
    rw [Bool.and_eq_true] at h
    obtain ⟨ha, ta, _⟩ := h1 x B N sc Wx X g hx h.1
    obtain ⟨hb, tb, _⟩ := h2 y B N sc Wx X g hx h.2
    have w := t_and (pos := pos) ta (pw_and1 tb)
    exact ⟨c_and g ha (pe_one hb), w.pt, fun _ _ _ _ => w⟩
  · cases h
theorem u_or (a b : Ex) (h1 : UOk sg lv a) (h2 : UOk sg lv b) : UOk sg lv (.or a b) := by
  intro e B N sc Wx X g hx h
  unfold okU at h
  split at h
  · rename_i x y pos
    rw [Bool.and_eq_true] at h
    obtain ⟨ha, ta, _⟩ := h1 x B N sc Wx X g hx h.1
    obtain ⟨hb, tb, _⟩ := h2 y B N sc Wx X g hx h.2
    have w := t_or (pos := pos) ta (pw_or1 tb)
    exact ⟨c_or g ha (pe_one hb), w.pt, fun _ _ _ _ => w⟩
  · cases h
theorem u_not (a : Ex) (h1 : UOk sg lv a) : UOk sg lv (.not a) := by
  intro e B N sc Wx X g hx h
  unfold okU at h
  split at h
  · obtain ⟨ha, ta, _⟩ := h1 _ B N sc Wx X g hx h
    exact ⟨c_not g ha, t_not ta, fun _ _ _ he => by cases he⟩
  · cases h
theorem u_ife (c a b : Ex) (h0 : UOk sg lv c) (h1 : UOk sg lv a) (h2 : UOk sg lv b) : UOk sg lv (.ife c a b) := by
  intro e B N sc Wx X g hx h
  unfold okU at h
  split at h
  · simp only [Bool.and_eq_true] at h
    obtain ⟨⟨hc, ha⟩, hb⟩ := h
    exact ⟨c_ife (h0 _ B N sc Wx X g hx hc).2.1 (h1 _ B N sc Wx X g hx ha).1 (h2 _ B N sc Wx X g hx hb).1, t_no fun _ _ _ _ h => by simp only [wT] at h, fun _ _ _ he => by cases he⟩
  · cases h
theorem us_nil : UsOk sg lv [] := by
  intro es B N sc Wx X g hx h
  cases es with
  | nil => exact trivial
  | cons e es => unfold okUs at h; cases h
theorem us_cons {x : Ex} {xs : List Ex} (h1 : UOk sg lv x) (h2 : UsOk sg lv xs) : UsOk sg lv (x :: xs) := by
  intro es B N sc Wx X g hx h
  cases es with
  | nil => unfold okUs at h; cases h
  | cons e es =>
    unfold okUs at h
    dsimp only at h
    rw [Bool.and_eq_true] at h
    exact ⟨(h1 e B N sc Wx X g hx h.1).1, h2 es B N sc Wx X g hx h.2⟩
theorem u_none {x : Ex} (hn : ∀ N sc e, okU N sc x e = false) : UOk sg lv x := fun e B N sc Wx X g hx h => by rw [hn] at h; cases h
mutual
theorem sndU : ∀ x : Ex, UOk sg lv x
  | .v i => u_v i
  | .non => u_non
  | .bl b => u_bl b
  | .int i => u_int i
  | .str s => u_str s
  | .gl x => u_none fun _ _ _ => by unfold okU; rfl
  | .pr p xs => u_pr p xs (sndUs xs)
  | .me _ _ _ _ => u_none fun _ _ _ => by unfold okU; rfl
  | .mt _ _ _ _ => u_none fun _ _ _ => by unfold okU; rfl
  | .and a b => u_and a b (sndU a) (sndU b)
  | .or a b => u_or a b (sndU a) (sndU b)
  | .not a => u_not a (sndU a)
  | .ife c a b => u_ife c a b (sndU c) (sndU a) (sndU b)
  | .chn _ _ _ _ _ => u_none fun _ _ _ => by unfold okU; rfl
  | .sl2 _ _ _ _ => u_none fun _ _ _ => by unfold okU; rfl
  | .dsp _ _ _ => u_none fun _ _ _ => by unfold okU; rfl
  | .dk1 _ _ _ => u_none fun _ _ _ => by unfold okU; rfl
  | .lc _ _ _ _ _ _ _ => u_none fun _ _ _ => by unfold okU; rfl
theorem sndUs : ∀ xs : List Ex, UsOk sg lv xs
  | [] => us_nil
  | x :: xs => us_cons (sndU x) (sndUs xs)
end
end
end DL

/-! DL21: statements. -/
namespace DL
open PySem PySem.Spec L2 PyProof.Rows
structure Gs (B : Bs) (sg : Sg) (lv : Nat) (N : List Str) (sc : Scope) (Wx : WX) (X : Cx) : Prop where
  g : Gd B sg lv N sc Wx X
  esc : X.env.scope = sc
  own : PassesOwn (model X.prog X.w) X.A X.env X.xe
  tk : Takes X Wx
  stk : X.stack = X.env :: X.outer
  frm : X.env.frame = some X.env.locals
structure SOk (B : Bs) (Wx : WX) (α : List Addr) (M : MM) (H : Hp) (E : DE) (D : Ends) : Prop where
  nx : ∀ α' Γ' M' σ' H', Step α M H α' M' H' → Ok B α' M' H' → Vars B α' M' H' Γ' σ' → E.nx Γ' M' → D.nx σ' H'
  bk : ∀ α' Γ' M' σ' H', Step α M H α' M' H' → Ok B α' M' H' → Vars B α' M' H' Γ' σ' → E.bk Γ' M' → D.bk σ' H'
  ct : ∀ α' Γ' M' σ' H', Step α M H α' M' H' → Ok B α' M' H' → Vars B α' M' H' Γ' σ' → E.ct Γ' M' → D.ct σ' H'
  rt : QOk B α M H E.rt D.rt
  xr : ∀ α' Γ' M' σ' H', Step α M H α' M' H' → Ok B α' M' H' → Vars B α' M' H' Γ' σ' → XOk B Wx σ' α' M' H' (E.xr Γ')
def lS (B : Bs) (Wx : WX) (w : WS) : TS := fun D σ H => ∃ α Γ M E, Ok B α M H ∧ Vars B α M H Γ σ ∧ w Γ M E ∧ SOk B Wx α M H E D
/-! ### what the look asks of a statement -/
def noComp (e : Expr) : Bool := match e with
  | .ListComp _ _ _ _ => false
  | .SetComp _ _ _ _ => false
  | .DictComp _ _ _ _ _ => false
  | _ => true
def swB (sc : Scope) (x : Str) (p : Pos) (e : Expr) : Bool := match e with
  | .ListComp _ _ s pos => decide (sc.names.lookup x = some .local) && (p.line == pos.line) && !(s.names.any fun (n, k) => n == x && (k == .local || k == .cell))
  | _ => false
def noTup (e : Expr) : Bool := match e with
  | .Tuple vs _ _ => vs.all (foldedForSure 8)
  | _ => true
def nmLine (sc : Scope) (l : Nat) (e : Expr) : Bool := match e with
  | .Name x p => decide (sc.names.lookup x = some .local) && (p.line == l)
  | _ => false
def noStar (e : Expr) : Bool := match e with
  | .Starred _ _ => false
  | _ => true
def parOk (sc : Scope) (ts vs : List Expr) : Bool := vs.all noStar && !vs.all (foldedForSure 8) && !vs.all (constantsAlone 8) && (match ts with
  | [.Name x p, e2] => nmLine sc p.line (.Name x p) && nmLine sc p.line e2 && decide (vs.length = 2)
  | _ => false)
def lnNames (sc : Scope) (ts : List Expr) : List Str := ts.filterMap fun e => match e with
  | .Name id pos => if sc.names.lookup id == some .local && pos.line == (ts.head?.map (·.pos.line)).getD 0 then some id else none
  | _ => none
def swNone (sc : Scope) (ts vs : List Expr) : Bool := !(ts.length == 2 || ts.length == 3) || vs.length != ts.length || (lnNames sc ts).length != ts.length || vs.all (foldedForSure 8)
def par3Ok (sc : Scope) (ts vs : List Expr) : Bool := vs.all noStar && !vs.all (foldedForSure 8) && !vs.all (constantsAlone 8) && (match ts with
  | [.Name x p, e2, e3] => nmLine sc p.line (.Name x p) && nmLine sc p.line e2 && nmLine sc p.line e3 && decide (vs.length = 3)
  | _ => false)
/-- statements of a suite -/
def okV (N : List Str) (sc : Scope) : List Sx → List Stmt → Bool
  | [], sts => sts.isEmpty
  | .asg i e :: r, sts => (match sts with
    | .Assign [.Name x p] v _ :: sts => okNm N sc i (.Name x p) && noComp v && okU N sc e v && okV N sc r sts
    | _ => false)
  | .ret e :: r, sts => (match sts with
    | .Return (some v) _ :: sts => okU N sc e v && okV N sc r sts
    | _ => false)
  | _ :: _, _ => false
def okHs (N : List Str) (sc : Scope) : List Sx → List ExceptHandler → Bool
  | [], hds => hds.isEmpty
  | .hnd T i s :: r, hds => (match hds with
    | .ExceptHandler (some (.Name x _)) nm (b₀ :: suite) _ :: hds => decide (x = T) && gloB sc x && nmB x && (match nm, i with
      | none, none => true
      | some n, some j => decide (N[j]? = some n) && decide (sc.names.lookup n = some .local)
      | _, _ => false) && okV N sc s (b₀ :: suite) && okHs N sc r hds
    | _ => false)
  | _ :: _, _ => false
mutual
def okS (N : List Str) (sc : Scope) : Sx → Stmt → Bool
  | .asg i e, st => (match st with
    | .Assign [.Name x p] v _ => okNm N sc i (.Name x p) && okE N sc e v
    | _ => false)
  | .asgT is e, st => (match st with
    | .Assign [.Tuple ts _ _] v _ => okNms N sc is ts && okE N sc e v && noTup v
    | _ => false)
  | .par is es, st => (match st with
    | .Assign [.Tuple ts _ _] (.Tuple vs _ _) _ => okNms N sc is ts && okEs N sc es vs && vs.all plainX && (parOk sc ts vs || par3Ok sc ts vs || swNone sc ts vs) && decide is.Nodup && decide (es.length ≤ 30)
    | _ => false)
  | .sub a k e, st => (match st with
    | .Assign [.Subscript o i _] v _ => okE N sc a o && okE N sc k i && okE N sc e v && plainX i
    | _ => false)
  | .fld a f e, st => (match st with
    | .Assign [.Attribute o f' _] v _ => decide (f' = f) && okE N sc a o && okE N sc e v
    | _ => false)
  | .aug i op e, st => (match st with
    | .AugAssign (.Name x p) op' v _ => okNm N sc i (.Name x p) && decide (op' = op) && okE N sc e v
    | _ => false)
  | .exp e, st => (match st with
    | .Expr v _ => noComp v && okE N sc e v
    | _ => false)
  | .ret e, st => (match st with
    | .Return (some v) _ => okE N sc e v
    | _ => false)
  | .retN, st => (match st with
    | .Return none _ => true
    | _ => false)
  | .ite c a b, st => (match st with
    | .If e x y _ => okE N sc c e && okSs N sc a x && okSs N sc b y
    | _ => false)
  | .whl c b, st => (match st with
    | .While e x [] _ => okE N sc c e && okSs N sc b x
    | _ => false)
  | .fors tg k its b, st => (match st with
    | .For t iter x [] _ => okTg N sc tg t && plainX iter && (match decIt sc k iter with
      | some is => is.all plainX && okEs N sc its is
      | none => false) && okSs N sc b x
    | _ => false)
  | .brk, st => (match st with
    | .Break _ => true
    | _ => false)
  | .cnt, st => (match st with
    | .Continue _ => true
    | _ => false)
  | .pss, st => (match st with
    | .Pass _ => true
    | _ => false)
  | .rse c es, st => (match st with
    | .Raise (some (.Call (.Name x _) as [] _)) none _ => decide (x = c) && gloB sc x && nmB x && as.all plainX && decide (as.length ≤ 100) && okEs N sc es as
    | _ => false)
  | .bad, _ => true
  | .hnd _ _ _, _ => false
  | .tri b hs, st => (match st with
    | .Try body (h :: hds) [] [] _ => okSs N sc b body && okHs N sc hs (h :: hds)
    | _ => false)
  | .frz _, _ => false
def okSs (N : List Str) (sc : Scope) : List Sx → List Stmt → Bool
  | [], sts => sts.isEmpty
  | s :: r, sts => (match s with
    | .frz _ => okSs N sc r sts
    | s => (match sts with
      | st :: sts => okS N sc s st && okSs N sc r sts
      | [] => false))
end
end DL

/-! DL22: statements one by one. -/
namespace DL
open PySem PySem.Spec L2 PyProof.Rows
section
variable {B : Bs} {sg : Sg} {lv : Nat} {N : List Str} {sc : Scope} {Wx : WX} {X : Cx} {σ : L2.St} {α α' : List Addr} {M M' : MM} {H H' : Hp} {D : Ends} {E : DE} {pos : Pos}
theorem SOk.step (k : SOk B Wx α M H E D) (s : Step α M H α' M' H') : SOk B Wx α' M' H' E D :=
  ⟨fun a g m σ h t => k.nx a g m σ h (s.trans t), fun a g m σ h t => k.bk a g m σ h (s.trans t), fun a g m σ h t => k.ct a g m σ h (s.trans t), k.rt.step s, fun a g m σ h t => k.xr a g m σ h (s.trans t)⟩
theorem SOk.x {Γ : GG} (k : SOk B Wx α M H E D) (ok : Ok B α M H) (va : Vars B α M H Γ σ) : XOk B Wx σ α M H (E.xr Γ) := k.xr α Γ M σ H (Step.refl _ _ _) ok va
theorem sw_false {e : Expr} {t : Option Expr} {l : Nat} {env : Env} (h : noComp e = true) : swapsWith e t l env = pure false := by
  cases e <;> first | rfl | cases h
theorem sw_sole {t e : Expr} {l : Nat} {env : Env} (h : ∀ x p, t ≠ .Name x p) : swapsWithSole [t] e l env = pure false := by
  show swapsWith e (some t) l env = pure false
  unfold swapsWith
  cases t <;> first | exact absurd rfl (h _ _) | (cases e <;> rfl)
theorem lS_nx (h : lS B Wx (fun Γ M E => E.nx Γ M) D σ H) : D.nx σ H := by
  obtain ⟨α, Γ, M, E, ok, va, hw, k⟩ := h
  exact k.nx α Γ M σ H (Step.refl _ _ _) ok va hw
theorem s_pss : PS X (.Pass pos) (lS B Wx (wS sg .pss)) := PS.imp ps_pass fun D σ H h => lS_nx (by simpa only [wS] using h)
theorem s_brk : PS X (.Break pos) (lS B Wx (wS sg .brk)) := PS.imp ps_break fun D σ H ⟨α, Γ, M, E, ok, va, hw, k⟩ => k.bk α Γ M σ H (Step.refl _ _ _) ok va (by simpa only [wS] using hw)
theorem s_cnt : PS X (.Continue pos) (lS B Wx (wS sg .cnt)) := PS.imp ps_continue fun D σ H ⟨α, Γ, M, E, ok, va, hw, k⟩ => k.ct α Γ M σ H (Step.refl _ _ _) ok va (by simpa only [wS] using hw)
theorem s_retN : PS X (.Return none pos) (lS B Wx (wS sg .retN)) := PS.imp ps_retN fun D σ H ⟨α, Γ, M, E, ok, va, hw, k⟩ => k.rt α M (.d .non) .non H (Step.refl _ _ _) ok rfl (by simpa only [wS] using hw)
theorem s_ret {v : Expr} {e : Ex} (he : PE X v (lE B Wx (wE sg e))) : PS X (.Return (some v) pos) (lS B Wx (wS sg (.ret e))) := PS.imp (ps_ret he) fun D σ H ⟨α, Γ, M, E, ok, va, hw, k⟩ => by
  simp only [wS] at hw
  exact ⟨α, Γ, M, E.rt, _, ok, va, hw, k.rt, k.x ok va⟩
theorem s_exp {v : Expr} {e : Ex} (hn : noComp v = true) (he : PE X v (lE B Wx (wE sg e))) : PS X (.Expr v pos) (lS B Wx (wS sg (.exp e))) := PS.imp (ps_expr he (sw_false hn)) fun D σ H ⟨α, Γ, M, E, ok, va, hw, k⟩ => by
  simp only [wS] at hw
  exact ⟨α, Γ, M, _, _, ok, va, hw, fun α1 M1 x v H1 s1 ok1 r1 h1 => k.nx α1 Γ M1 σ H1 s1 ok1 (va.step s1) h1, k.x ok va⟩
theorem w_asg {e : Ex} {i : Nat} (h : lS B Wx (wS sg (.asg i e)) D σ H) : tAsg (lE B Wx (wE sg e)) (gName i) D σ H := by
  obtain ⟨α, Γ, M, E, ok, va, hw, k⟩ := h
  simp only [wS] at hw
  exact ⟨α, Γ, M, _, _, ok, va, hw, fun α1 M1 x v H1 s1 ok1 r1 h1 => k.nx α1 _ M1 _ H1 s1 ok1 ((va.step s1).set i r1) h1, k.x ok va⟩
theorem s_asgT (g : Gs B sg lv N sc Wx X) {is : List Nat} {ts : List Expr} {v : Expr} {e : Ex} {kk : Nat} {p : Pos} (ht : okNms N sc is ts = true) (he : PE X v (lE B Wx (wE sg e))) (hn : noTup v = true) :
    PS X (.Assign [.Tuple ts kk p] v pos) (lS B Wx (wS sg (.asgT is e))) := by
  have hw : swappedStores [.Tuple ts kk p] v X.env = pure none := by
    cases v with
    | Tuple vs k2 p2 =>
      have hf : vs.all (foldedForSure 8) = true := hn
      unfold swappedStores
      simp only [hf, if_true]
      split
      · rfl
      · split
        · rfl
        · split
          · rfl
          · rfl
    | _ => rfl
  refine PS.imp (ps_asg he (pg_of (tg := .t is) g.g ht) (sw_sole fun x p h => nomatch h) hw) fun D σ H ⟨α, Γ, M, E, ok, va, hw, k⟩ => ?_
  simp only [wS] at hw
  refine ⟨α, Γ, M, _, _, ok, va, hw, fun α1 M1 x v H1 s1 ok1 r1 h1 => ?_, k.x ok va⟩
  cases x with
  | ref j => exact (show False from h1).elim
  | d d => exact tg_snd (tg := .t is) g.g.eK (va.step s1) r1 h1 fun Γ' σ' va' h _ => k.nx α1 Γ' M1 σ' H1 s1 ok1 va' h
theorem setO {X : Cx} {t t' : TSet} (h : PSet X t) (h' : PSet X t') : PSet X (fun o i v H Q => t o i v H Q ∨ t' o i v H Q) := fun pins s σ H o i v ov iv u Q I r1 r2 r3 q => q.elim (h pins s σ H o i v ov iv u Q I r1 r2 r3) (h' pins s σ H o i v ov iv u Q I r1 r2 r3)
theorem RepK.put {L : Addr → Prop} {y : Key} {d : DL.D} {u : V} (ru : Rep B L H d u) : ∀ {kvs : List (Key × DL.D)} {ks : List (Key × V)}, RepK B L H kvs ks → RepK B L H (kvs.map fun kv => if kv.1 = y then (kv.1, d) else kv) (ks.map fun kv => if kv.1 = y then (kv.1, u) else kv)
  | [], _, h => by cases h; rfl
  | (k, x) :: r, _, h => by
    obtain ⟨v, s, rfl, h1, h2⟩ := h
    simp only [List.map_cons]
    by_cases c : k = y
    · rw [if_pos c, if_pos c]; exact ⟨u, _, rfl, ru, RepK.put ru h2⟩
    · rw [if_neg c, if_neg c]; exact ⟨v, _, rfl, h1, RepK.put ru h2⟩
theorem RepK.keys {L : Addr → Prop} : ∀ {kvs : List (Key × DL.D)} {ks : List (Key × V)} {y : Key}, RepK B L H kvs ks → (ks.any fun kv => decide (kv.1 = y)) = (kvs.any fun kv => decide (kv.1 = y))
  | [], _, _, h => by cases h; rfl
  | (k, x) :: r, _, y, h => by
    obtain ⟨v, s, rfl, h1, h2⟩ := h
    rw [List.any_cons, List.any_cons, RepK.keys h2]
theorem RepK.snoc {L : Addr → Prop} {y : Key} {d : DL.D} {u : V} (ru : Rep B L H d u) : ∀ {kvs : List (Key × DL.D)} {ks : List (Key × V)}, RepK B L H kvs ks → RepK B L H (kvs ++ [(y, d)]) (ks ++ [(y, u)])
  | [], _, h => by cases h; exact ⟨u, [], rfl, ru, rfl⟩
  | (k, x) :: r, _, h => by
    obtain ⟨v, s, rfl, h1, h2⟩ := h
    exact ⟨v, _, rfl, h1, RepK.snoc ru h2⟩
theorem RepK.putK {L : Addr → Prop} {y : Key} {d : DL.D} {u : V} (ru : Rep B L H d u) {kvs : List (Key × DL.D)} {ks : List (Key × V)} (h : RepK B L H kvs ks) : RepK B L H (putG kvs y d) (L2.putK ks y u) := by
  unfold putG L2.putK
  rw [h.keys]
  by_cases c : (kvs.any fun kv => decide (kv.1 = y)) = true
  · rw [if_pos c, if_pos c]; exact RepK.put ru h
  · rw [if_neg c, if_neg c]; exact RepK.snoc ru h
theorem RepT.put {L : Addr → Prop} {y : List Key} {d : DL.D} {u : V} (ru : Rep B L H d u) : ∀ {kvs : List (List Key × DL.D)} {ks : List (List Key × V)}, RepT B L H kvs ks → RepT B L H (kvs.map fun kv => if kv.1 = y then (kv.1, d) else kv) (ks.map fun kv => if kv.1 = y then (kv.1, u) else kv)
  | [], _, h => by cases h; rfl
  | (k, x) :: r, _, h => by
    obtain ⟨v, s, rfl, h1, h2⟩ := h
    simp only [List.map_cons]
    by_cases c : k = y
    · rw [if_pos c, if_pos c]; exact ⟨u, _, rfl, ru, RepT.put ru h2⟩
    · rw [if_neg c, if_neg c]; exact ⟨v, _, rfl, h1, RepT.put ru h2⟩
theorem RepT.keys {L : Addr → Prop} : ∀ {kvs : List (List Key × DL.D)} {ks : List (List Key × V)} {y : List Key}, RepT B L H kvs ks → (ks.any fun kv => decide (kv.1 = y)) = (kvs.any fun kv => decide (kv.1 = y))
  | [], _, _, h => by cases h; rfl
  | (k, x) :: r, _, y, h => by
    obtain ⟨v, s, rfl, h1, h2⟩ := h
    rw [List.any_cons, List.any_cons, RepT.keys h2]
theorem RepT.snoc {L : Addr → Prop} {y : List Key} {d : DL.D} {u : V} (ru : Rep B L H d u) : ∀ {kvs : List (List Key × DL.D)} {ks : List (List Key × V)}, RepT B L H kvs ks → RepT B L H (kvs ++ [(y, d)]) (ks ++ [(y, u)])
  | [], _, h => by cases h; exact ⟨u, [], rfl, ru, rfl⟩
  | (k, x) :: r, _, h => by
    obtain ⟨v, s, rfl, h1, h2⟩ := h
    exact ⟨v, _, rfl, h1, RepT.snoc ru h2⟩
theorem RepT.putK {L : Addr → Prop} {y : List Key} {d : DL.D} {u : V} (ru : Rep B L H d u) {kvs : List (List Key × DL.D)} {ks : List (List Key × V)} (h : RepT B L H kvs ks) : RepT B L H (putG kvs y d) (L2.putK ks y u) := by
  unfold putG L2.putK
  rw [h.keys]
  by_cases c : (kvs.any fun kv => decide (kv.1 = y)) = true
  · rw [if_pos c, if_pos c]; exact RepT.put ru h
  · rw [if_neg c, if_neg c]; exact RepT.snoc ru h
theorem RepKW.put {y : Key} {d : W} {u : V} (ru : RepW B α M H d u) : ∀ {kvs : List (Key × W)} {ks : List (Key × V)}, RepKW B α M H kvs ks → RepKW B α M H (kvs.map fun kv => if kv.1 = y then (kv.1, d) else kv) (ks.map fun kv => if kv.1 = y then (kv.1, u) else kv)
  | [], _, h => by cases h; rfl
  | (k, x) :: r, _, h => by
    obtain ⟨v, s, rfl, h1, h2⟩ := h
    simp only [List.map_cons]
    by_cases c : k = y
    · rw [if_pos c, if_pos c]; exact ⟨u, _, rfl, ru, RepKW.put ru h2⟩
    · rw [if_neg c, if_neg c]; exact ⟨v, _, rfl, h1, RepKW.put ru h2⟩
theorem RepKW.keys : ∀ {kvs : List (Key × W)} {ks : List (Key × V)} {y : Key}, RepKW B α M H kvs ks → (ks.any fun kv => decide (kv.1 = y)) = (kvs.any fun kv => decide (kv.1 = y))
  | [], _, _, h => by cases h; rfl
  | (k, x) :: r, _, y, h => by
    obtain ⟨v, s, rfl, h1, h2⟩ := h
    rw [List.any_cons, List.any_cons, RepKW.keys h2]
theorem RepKW.snoc {y : Key} {d : W} {u : V} (ru : RepW B α M H d u) : ∀ {kvs : List (Key × W)} {ks : List (Key × V)}, RepKW B α M H kvs ks → RepKW B α M H (kvs ++ [(y, d)]) (ks ++ [(y, u)])
  | [], _, h => by cases h; exact ⟨u, [], rfl, ru, rfl⟩
  | (k, x) :: r, _, h => by
    obtain ⟨v, s, rfl, h1, h2⟩ := h
    exact ⟨v, _, rfl, h1, RepKW.snoc ru h2⟩
theorem RepKW.putK {y : Key} {d : W} {u : V} (ru : RepW B α M H d u) {kvs : List (Key × W)} {ks : List (Key × V)} (h : RepKW B α M H kvs ks) : RepKW B α M H (putG kvs y d) (L2.putK ks y u) := by
  unfold putG L2.putK
  rw [h.keys]
  by_cases c : (kvs.any fun kv => decide (kv.1 = y)) = true
  · rw [if_pos c, if_pos c]; exact RepKW.put ru h
  · rw [if_neg c, if_neg c]; exact RepKW.snoc ru h
theorem RepKW.len {κ : Type} : ∀ {kvs : List (κ × W)} {ks : List (κ × V)}, RepKW B α M H kvs ks → ks.length = kvs.length
  | [], _, h => by cases h; rfl
  | (k, x) :: r, _, h => by
    obtain ⟨v, s, rfl, h1, h2⟩ := h
    rw [List.length_cons, List.length_cons, RepKW.len h2]
theorem RepT.len {L : Addr → Prop} : ∀ {kvs : List (List Key × DL.D)} {ks : List (List Key × V)}, RepT B L H kvs ks → ks.length = kvs.length
  | [], _, h => by cases h; rfl
  | (k, x) :: r, _, h => by
    obtain ⟨v, s, rfl, h1, h2⟩ := h
    rw [List.length_cons, List.length_cons, RepT.len h2]
/-- o[k] = v -/
theorem setItem_snd {q : MM → Prop} {Q : Hp → Prop} {o i v : W} {ov iv vv : V} (ok : Ok B α M H) (ro : RepW B α M H o ov) (ri : RepW B α M H i iv) (rv : RepW B α M H v vv) (h : setItemW o i v M q)
    (f : ∀ M' H', Step α M H α M' H' → Ok B α M' H' → q M' → Q H') : rSetL ov iv vv H Q ∨ rSetD ov iv vv H Q := by
  unfold setItemW at h
  split at h
  · rename_i j k x
    obtain ⟨a, ha, rfl⟩ := ro
    split at h
    · rename_i xs em
      obtain ⟨oo, ho, vs, rfl, r⟩ := ok.obj j _ a em ha
      split at h
      · rename_i z
        cases ri
        split at h
        · rename_i n en
          have hl := r.len
          refine .inl ⟨a, vs, z, n, rfl, rfl, ho, by rw [hl]; exact en, ?_⟩
          have ro : RepO B α M H (.lst (xs.set n x)) (.lst (vs.set n vv)) := ⟨_, rfl, r.set n rv⟩
          exact f _ _ (step_write ok em ha) (ok.write em ha ro) h
        · exact h.elim
      · exact h.elim
    · rename_i xs em
      obtain ⟨oo, ho, vs, rfl, r⟩ := ok.obj j _ a em ha
      split at h
      · rename_i y ey
        have e2 := keyD_rep ey ri
        subst e2
        refine .inr ⟨a, _, rfl, DPut.k ho (by rw [RepK.len r]; exact h.1), ?_⟩
        have ro : RepO B α M H (.dct (putG xs y x)) (.dK (L2.putK vs y vv)) := ⟨_, rfl, RepK.putK rv r⟩
        exact f _ _ (step_write ok em ha) (ok.write em ha ro) h.2
      · exact h.elim
    · rename_i xs em
      obtain ⟨oo, ho, vs, rfl, r⟩ := ok.obj j _ a em ha
      split at h
      · rename_i ts
        have ri' : Rep B _ _ (.tup ts) iv := ri
        obtain ⟨b, us, rfl, hb, _, rt⟩ := ri'
        split at h
        · rename_i y ey
          have e2 := keysD_rep ey rt
          subst e2
          refine .inr ⟨a, _, rfl, DPut.t ho hb (by rw [RepT.len r]; exact h.1), ?_⟩
          have ro : RepO B α M H (.dctT (putG xs y x)) (.dT (L2.putK vs y vv)) := ⟨_, rfl, RepT.putK rv r⟩
          exact f _ _ (step_write ok em ha) (ok.write em ha ro) h.2
        · exact h.elim
      · exact h.elim
    · rename_i xs em
      obtain ⟨oo, ho, vs, rfl, r⟩ := ok.obj j _ a em ha
      split at h
      · rename_i y ey
        have e2 := keyD_rep ey ri
        subst e2
        refine .inr ⟨a, _, rfl, DPut.k ho (by rw [RepKW.len r]; exact h.1), ?_⟩
        have ro : RepO B α M H (.dcw (putG xs y (.d x))) (.dK (L2.putK vs y vv)) := ⟨_, rfl, RepKW.putK (d := .d x) rv r⟩
        exact f _ _ (step_write ok em ha) (ok.write em ha ro) h.2
      · exact h.elim
    · exact h.elim
  · exact h.elim
theorem s_sub (g : Gs B sg lv N sc Wx X) {o i v : Expr} {a k e : Ex} {p : Pos} (hi : plainX i = true) (ha : PE X o (lE B Wx (wE sg a))) (hk : PE X i (lE B Wx (wE sg k))) (he : PE X v (lE B Wx (wE sg e))) : PS X (.Assign [.Subscript o i p] v pos) (lS B Wx (wS sg (.sub a k e))) := by
  have := g.g.u
  have hps := setO (set_list (X := X)) (set_dict (X := X) (by omega))
  have hassign : ∀ v, assign (.Subscript o i p) X.env v = (do
      let ov ← holding [v] (eval o X.env)
      let iv ← holding [v, ov] (eval i X.env)
      standAt p
      holding [v, ov, iv] (setItem ov iv v)
      release [v, ov, iv] []) := by
    intro v
    cases i <;> first | rfl | cases hi
  refine PS.imp (ps_asg he (pg_sub ha hk hps hassign) (sw_sole fun x p h => nomatch h) rfl) fun D σ H ⟨α, Γ, M, E, ok, va, hw, kk⟩ => ?_
  simp only [wS] at hw
  refine ⟨α, Γ, M, _, _, ok, va, hw, fun α1 M1 x v H1 s1 ok1 r1 h1 => ?_, kk.x ok va⟩
  refine ⟨α1, Γ, M1, _, _, ok1, va.step s1, h1, fun α2 M2 y u H2 s2 ok2 r2 h2 => ?_, (kk.x ok va).step s1⟩
  have s12 := s1.trans s2
  refine ⟨α2, Γ, M2, _, _, ok2, va.step s12, h2, fun α3 M3 z t H3 s3 ok3 r3 h3 => ?_, (kk.x ok va).step s12⟩
  have s13 := s12.trans s3
  exact setItem_snd ok3 (r2.step s3) r3 (r1.step (s2.trans s3)) h3 fun M4 H4 s4 ok4 h4 => kk.nx α3 Γ M4 σ H4 (s13.trans s4) ok4 (va.step (s13.trans s4)) h4
theorem RepKW.putF {f : Str} {w : W} {u : V} (ru : RepW B α M H w u) : ∀ {fs : List (Str × W)} {vs : List (Str × V)}, RepKW B α M H fs vs → RepKW B α M H (putF' f w fs) (L2.putF f u vs)
  | [], _, h => by cases h; exact ⟨u, [], rfl, ru, rfl⟩
  | (k, x) :: r, _, h => by
    obtain ⟨v, s, rfl, h1, h2⟩ := h
    unfold putF' L2.putF
    by_cases c : k = f
    · rw [if_pos c, if_pos c]; exact ⟨u, s, by first | rfl | rw [c], ru, h2⟩
    · rw [if_neg c, if_neg c]; exact ⟨v, _, rfl, h1, RepKW.putF ru h2⟩
theorem s_fld (g : Gs B sg lv N sc Wx X) {o v : Expr} {a e : Ex} {f : Str} {p : Pos} (ha : PE X o (lE B Wx (wE sg a))) (he : PE X v (lE B Wx (wE sg e))) : PS X (.Assign [.Attribute o f p] v pos) (lS B Wx (wS sg (.fld a f e))) := by
  refine PS.imp (ps_fld ha he (by show swapsWith v (some (.Attribute o f p)) _ _ = _; unfold swapsWith; cases v <;> rfl)) fun D σ H ⟨α, Γ, M, E, ok, va, hw, kk⟩ => ?_
  simp only [wS] at hw
  refine ⟨α, Γ, M, _, _, ok, va, hw, fun α1 M1 x v H1 s1 ok1 r1 h1 => ?_, kk.x ok va⟩
  refine ⟨α1, Γ, M1, _, _, ok1, va.step s1, h1, fun α2 M2 y u H2 s2 ok2 r2 h2 => ?_, (kk.x ok va).step s1⟩
  have s12 := s1.trans s2
  rw [g.g.eK]
  replace h2 : setFldW sg.fa y f x M2 (fun M3 => E.nx Γ M3) := h2
  unfold setFldW at h2
  split at h2
  · rename_i i
    obtain ⟨a, hα, rfl⟩ := r2
    split at h2
    · rename_i c fs em
      obtain ⟨o, ho, C, dx, vs, rfl, hm, r⟩ := ok2.obj i _ a em hα
      obtain ⟨fa, hl, h2⟩ := h2
      obtain ⟨h3, h4⟩ := g.g.env.fa c f fa C hm
      refine ⟨a, C, dx, vs, rfl, ho, h3, h4, by rw [RepKW.len r]; exact hl, ?_⟩
      have ro : RepO B α2 M2 H2 (.ins c (putF' f x fs)) (.ins C dx (L2.putF f v vs)) := ⟨C, dx, _, rfl, hm, RepKW.putF (r1.step s2) r⟩
      have s3 := step_write (mo' := .ins c (putF' f x fs)) (o := .ins C dx (L2.putF f v vs)) ok2 em hα
      exact kk.nx α2 Γ _ σ _ (s12.trans s3) (ok2.write em hα ro) (va.step (s12.trans s3)) h2
    · exact h2.elim
  · exact h2.elim
theorem aug_snd (op : Operator) : ∃ r : R2, OpR X (inplaceOp op) r ∧ ∀ (α : List Addr) (M : MM) (H : Hp) (Qd : W → MM → Prop) (Q : VK) (x y : W) (v u : V), Ok B α M H → RepW B α M H x v → RepW B α M H y u → augW op x y M Qd → QOk B α M H Qd Q → r v u H Q := by
  cases op with
  | Add =>
    refine ⟨_, opOr (opOr iop_add iop_add_str) iop_ext, fun α M H Qd Q x y v u ok rx ry h q => ?_⟩
    unfold augW at h
    split at h
    · cases rx; cases ry; exact .inl (.inl ⟨_, _, rfl, rfl, q.val ok (x := .int _) rfl h⟩)
    · exact absurd (by assumption : Operator.Add = Operator.Sub) (by decide)
    · rename_i i _
      obtain ⟨a, ha, rfl⟩ := rx
      split at h
      · rename_i xs ys em ey
        obtain ⟨o, ho, vs, rfl, r⟩ := ok.obj i _ a em ha
        obtain ⟨b, us, rfl, hb, r2⟩ := view ok ey ry
        refine .inr ⟨a, b, vs, us, rfl, rfl, ho, hb, by rw [r.len, r2.len]; exact h.1, ?_⟩
        have ro : RepO B α M H (.lst (xs ++ ys)) (.lst (vs ++ us)) := ⟨_, rfl, r.app r2⟩
        exact q α _ (.ref i) _ _ (step_write ok em ha) (ok.write em ha ro) ⟨a, ha, rfl⟩ h.2
      · exact h.elim
    · obtain ⟨rfl, sa⟩ := rx
      obtain ⟨rfl, sb⟩ := ry
      refine .inl (.inr ⟨_, _, rfl, rfl, h.1, q.val ok (x := .str _) ⟨rfl, ?_⟩ h.2⟩)
      show (Array.all (_ ++ _) _) = true
      rw [Array.all_append, sa, sb]
      rfl
    · exact h.elim
  | Sub =>
    refine ⟨_, iop_sub, fun α M H Qd Q x y v u ok rx ry h q => ?_⟩
    unfold augW at h
    split at h
    · exact absurd (by assumption : Operator.Sub = Operator.Add) (by decide)
    · cases rx; cases ry; exact ⟨_, _, rfl, rfl, q.val ok (x := .int _) rfl h⟩
    · exact absurd (by assumption : Operator.Sub = Operator.Add) (by decide)
    · exact absurd (by assumption : Operator.Sub = Operator.Add) (by decide)
    · exact h.elim
  | _ => exact ⟨fun _ _ _ _ => False, fun _ _ _ _ _ _ _ _ _ _ _ _ h => h.elim, fun α M H Qd Q x y v u ok rx ry h q => (show False from h).elim⟩
end
end DL

/-! DL23: several names at once, op=, if, while, for; statements whole. -/
namespace DL
open PySem PySem.Spec L2 PyProof.Rows
section
variable {B : Bs} {sg : Sg} {lv : Nat} {N : List Str} {sc : Scope} {Wx : WX} {X : Cx} {σ : L2.St} {α α' : List Addr} {M M' : MM} {H H' : Hp} {D : Ends} {E : DE} {pos : Pos}
theorem PS.of_kind {st : Stmt} {t : TS} (f : X.env.scope.kind = .function → PS X st t) : PS X st t := ⟨fun pins s σ H D I h => (f I.ok.kind).run pins s σ H D I h⟩
theorem bk_fn {env : Env} (h : env.scope.kind = .function) : env.blockKind = .function := by
  unfold Env.blockKind; rw [h]; rfl
theorem sw_par2 {env : Env} {x y : Str} {px py pt pt2 : Pos} {kt k2 : Nat} {a b : Expr} (hk : env.scope.kind = .function) (hx : env.scope.names.lookup x = some .local) (hy : env.scope.names.lookup y = some .local) (hl : (py.line == px.line) = true) (hne : x ≠ y)
    (hs : [a, b].all noStar = true) (hf : [a, b].all (foldedForSure 8) = false) (hc : [a, b].all (constantsAlone 8) = false) : swappedStores [.Tuple [.Name x px, .Name y py] kt pt] (.Tuple [a, b] k2 pt2) env = pure (some [x, y]) := by
  have hb := bk_fn hk
  have kx : env.kindOf x = some .local := hx
  have ky : env.kindOf y = some .local := hy
  rw [List.all_cons, List.all_cons, Bool.and_eq_true, Bool.and_eq_true] at hs
  unfold swappedStores
  simp only [hb, hf, hc]
  simp only [List.filterMap_cons, List.filterMap_nil, List.head?_cons, Option.map_some, Option.getD_some, kx, ky]
  have e1 : (Expr.Name x px).pos.line = px.line := rfl
  simp only [e1, hl, beq_self_eq_true, Bool.and_true, if_true, Bool.true_and]
  have e2 : [x, y].eraseDups = [x, y] := by
    have hxy : (y == x) = false := by simpa using hne.symm
    rw [List.eraseDups_cons, List.filter_cons, if_pos (by simp [hxy]), List.filter_nil, List.eraseDups_cons, List.filter_nil]
    rfl
  simp [e2]
  have h1 := hs.1
  have h2 := hs.2.1
  intro h
  exfalso
  rcases h with h | h
  · cases a <;> first | (cases h; done) | (cases h1)
  · cases b <;> first | (cases h; done) | (cases h2)
theorem PEL.three {a b c : Expr} {wes : List WE} (h : PEL X B Wx [a, b, c] wes) : ∃ wa wb wc, wes = [wa, wb, wc] := by
  cases wes with
  | nil => exact h.elim
  | cons w ws =>
    obtain ⟨wb, wc, rfl, _⟩ := PEL.two h.2
    exact ⟨w, wb, wc, rfl⟩
theorem s_par2 (g : Gs B sg lv N sc Wx X) {i j : Nat} {x y : Str} {a b : Expr} {es : List Ex} {px py pt pt2 : Pos} {kt k2 : Nat} (hi : N[i]? = some x) (hj : N[j]? = some y) (hij : i ≠ j) (hx : sc.names.lookup x = some .local) (hy : sc.names.lookup y = some .local) (hl : (py.line == px.line) = true)
    (hs : [a, b].all noStar = true) (hf : [a, b].all (foldedForSure 8) = false) (hc : [a, b].all (constantsAlone 8) = false) (hp : [a, b].all plainX = true) (he : PEL X B Wx [a, b] (es.map (wE sg))) :
    PS X (.Assign [.Tuple [.Name x px, .Name y py] kt pt] (.Tuple [a, b] k2 pt2) pos) (lS B Wx (wS sg (.par [i, j] es))) := by
  refine PS.of_kind fun hk => ?_
  have hne : x ≠ y := fun e => by
    subst e
    have nd := g.g.nd
    rw [g.g.eN] at nd
    exact hij (nodup_get nd hi hj)
  have hx' : X.env.scope.names.lookup x = some .local := by rw [g.esc]; exact hx
  have hy' : X.env.scope.names.lookup y = some .local := by rw [g.esc]; exact hy
  refine PS.imp (ps_par g.g.calm g.g.nd (by rw [g.g.eN]; exact hi) (by rw [g.g.eN]; exact hj) hij hx' hy' (pa_of he hp) (sw_par2 hk hx' hy' hl hne hs hf hc) (sw_sole fun x p h => nomatch h)) fun D σ H ⟨α, Γ, M, E, ok, va, hw, kk⟩ => ?_
  simp only [wS] at hw
  rw [wEs_eq, wAs_len] at hw
  refine ⟨α, Γ, M, _, _, ok, va, hw, fun α1 M1 ws vs H1 s1 ok1 r1 h1 => ?_, kk.x ok va⟩
  dsimp only at h1
  split at h1
  · rename_i hlen
    rw [he.len] at hlen
    match ws, hlen, r1, h1 with
    | [w1, w2], _, r1, h1 =>
      obtain ⟨v1, s, rfl, ra, v2, s2, rfl, rb, rfl⟩ := r1
      exact ⟨v1, v2, rfl, kk.nx α1 _ M1 _ H1 s1 ok1 (((va.step s1).set i ra).set j rb) h1⟩
  · exact h1.elim
theorem sw_par3 {env : Env} {x y z : Str} {px py pz pt pt2 : Pos} {kt k2 : Nat} {a b c : Expr} (hk : env.scope.kind = .function) (hx : env.scope.names.lookup x = some .local) (hy : env.scope.names.lookup y = some .local) (hz : env.scope.names.lookup z = some .local)
    (hl : (py.line == px.line) = true) (hl2 : (pz.line == px.line) = true) (hxy : x ≠ y) (hxz : x ≠ z) (hyz : y ≠ z)
    (hs : [a, b, c].all noStar = true) (hf : [a, b, c].all (foldedForSure 8) = false) (hc : [a, b, c].all (constantsAlone 8) = false) : swappedStores [.Tuple [.Name x px, .Name y py, .Name z pz] kt pt] (.Tuple [a, b, c] k2 pt2) env = pure (some [x, y, z]) := by
  have hb := bk_fn hk
  have kx : env.kindOf x = some .local := hx
  have ky : env.kindOf y = some .local := hy
  have kz : env.kindOf z = some .local := hz
  rw [List.all_cons, List.all_cons, List.all_cons, Bool.and_eq_true, Bool.and_eq_true, Bool.and_eq_true] at hs
  unfold swappedStores
  simp only [hb, hf, hc]
  simp only [List.filterMap_cons, List.filterMap_nil, List.head?_cons, Option.map_some, Option.getD_some, kx, ky, kz]
  have e1 : (Expr.Name x px).pos.line = px.line := rfl
  simp only [e1, hl, hl2, beq_self_eq_true, Bool.and_true, if_true, Bool.true_and]
  have e2 : [x, y, z].eraseDups = [x, y, z] := by
    have h1 : (y == x) = false := by simpa using hxy.symm
    have h2 : (z == x) = false := by simpa using hxz.symm
    have h3 : (z == y) = false := by simpa using hyz.symm
    rw [List.eraseDups_cons, List.filter_cons, if_pos (by simp [h1]), List.filter_cons, if_pos (by simp [h2]), List.filter_nil, List.eraseDups_cons, List.filter_cons, if_pos (by simp [h3]), List.filter_nil, List.eraseDups_cons, List.filter_nil]
    rfl
  simp [e2]
  have h1 := hs.1
  have h2 := hs.2.1
  have h3 := hs.2.2.1
  intro h
  exfalso
  rcases h with h | h | h
  · cases a <;> first | (cases h; done) | (cases h1)
  · cases b <;> first | (cases h; done) | (cases h2)
  · cases c <;> first | (cases h; done) | (cases h3)
theorem s_par3 (g : Gs B sg lv N sc Wx X) {i j l : Nat} {x y z : Str} {a b c : Expr} {es : List Ex} {px py pz pt pt2 : Pos} {kt k2 : Nat} (hi : N[i]? = some x) (hj : N[j]? = some y) (hl : N[l]? = some z) (hij : i ≠ j) (hil : i ≠ l) (hjl : j ≠ l)
    (hx : sc.names.lookup x = some .local) (hy : sc.names.lookup y = some .local) (hz : sc.names.lookup z = some .local) (hn : (py.line == px.line) = true) (hn2 : (pz.line == px.line) = true)
    (hs : [a, b, c].all noStar = true) (hf : [a, b, c].all (foldedForSure 8) = false) (hc : [a, b, c].all (constantsAlone 8) = false) (hp : [a, b, c].all plainX = true) (he : PEL X B Wx [a, b, c] (es.map (wE sg))) :
    PS X (.Assign [.Tuple [.Name x px, .Name y py, .Name z pz] kt pt] (.Tuple [a, b, c] k2 pt2) pos) (lS B Wx (wS sg (.par [i, j, l] es))) := by
  refine PS.of_kind fun hk => ?_
  have nd := g.g.nd
  rw [g.g.eN] at nd
  have hxy : x ≠ y := fun e => by subst e; exact hij (nodup_get nd hi hj)
  have hxz : x ≠ z := fun e => by subst e; exact hil (nodup_get nd hi hl)
  have hyz : y ≠ z := fun e => by subst e; exact hjl (nodup_get nd hj hl)
  have hx' : X.env.scope.names.lookup x = some .local := by rw [g.esc]; exact hx
  have hy' : X.env.scope.names.lookup y = some .local := by rw [g.esc]; exact hy
  have hz' : X.env.scope.names.lookup z = some .local := by rw [g.esc]; exact hz
  refine PS.imp (ps_par3 g.g.calm g.g.nd (by rw [g.g.eN]; exact hi) (by rw [g.g.eN]; exact hj) (by rw [g.g.eN]; exact hl) hij hil hjl hx' hy' hz' (pa_of he hp) (sw_par3 hk hx' hy' hz' hn hn2 hxy hxz hyz hs hf hc) (sw_sole fun x p h => nomatch h)) fun D σ H ⟨α, Γ, M, E, ok, va, hw, kk⟩ => ?_
  simp only [wS] at hw
  rw [wEs_eq, wAs_len] at hw
  refine ⟨α, Γ, M, _, _, ok, va, hw, fun α1 M1 ws vs H1 s1 ok1 r1 h1 => ?_, kk.x ok va⟩
  dsimp only at h1
  split at h1
  · rename_i hlen
    rw [he.len] at hlen
    match ws, hlen, r1, h1 with
    | [w1, w2, w3], _, r1, h1 =>
      obtain ⟨v1, s, rfl, ra, v2, s2, rfl, rb, v3, s3, rfl, rc, rfl⟩ := r1
      exact ⟨v1, v2, v3, rfl, kk.nx α1 _ M1 _ H1 s1 ok1 ((((va.step s1).set i ra).set j rb).set l rc) h1⟩
  · exact h1.elim
theorem sw_none {sc : Scope} {env : Env} {ts vs : List Expr} {kt k2 : Nat} {pt pt2 : Pos} (he : env.scope = sc) (h : swNone sc ts vs = true) : swappedStores [.Tuple ts kt pt] (.Tuple vs k2 pt2) env = pure none := by
  unfold swNone at h
  subst he
  unfold swappedStores
  dsimp only
  generalize hg : List.filterMap _ ts = l
  have hl : l = lnNames env.scope ts := hg.symm.trans rfl
  rw [← hl] at h
  by_cases c1 : ((!(ts.length == 2 || ts.length == 3)) || vs.length != ts.length || env.blockKind != .function) = true
  · rw [if_pos c1]
  · rw [if_neg c1]
    split
    · rfl
    · by_cases c2 : (l.length != ts.length || l.eraseDups.length != l.length) = true
      · rw [if_pos c2]
      · rw [if_neg c2]
        have hf : vs.all (foldedForSure 8) = true := by
          simp only [Bool.or_eq_true, not_or] at c1 c2 h
          rcases h with ((h | h) | h) | h
          · exact absurd h c1.1.1
          · exact absurd h c1.1.2
          · exact absurd h c2.1
          · exact h
        rw [if_pos hf]
theorem setAll_vars : ∀ {is : List Nat} {ws : List W} {vs : List V} {Γ Γ' : GG} {σ : L2.St} {K : L2.St → Hp → Prop}, Vars B α M H Γ σ → RepWs B α M H ws vs → setAll Γ is ws = some Γ' → (∀ σ', Vars B α M H Γ' σ' → K σ' H) → vs.length = is.length ∧ gsOf is vs σ H K
  | [], [], _, Γ, Γ', σ, K, va, r, e, h => by
    cases r
    cases e
    exact ⟨rfl, rfl, h σ va⟩
  | i :: is, w :: ws, _, Γ, Γ', σ, K, va, r, e, h => by
    obtain ⟨v, s, rfl, h1, h2⟩ := r
    obtain ⟨h3, h4⟩ := setAll_vars (K := K) (va.set i h1) h2 e h
    exact ⟨by rw [List.length_cons, List.length_cons, h3], v, s, rfl, h4⟩
  | [], _ :: _, _, _, _, _, _, _, _, e, _ => by cases e
  | _ :: _, [], _, _, _, _, _, _, _, e, _ => by cases e
theorem s_parT (g : Gs B sg lv N sc Wx X) {is : List Nat} {ts vs : List Expr} {es : List Ex} {pt pt2 : Pos} {kt k2 : Nat} (h30 : es.length ≤ 30) (hn : okNms N sc is ts = true) (hw : swNone sc ts vs = true) (hp : vs.all plainX = true) (he : PEL X B Wx vs (es.map (wE sg))) :
    PS X (.Assign [.Tuple ts kt pt] (.Tuple vs k2 pt2) pos) (lS B Wx (wS sg (.par is es))) := by
  have hsz : es.length ≤ sizeLine := by rw [sizeLine_eq]; omega
  · refine PS.imp (ps_asg (pe_tup (pa_of he hp)) (pg_of (tg := .t is) g.g hn) (sw_sole fun x p h => nomatch h) (sw_none g.esc hw)) fun D σ H ⟨α, Γ, M, E, ok, va, hw, kk⟩ => ?_
    simp only [wS] at hw
    rw [wEs_eq, wAs_len] at hw
    refine ⟨α, Γ, M, _, _, ok, va, hw, fun α1 M1 ws us H1 s1 ok1 r1 h1 => ?_, kk.x ok va⟩
    dsimp only at h1
    split at h1
    · rename_i hlen
      rw [List.length_map] at hlen
      refine ⟨by rw [r1.len, hlen]; exact hsz, fun p hp => ?_⟩
      split at h1
      · rename_i Γ' e
        have s2 := kept_new (o := .tup us) ok1 hp
        obtain ⟨h3, h4⟩ := setAll_vars (K := D.nx) (va.step (s1.trans s2)) (r1.step s2) e fun σ' va' => kk.nx α1 Γ' M1 σ' _ (s1.trans s2) (ok1.new hp) va' h1
        exact ⟨p, us, rfl, SqT.of upd_same, h3, h4⟩
      · exact h1.elim
    · exact h1.elim
theorem s_aug (g : Gs B sg lv N sc Wx X) {i : Nat} {op : Operator} {x : Str} {p : Pos} {v : Expr} {e : Ex} (hn : okNm N sc i (.Name x p) = true) (he : PE X v (lE B Wx (wE sg e))) : PS X (.AugAssign (.Name x p) op v pos) (lS B Wx (wS sg (.aug i op e))) := by
  have hn' : (decide (N[i]? = some x) && asgB sc x) = true := hn
  rw [Bool.and_eq_true] at hn'
  obtain ⟨h1, h2⟩ := g.g.asg x hn'.2
  obtain ⟨r, hr, hs⟩ := aug_snd (X := X) (B := B) op
  refine PS.imp (ps_aug g.g.nd (by rw [g.g.eN]; exact of_decide_eq_true hn'.1) h1 he (fun pins s σ H x y v u Q I rx ry q => hr pins s σ H x y v u Q I rx ry q) h2) fun D σ H ⟨α, Γ, M, E, ok, va, hw, kk⟩ => ?_
  simp only [wS] at hw
  split at hw
  · rename_i w ew
    obtain ⟨v, ev, rv⟩ := va.2 i w ew
    refine ⟨v, ev, α, Γ, M, _, _, ok, va, hw, fun α1 M1 y u H1 s1 ok1 r1 h1 => ?_, kk.x ok va⟩
    exact hs α1 M1 H1 _ _ w y v u ok1 (rv.step s1) r1 h1 fun α2 M2 z t H2 s2 ok2 r2 h2 => kk.nx α2 _ M2 _ H2 (s1.trans s2) ok2 ((va.step (s1.trans s2)).set i r2) h2
  · exact hw.elim
theorem s_ite {c : Expr} {x y : List Stmt} {ec : Ex} {a b : List Sx} (hc : PT X c (lT B Wx (wT sg ec))) (ha : PSs X x (lS B Wx (wSs sg a))) (hb : PSs X y (lS B Wx (wSs sg b))) : PS X (.If c x y pos) (lS B Wx (wS sg (.ite ec a b))) := by
  refine PS.imp (ps_if hc ha hb) fun D σ H ⟨α, Γ, M, E, ok, va, hw, kk⟩ => ?_
  simp only [wS] at hw
  refine ⟨α, Γ, M, _, _, ok, va, hw, fun α1 M1 k H1 s1 ok1 h1 => ?_, kk.x ok va⟩
  cases k with
  | true => exact ⟨α1, Γ, M1, E, ok1, va.step s1, h1, kk.step s1⟩
  | false => exact ⟨α1, Γ, M1, E, ok1, va.step s1, h1, kk.step s1⟩
theorem s_whl (g : Gs B sg lv N sc Wx X) {c : Expr} {x : List Stmt} {ec : Ex} {b : List Sx} (hc : PT X c (lT B Wx (wT sg ec))) (hb : PSs X x (lS B Wx (wSs sg b))) : PS X (.While c x [] pos) (lS B Wx (wS sg (.whl ec b))) := by
  refine PS.imp (ps_while g.own hc hb) fun D σ H ⟨α, Γ, M, E, ok, va, hw, kk⟩ => ?_
  simp only [wS] at hw
  obtain ⟨n, hw⟩ := hw
  refine ⟨fun m σ' H' => ∃ M' Γ', Step α M H α M' H' ∧ Ok B α M' H' ∧ Vars B α M' H' Γ' σ' ∧ goWhl (wT sg ec) (wSs sg b) m Γ' M' E, ⟨n, M, Γ, Step.refl _ _ _, ok, va, hw⟩, ?_⟩
  rintro m σ1 H1 ⟨M1, Γ1, s1, ok1, va1, h1⟩
  cases m with
  | zero => exact h1.elim
  | succ m =>
    simp only [goWhl] at h1
    refine ⟨α, Γ1, M1, _, _, ok1, va1, h1, fun α2 M2 k H2 s2 ok2 h2 => ?_, kk.xr α Γ1 M1 σ1 H1 s1 ok1 va1⟩
    cases k with
    | false => exact kk.nx α2 Γ1 M2 σ1 H2 (s1.trans s2) ok2 (va1.step s2) h2
    | true =>
      rw [if_pos rfl]
      refine ⟨fun σ' H' => ∃ M' Γ', Step α M H α M' H' ∧ Ok B α M' H' ∧ Vars B α M' H' Γ' σ' ∧ goWhl (wT sg ec) (wSs sg b) m Γ' M' E, fun σ' H' h => ⟨m, Nat.lt_succ_self _, h⟩, α2, Γ1, M2, _, ok2, va1.step s2, h2, ?_⟩
      have nxt : ∀ α' Γ' M' σ' H', Step α2 M2 H2 α' M' H' → Ok B α' M' H' → Vars B α' M' H' Γ' σ' → Step α M H α (trunc M1.length M') H' ∧ Ok B α (trunc M1.length M') H' ∧ Vars B α (trunc M1.length M') H' (clipG M1.length Γ') σ' := fun α' Γ' M' σ' H' s3 ok3 va3 => by
        obtain ⟨e4, s4, ok4⟩ := turn_step ok1 (s2.trans s3) ok3
        have va4 := trunc_vars ok3 M1.length va3
        rw [e4] at va4
        exact ⟨s1.trans s4, ok4, va4⟩
      refine ⟨fun α' Γ' M' σ' H' s3 ok3 va3 h3 => ?_, fun α' Γ' M' σ' H' s3 ok3 va3 h3 => ?_, fun α' Γ' M' σ' H' s3 ok3 va3 h3 => ?_, (kk.step (s1.trans s2)).rt, (kk.step (s1.trans s2)).xr⟩
      · obtain ⟨s4, ok4, va4⟩ := nxt α' Γ' M' σ' H' s3 ok3 va3
        exact ⟨_, _, s4, ok4, va4, h3⟩
      · obtain ⟨s4, ok4, va4⟩ := nxt α' Γ' M' σ' H' s3 ok3 va3
        exact kk.nx α _ _ σ' H' s4 ok4 va4 h3
      · obtain ⟨s4, ok4, va4⟩ := nxt α' Γ' M' σ' H' s3 ok3 va3
        exact ⟨_, _, s4, ok4, va4, h3⟩
theorem s_fors (g : Gs B sg lv N sc Wx X) {tg : Tg} {k : It} {its : List Ex} {b : List Sx} {t iter : Expr} {is : List Expr} {x : List Stmt} (ht : okTg N sc tg t = true) (hpi : plainX iter = true) (hit : decIt sc k iter = some is) (hp : is.all plainX = true) (he : PEL X B Wx is (its.map (wE sg)))
    (hb : PSs X x (lS B Wx (wSs sg b))) : PS X (.For t iter x [] pos) (lS B Wx (wS sg (.fors tg k its b))) := by
  refine PS.imp (ps_for g.own g.g.calm (c_it g.g (tg := t) hit he hp) (pg_of g.g ht) hb (folded_of hpi)) fun D σ H ⟨α, Γ, M, E, ok, va, hw, kk⟩ => ?_
  simp only [wS] at hw
  rw [wEs_eq] at hw
  refine ⟨α, Γ, M, _, _, ok, va, hw, fun α1 M1 H1 items J s1 ok1 wd hq => ?_, kk.x ok va⟩
  obtain ⟨G, Y, walk, hG, hY⟩ := wd
  refine for_it walk (fun i σ' H' => ∃ M' Γ', Step α1 M1 H1 α1 M' H' ∧ Ok B α1 M' H' ∧ Vars B α1 M' H' Γ' σ' ∧ goFor (fun x Γ M E => tgW tg x Γ fun Γ' => wSs sg b Γ' M E) (items.drop i) Γ' M' E) ?_ ?_ ?_ ?_
  · exact ⟨M1, Γ, Step.refl _ _ _, ok1, va.step s1, hq⟩
  · rintro i σ' H' _ ⟨M2, Γ2, s2, _⟩
    exact hG _ _ s2.kept
  · rintro i xv σ2 H2 H2' hi ⟨M2, Γ2, s2, ok2, va2, h2⟩ hy
    obtain ⟨rfl, d, hd, rd⟩ := hY _ _ i xv H2' s2.kept hi hy
    rw [drop_next hd] at h2
    simp only [goFor_nil, goFor_cons] at h2
    refine tg_snd g.g.eK va2 rd h2 fun Γ3 σ3 va3 h3 _ => ?_
    refine ⟨α1, Γ3, M2, _, ok2, va3, h3, ?_⟩
    have nxt : ∀ α' Γ' M' σ' H', Step α1 M2 H2' α' M' H' → Ok B α' M' H' → Vars B α' M' H' Γ' σ' → Step α1 M1 H1 α1 (trunc M2.length M') H' ∧ Ok B α1 (trunc M2.length M') H' ∧ Vars B α1 (trunc M2.length M') H' (clipG M2.length Γ') σ' := fun α' Γ' M' σ' H' s3 ok3 va3 => by
      obtain ⟨e4, s4, ok4⟩ := turn_step ok2 s3 ok3
      have va4 := trunc_vars ok3 M2.length va3
      rw [e4] at va4
      exact ⟨s2.trans s4, ok4, va4⟩
    have kk2 := kk.step (s1.trans s2)
    refine ⟨fun α' Γ' M' σ' H' s3 ok3 va3 h3 => ?_, fun α' Γ' M' σ' H' s3 ok3 va3 h3 => ?_, fun α' Γ' M' σ' H' s3 ok3 va3 h3 => ?_, kk2.rt, kk2.xr⟩
    · obtain ⟨s4, ok4, va4⟩ := nxt α' Γ' M' σ' H' s3 ok3 va3
      exact ⟨_, _, s4, ok4, va4, h3⟩
    · obtain ⟨s4, ok4, va4⟩ := nxt α' Γ' M' σ' H' s3 ok3 va3
      exact kk.nx α1 _ _ σ' H' (s1.trans s4) ok4 va4 h3
    · obtain ⟨s4, ok4, va4⟩ := nxt α' Γ' M' σ' H' s3 ok3 va3
      exact ⟨_, _, s4, ok4, va4, h3⟩
  · rintro σ2 H2 ⟨M2, Γ2, s2, ok2, va2, h2⟩
    rw [List.drop_length] at h2
    rw [goFor_nil] at h2
    exact kk.nx α1 Γ2 M2 σ2 H2 (s1.trans s2) ok2 va2 h2
end
end DL

/-! DX4: raise, try. -/
namespace DL
open PySem PySem.Spec L2 PyProof.Rows
theorem Gd.fnOk {B : Bs} {sg : Sg} {lv : Nat} {N : List Str} {sc : Scope} {Wx : WX} {X : Cx} (g : Gd B sg lv N sc Wx X) {k : Nat} {f : Addr} {fd : FuncData} {ps : List Str} {sp : Sp} (F : FnOk B.P B.w B.K B.mg B.base (L2.CX B.P B.w) k f fd ps sp) : FnOk X.prog X.w X.K X.mg X.base (L2.CX X.prog X.w) k f fd ps sp := by
  rw [g.eP, g.ew, g.eK, g.emg, g.eb]; exact F
section
variable {B : Bs} {sg : Sg} {lv : Nat} {N : List Str} {sc : Scope} {Wx : WX} {X : Cx} {σ : L2.St} {α α' : List Addr} {M M' : MM} {H H' : Hp} {D : Ends} {E : DE} {pos : Pos}
theorem PS.hyp {st : Stmt} {P : Prop} {t : TS} (h : P → PS X st t) : PS X st (fun D σ H => P ∧ t D σ H) := ⟨fun pins s σ H D I q => (h q.1).run pins s σ H D I q.2⟩
theorem PSs.imp' {sts : List Stmt} {t u : TS} (h : PSs X sts t) (f : ∀ D σ H, u D σ H → t D σ H) : PSs X sts u := ⟨fun pins s σ H D I q => h.run pins s σ H D I (f D σ H q)⟩
theorem PSs.ex {sts : List Stmt} {ι : Type} {P : ι → Prop} {t : ι → TS} (h : ∀ i, P i → PSs X sts (t i)) : PSs X sts (fun D σ H => ∃ i, P i ∧ t i D σ H) := ⟨fun pins s σ H D I ⟨i, p, q⟩ => (h i p).run pins s σ H D I q⟩
theorem RepF.zip {L : Addr → Prop} : ∀ {fs : List Str} {ds : List DL.D} {vs : List V}, RepL B L H ds vs → RepF B L H (fs.zip ds) (fs.zip vs)
  | [], _, _, _ => rfl
  | _ :: _, [], _, h => by cases h; rfl
  | f :: fs, d :: ds, _, h => by
    obtain ⟨v, r, rfl, h1, h2⟩ := h
    exact ⟨v, _, rfl, h1, RepF.zip h2⟩
theorem RepF.app {L : Addr → Prop} : ∀ {fs gs : List (Str × DL.D)} {vs ws : List (Str × V)}, RepF B L H fs vs → RepF B L H gs ws → RepF B L H (fs ++ gs) (vs ++ ws)
  | [], _, _, _, h, g => by cases h; exact g
  | (k, d) :: fs, _, _, _, h, g => by
    obtain ⟨v, r, rfl, h1, h2⟩ := h
    exact ⟨v, _, rfl, h1, RepF.app h2 g⟩
theorem RepF.rev {L : Addr → Prop} : ∀ {fs : List (Str × DL.D)} {vs : List (Str × V)}, RepF B L H fs vs → RepF B L H fs.reverse vs.reverse
  | [], _, h => by cases h; rfl
  | (k, d) :: fs, _, h => by
    obtain ⟨v, r, rfl, h1, h2⟩ := h
    rw [List.reverse_cons, List.reverse_cons]
    exact RepF.app (RepF.rev h2) ⟨v, [], rfl, h1, rfl⟩
theorem never_px {X : Cx} {P : Program} {w : World} : Passes (L2.CX P w) X (fun _ _ _ => False) := fun _ _ _ _ _ _ _ c => (by
  obtain ⟨_, _, _, _, _, _, _, _, _, _, _, _, z⟩ := c
  exact z.elim)
theorem s_rse (g : Gs B sg lv N sc Wx X) {c : Str} {es : List Expr} {xs : List Ex} {p p2 : Pos} (hx : gloB sc c = true) (hn : nmB c = true) (he : PEL X B Wx es (xs.map (wE sg))) (hp : es.all plainX = true) (hl : es.length ≤ 100) :
    PS X (.Raise (some (.Call (.Name c p) es [] p2)) none pos) (lS B Wx (wS sg (.rse c xs))) := by
  have key : (sg.xc c).isSome = true → PS X (.Raise (some (.Call (.Name c p) es [] p2)) none pos) (lS B Wx fun Γ M E => wEs sg xs Γ M (fun ws M' => optK (sg.xc c) fun fs => fs.length = ws.length ∧ optK (allD ws) fun ds => E.xr Γ c (fs.zip ds).reverse M') (E.xr Γ)) := by
    intro h
    obtain ⟨fs, hfs⟩ := Option.isSome_iff_exists.mp h
    obtain ⟨C, fI, fd, ps, k, hm, T, _, iC, tI, F, hk, hb, hno⟩ := (g.g.env.xc c fs hfs).ex
    have eK := g.g.eK
    have F' := g.g.fnOk F
    have hm' : X.mg c = some (.ref C) := by rw [g.g.emg]; exact hm
    have room : Room (k + 1) X.A := (g.g.room.mono hk).r
    have dbg := dbg_of hn
    cases es with
    | nil =>
      have hxs : xs = [] := by
        cases xs with
        | nil => rfl
        | cons w ws => exact he.elim
      subst hxs
      have hpm := pmk_oex0 (X := X) (x := c) (p := p) (pos := p2) (dvs := []) (by rw [eK]; exact T) (by rw [eK]; exact iC) (by rw [eK]; exact tI) F' room (by rw [eK]; exact hb) .nil never_px (g.g.glo c hx) hm' dbg
      refine PS.imp (ps_raise g.g.calm g.tk hpm) fun D σ H ⟨α, Γ, M, E, ok, va, hw, kk⟩ => ?_
      simp only [wEs] at hw
      obtain ⟨fs', e1, hl2, hw⟩ := optK_elim hw
      rw [hfs] at e1
      cases e1
      have hfs0 : fs = [] := List.length_eq_zero_iff.mp hl2
      subst hfs0
      obtain ⟨ds, e2, hw⟩ := optK_elim hw
      cases e2
      intro a ha
      refine ⟨a, C, [], rfl, rfl, T, upd_same, fun f hf => (nomatch hf), fun _ => ⟨rfl, upd_same, ?_⟩, fun hne => absurd rfl hne⟩
      have e : del (upd H a (exo a C none)) a = H := by
        funext b
        by_cases hba : b = a
        · rw [hba, del_same, ha]
        · rw [del_ne hba, upd_ne hba]
      rw [e]
      exact kk.x ok va α M H (.ref C) none c [] (Step.refl _ _ _) ok ⟨C, rfl, hm, rfl⟩ hw
    | cons e es =>
      have hp2 := hp
      rw [List.all_cons, Bool.and_eq_true] at hp2
      have hpm := pmk_oex (X := X) (x := c) (p := p) (pos := p2) (dvs := []) (by rw [eK]; exact T) (by rw [eK]; exact iC) (by rw [eK]; exact tI) F' room (by rw [eK]; exact hb) .nil never_px (g.g.glo c hx) hm' (pa_of he hp) dbg (star_cons hp) (star_any hp2.2)
      refine PS.imp (ps_raise g.g.calm g.tk hpm) fun D σ H ⟨α, Γ, M, E, ok, va, hw, kk⟩ => ?_
      rw [wEs_eq, wAs_len] at hw
      refine ⟨α, Γ, M, _, _, ok, va, hw, fun α1 M1 ws vs H1 s1 ok1 r1 h1 => ?_, kk.x ok va⟩
      dsimp only at h1
      split at h1
      · rename_i hlen
        obtain ⟨fs', e1, hl2, hw⟩ := optK_elim h1
        rw [hfs] at e1
        cases e1
        obtain ⟨ds, e2, hw⟩ := optK_elim hw
        have hvl := r1.len
        have hel := he.len
        refine ⟨by rw [List.length_cons] at hl hel; omega, fun a ha => ?_⟩
        rw [List.append_nil]
        refine ⟨a, C, vs, rfl, by omega, T, upd_same, hno, fun hz => ?_, fun hne dx H2 hdx hdxa h2 h3 h4 => ⟨rfl, dx, _, h2, h3, ?_, ?_⟩⟩
        · subst hz
          rw [List.length_nil] at hl2
          rw [List.length_cons] at hel
          omega
        · rw [upd_ne hdxa] at hdx; exact hdx
        · have hd1 : H1 dx = none := by rw [upd_ne hdxa] at hdx; exact hdx
          have e : upd (del H2 a) dx (.xd (fs.zip vs).reverse) = upd H1 dx (.xd (fs.zip vs).reverse) := by
            funext b
            by_cases hbd : b = dx
            · rw [hbd, upd_same, upd_same]
            · rw [upd_ne hbd, upd_ne hbd]
              by_cases hba : b = a
              · rw [hba, del_same, ha]
              · rw [del_ne hba, h4 b hba hbd, upd_ne hba]
          rw [e]
          refine kk.x ok va α1 M1 _ (.ref C) (some dx) c _ (s1.trans (kept_new ok1 hd1)) (ok1.new hd1) ⟨C, rfl, hm, _, upd_same, ok1.notLive hd1, ?_⟩ hw
          exact RepF.mono (kept_new ok1 hd1).kept _ _ (RepF.rev (RepF.zip (allD_rep e2 r1)))
      · exact h1.elim
  refine PS.imp (PS.hyp key) fun D σ H ⟨α, Γ, M, E, ok, va, hw, kk⟩ => ?_
  simp only [wS] at hw
  exact ⟨hw.1, α, Γ, M, E, ok, va, hw.2, kk⟩
/-! ### a suite -/
theorem lS_cons {s : Sx} {r : List Sx} {st : Stmt} {sts : List Stmt} (h1 : PS X st (lS B Wx (wS sg s))) (h2 : PSs X sts (lS B Wx (wSs sg r))) : PSs X (st :: sts) (lS B Wx (wSs sg (s :: r))) := by
  refine PSs.imp (pss_cons h1 h2) fun D σ H ⟨α, Γ, M, E, ok, va, hw, k⟩ => ?_
  simp only [wSs] at hw
  exact ⟨α, Γ, M, _, ok, va, hw, ⟨fun α' Γ' M' σ' H' s1 ok1 va1 h => ⟨α', Γ', M', E, ok1, va1, h, k.step s1⟩, k.bk, k.ct, k.rt, k.xr⟩⟩
theorem sndV (g : Gw B sg lv N sc X) (hx : ExOk sg B X) : ∀ (s : List Sx) (sts : List Stmt), okV N sc s sts = true → PSs X sts (lS B Wx (wSs sg s))
  | [], sts, h => by
    cases sts with
    | nil => exact PSs.imp pss_nil fun D σ H hw => lS_nx (by simpa only [wSs] using hw)
    | cons s r => unfold okV at h; cases h
  | s :: r, sts, h => by
    cases s with
    | asg i e =>
      unfold okV at h
      split at h
      · rename_i x p v pos' sts'
        simp only [Bool.and_eq_true] at h
        obtain ⟨⟨⟨hn, hc⟩, he⟩, hr⟩ := h
        have hn' : (decide (N[i]? = some x) && asgB sc x) = true := hn
        rw [Bool.and_eq_true] at hn'
        obtain ⟨h1, h2⟩ := g.asg x hn'.2
        refine lS_cons ?_ (sndV g hx r _ hr)
        exact PS.imp (ps_set g.nd (by rw [g.eN]; exact of_decide_eq_true hn'.1) h1 (sndU e v B N sc Wx X g hx he).1 (sw_false hc) h2) fun D σ H hw => w_asg hw
      · cases h
    | ret e =>
      unfold okV at h
      split at h
      · rw [Bool.and_eq_true] at h
        exact lS_cons (s_ret (sndU e _ B N sc Wx X g hx h.1).1) (sndV g hx r _ h.2)
      · cases h
    | _ => unfold okV at h; cases h
/-! ### try -/
def hval (B : Bs) (T : Str) : Value := match B.mg T with
  | some v => v
  | none => .none
def handV (B : Bs) (sg : Sg) (s : List Sx) : Addr → Value → Option Addr → TS := fun a cls d D σ H => ∃ c : Str, (∃ C, cls = .ref C ∧ B.mg c = some (.ref C)) ∧ lS B noW (wSs { sg with ex := some (a, c, d) } s) D σ H
def hands (B : Bs) (sg : Sg) : List Sx → List Hand
  | .hnd T i s :: r => (hval B T, i, handV B sg s) :: hands B sg r
  | _ => []
theorem FnEnv.held (e : FnEnv B sg lv) (z : Option (Nat × Str × Option Nat)) : FnEnv B { sg with ex := z } lv := ⟨e.fn, e.me, e.nw, e.gl, e.fa, e.bu, e.xc, e.sub⟩
theorem xc_val (env : FnEnv B sg lv) {T : Str} (h : (sg.xc T).isSome = true) : ∃ C, B.mg T = some (.ref C) ∧ hval B T = .ref C := by
  obtain ⟨fs, hfs⟩ := Option.isSome_iff_exists.mp h
  obtain ⟨C, _, _, _, _, hm, _⟩ := (env.xc T fs hfs).ex
  refine ⟨C, hm, ?_⟩
  unfold hval
  rw [hm]
theorem hands_ok (g : Gs B sg lv N sc Wx X) : ∀ (hs : List Sx) (hds : List ExceptHandler), okHs N sc hs hds = true → hOk sg hs → HandsOk X hds (hands B sg hs)
  | [], hds, h, _ => by
    cases hds with
    | nil => exact .nil
    | cons s r => unfold okHs at h; cases h
  | s :: r, hds, h, ho => by
    cases s with
    | hnd T i s =>
      unfold okHs at h
      split at h
      · rename_i x np nm b₀ suite pos' hds'
        simp only [Bool.and_eq_true, decide_eq_true_eq] at h
        obtain ⟨⟨⟨⟨⟨rfl, hg⟩, hn⟩, hnm⟩, hv⟩, hr⟩ := h
        obtain ⟨h1, h2⟩ := ho
        obtain ⟨C, hm, hval⟩ := xc_val g.g.env h1
        refine .cons ⟨g.g.glo _ hg, dbg_of hn, .inl (by rw [g.g.emg, hval]; exact hm)⟩ (fun n en => ?_) (fun en => ?_) (fun a oe cls d pn hz hf => ?_) (hands_ok g r hds' hr h2)
        · subst en
          cases i with
          | none => cases hnm
          | some j =>
            simp only [Bool.and_eq_true, decide_eq_true_eq] at hnm
            refine ⟨j, rfl, by rw [g.g.eN]; exact hnm.1, ?_⟩
            show X.env.scope.names.lookup n = _
            rw [g.esc]
            exact hnm.2
        · subst en
          cases i with
          | none => rfl
          | some j => cases hnm
        · refine PSs.ex fun c ⟨C', hcls, hmc⟩ => ?_
          subst hcls
          have gw : Gw B { sg with ex := some (a, c, d) } lv N sc (X.suite a ((a, oe) :: pn)) := ⟨g.g.eP, g.g.ew, g.g.eK, g.g.emg, g.g.eb, g.g.eN, g.g.nd, g.g.vis, g.g.asg, g.g.glo, g.g.free, g.g.un, g.g.gds, g.g.env.held _⟩
          refine sndV gw ⟨fun a' c' d' e => ?_⟩ s _ hv
          cases e
          exact ⟨C', oe, pn, X, rfl, hmc, hz, hf⟩
      · cases h
    | _ => unfold okHs at h; cases h
theorem wHand_of (g : Gs B sg lv N sc Wx X) {α0 : List Addr} {M0 : MM} {H0 : Hp} (k : SOk B Wx α0 M0 H0 E D) {Γ : GG} (s0 : Step α0 M0 H0 α M H) (ok : Ok B α M H) (va : Vars B α M H Γ σ) : ∀ (hs : List Sx) (hds : List ExceptHandler), okHs N sc hs hds = true → hOk sg hs →
    ∀ α' M' H' cls d c fs, Step α M H α' M' H' → Ok B α' M' H' → XRep B α' M' H' cls d c fs → wHs sg hs c fs Γ M' E → wHand X.K Wx D (hands B sg hs) cls d σ H'
  | [], hds, _, _, α', M', H', cls, d, c, fs, s1, ok1, rx, h => by
    simp only [wHs] at h
    exact k.xr α Γ M σ H s0 ok va α' M' H' cls d c fs s1 ok1 rx h
  | s :: r, hds, hk, ho, α', M', H', cls, d, c, fs, s1, ok1, rx, h => by
    cases s with
    | hnd T i s =>
      unfold okHs at hk
      split at hk
      · rename_i x np nm b₀ suite pos' hds'
        simp only [Bool.and_eq_true, decide_eq_true_eq] at hk
        have hr := hk.2
        obtain ⟨h1, h2⟩ := ho
        simp only [wHs, wH] at h
        obtain ⟨b, hsub, h⟩ := optK_elim h
        obtain ⟨C, cv, m1, _, m2, m3, _⟩ := (g.g.env.sub c T b hsub).ex
        obtain ⟨CT, mT, hval⟩ := xc_val g.g.env h1
        have ecv : cv = .ref CT := by
          rcases m2 with ⟨C2, rfl, m⟩ | ⟨m, _⟩
          · rw [mT] at m; cases m; rfl
          · rw [mT] at m; cases m
        subst ecv
        obtain ⟨C3, hcls, m4, rxd⟩ := rx
        rw [m1] at m4
        cases m4
        subst hcls
        rw [ifB_iff] at h
        refine ⟨b, by rw [g.g.eK, hval]; exact m3, fun hb a ha => ?_, fun hb => ?_⟩
        · rw [if_pos hb] at h
          refine ⟨c, ⟨C, rfl, m1⟩, α', putG' Γ i (.exc a c d fs), M', dropE E i, ok1, ?_, h a d, ?_⟩
          · have va1 := va.step s1
            cases i with
            | none => exact va1
            | some j =>
              refine va1.set j (show Rep B (Lv B α' M') H' (.exc a c d fs) (.ref a) from ⟨rfl, ?_⟩)
              cases d with
              | none => exact rxd
              | some dd => exact rxd
          · have k1 := k.step (s0.trans s1)
            refine ⟨fun α2 Γ2 M2 σ2 H2 s2 ok2 va2 h2 => ?_, fun α2 Γ2 M2 σ2 H2 s2 ok2 va2 h2 => ?_, fun α2 Γ2 M2 σ2 H2 s2 ok2 va2 h2 => ?_, by cases i <;> exact k1.rt, fun _ _ _ _ _ _ _ _ _ _ _ _ _ _ _ _ _ _ z => z.elim⟩
            · cases i with
              | none => exact k1.nx α2 Γ2 M2 σ2 H2 s2 ok2 va2 h2
              | some j => exact k1.nx α2 _ M2 _ H2 s2 ok2 (va2.unset j none) h2
            · cases i with
              | none => exact k1.bk α2 Γ2 M2 σ2 H2 s2 ok2 va2 h2
              | some j => exact k1.bk α2 _ M2 _ H2 s2 ok2 (va2.unset j none) h2
            · cases i with
              | none => exact k1.ct α2 Γ2 M2 σ2 H2 s2 ok2 va2 h2
              | some j => exact k1.ct α2 _ M2 _ H2 s2 ok2 (va2.unset j none) h2
        · rw [if_neg (by rw [hb]; decide)] at h
          exact wHand_of g k s0 ok va r hds' hr h2 α' M' H' _ d c fs s1 ok1 ⟨C, rfl, m1, rxd⟩ h
      · cases hk
    | _ => unfold okHs at hk; cases hk
theorem s_tri (g : Gs B sg lv N sc Wx X) {b hs : List Sx} {body : List Stmt} {h : ExceptHandler} {hds : List ExceptHandler} (hb : ∀ (W' : WX) (X' : Cx), Gs B sg lv N sc W' X' → PSs X' body (lS B W' (wSs sg b))) (hh : okHs N sc hs (h :: hds) = true) :
    PS X (.Try body (h :: hds) [] [] pos) (lS B Wx (wS sg (.tri b hs))) := by
  have key : hOk sg hs → PS X (.Try body (h :: hds) [] [] pos) (lS B Wx fun Γ M E => wSs sg b Γ M { E with xr := fun Γ' c fs M' => wHs sg hs c fs Γ' M' E }) := by
    intro ho
    have hp := ps_tryN (pos := pos) (tb := fun W' => lS B W' (wSs sg b)) g.stk g.frm g.g.nd g.tk (fun W' pn xe tk own => hb W' (X.tr pn xe) ⟨⟨⟨g.g.eP, g.g.ew, g.g.eK, g.g.emg, g.g.eb, g.g.eN, g.g.nd, g.g.vis, g.g.asg, g.g.glo, g.g.free, g.g.un, g.g.gds, g.g.env⟩, g.g.calm, g.g.room, fun σ => passAt tk σ⟩, g.esc, own, tk, g.stk, g.frm⟩) (hands_ok g hs _ hh ho)
    refine PS.imp hp fun D σ H ⟨α, Γ, M, E, ok, va, hw, k⟩ => ?_
    refine ⟨α, Γ, M, _, ok, va, hw, ⟨k.nx, k.bk, k.ct, k.rt, fun α' Γ' M' σ' H' s1 ok1 va1 => ?_⟩⟩
    intro α2 M2 H2 cls d c fs s2 ok2 rx hx
    exact wHand_of g k s1 ok1 va1 hs _ hh ho α2 M2 H2 cls d c fs s2 ok2 rx hx
  refine PS.imp (PS.hyp key) fun D σ H ⟨α, Γ, M, E, ok, va, hw, kk⟩ => ?_
  simp only [wS] at hw
  exact ⟨hw.1, α, Γ, M, E, ok, va, hw.2, kk⟩
end
end DL

/-! DL24: what the look finds of statements is sound. -/
namespace DL
open PySem PySem.Spec L2 PyProof.Rows
section
variable {sg : Sg} {lv : Nat}
def SndS (sg : Sg) (lv : Nat) (s : Sx) : Prop := ∀ (st : Stmt) (B : Bs) (N : List Str) (sc : Scope) (Wx : WX) (X : Cx), Gs B sg lv N sc Wx X → okS N sc s st = true → PS X st (lS B Wx (wS sg s))
def SndSs (sg : Sg) (lv : Nat) (ss : List Sx) : Prop := ∀ (sts : List Stmt) (B : Bs) (N : List Str) (sc : Scope) (Wx : WX) (X : Cx), Gs B sg lv N sc Wx X → okSs N sc ss sts = true → PSs X sts (lS B Wx (wSs sg ss))
def noSet (e : Expr) : Bool := match e with
  | .SetComp _ _ _ _ => false
  | .DictComp _ _ _ _ _ => false
  | _ => true
theorem okE_lc {N : List Str} {sc : Scope} {e : Ex} {elt : Expr} {gs : List Comprehension} {scope : Scope} {pos : Pos} (h : okE N sc e (.ListComp elt gs scope pos) = true) : ∃ tg own k its cs e1 m, e = .lc tg own k its cs e1 m := by
  cases e with
  | lc tg own k its cs e1 m => exact ⟨tg, own, k, its, cs, e1, m, rfl⟩
  | pr p es => cases p <;> (unfold okE at h; simp [dec] at h)
  | _ => unfold okE at h; cases h
theorem sw_lc {e : Expr} {x : Str} {p : Pos} {l : Nat} {env : Env} {sc : Scope} (he : env.scope = sc) (hn : noSet e = true) (h : swB sc x p e = false) : swapsWith e (some (.Name x p)) l env = pure false := by
  cases e with
  | ListComp elt gs s pos =>
    have h' : (decide (sc.names.lookup x = some .local) && (p.line == pos.line) && !(s.names.any fun (n, k) => n == x && (k == .local || k == .cell))) = false := h
    have hk : (env.kindOf x == some .local) = decide (sc.names.lookup x = some .local) := by
      show (env.scope.names.lookup x == some .local) = _
      rw [he]
      by_cases c : sc.names.lookup x = some .local
      · rw [c]; rfl
      · rw [decide_eq_false c]; simpa using c
    unfold swapsWith
    show (pure (env.blockKind == .function && env.kindOf x == some .local && p.line == pos.line && !(s.names.any fun (n, k) => n == x && (k == .local || k == .cell))) : Sem Bool) = pure false
    congr 1
    rw [hk]
    cases (env.blockKind == .function)
    · simp
    · simpa using h'
  | SetComp _ _ _ _ => cases hn
  | DictComp _ _ _ _ _ => cases hn
  | _ => rfl
theorem okE_no {N : List Str} {sc : Scope} {e : Ex} {v : Expr} (h : okE N sc e v = true) : noSet v = true := by
  cases v <;> first | rfl | skip
  · cases e with
    | pr p es => cases p <;> (unfold okE at h; simp [dec] at h)
    | _ => unfold okE at h; cases h
  · cases e with
    | pr p es => cases p <;> (unfold okE at h; simp [dec] at h)
    | _ => unfold okE at h; cases h
theorem snds_asg (i : Nat) (e : Ex) : SndS sg lv (.asg i e) := by
  intro st B N sc Wx X g h
  unfold okS at h
  split at h
  · rename_i x p v pos
    rw [Bool.and_eq_true] at h
    have hn : (decide (N[i]? = some x) && asgB sc x) = true := h.1
    rw [Bool.and_eq_true] at hn
    obtain ⟨h1, h2⟩ := g.g.asg x hn.2
    have he := (sndE e v B N sc Wx X g.g h.2).1
    cases hb : swB sc x p v with
    | false => exact PS.imp (ps_set g.g.nd (by rw [g.g.eN]; exact of_decide_eq_true hn.1) h1 he (sw_lc g.esc (okE_no h.2) hb) h2) fun D σ H hw => w_asg hw
    | true =>
      cases v with
      | ListComp elt gs scope lpos =>
        obtain ⟨tg, own, k, its, cs, e1, m, rfl⟩ := okE_lc h.2
        have hb' : (decide (sc.names.lookup x = some .local) && (p.line == lpos.line) && !(scope.names.any fun (n, k) => n == x && (k == .local || k == .cell))) = true := hb
        rw [Bool.and_eq_true, Bool.and_eq_true] at hb'
        have hl := h.2
        unfold okE at hl
        split at hl
        · rename_i elt' tgt iter ifs scope' pos' heq
          cases heq
          simp only [Bool.and_eq_true] at hl
          obtain ⟨⟨⟨⟨⟨⟨⟨ht, hpi⟩, hbk⟩, hown⟩, hit⟩, hlen⟩, hcs⟩, helt⟩ := hl
          split at hit
          · rename_i is hd
            rw [Bool.and_eq_true] at hit
            have hin : tgIn tg own = true := by cases tg <;> exact hown
            refine PS.of_kind fun hk => ?_
            refine PS.imp ((c_lc g.g ht hbk hin hd hit.1 hpi ((sndEs its).1 _ B N sc Wx X g.g hit.2) (fun F X' g' => (sndEs cs).2 _ _ N scope noW X' g' (of_decide_eq_true hlen) hcs) (fun F X' g' => (sndE e1 _ _ N scope noW X' g' helt).1)).2 i x p pos (of_decide_eq_true hn.1) (by rw [g.esc]; exact of_decide_eq_true hb'.1.1) hk hb'.1.2 (by simpa using hb'.2)) fun D σ H hw => w_asg hw
          · cases hit
        · cases hl
      | _ => cases hb
  · cases h
theorem snds_par (is : List Nat) (es : List Ex) : SndS sg lv (.par is es) := by
  intro st B N sc Wx X g h
  unfold okS at h
  split at h
  · rename_i ts _ _ vs _ _ _
    simp only [Bool.and_eq_true, Bool.or_eq_true, decide_eq_true_eq] at h
    obtain ⟨⟨⟨⟨⟨hn, he⟩, hp⟩, hpar⟩, nd⟩, h30⟩ := h
    rcases hpar with (hpar | hpar) | hpar
    · unfold parOk at hpar
      simp only [Bool.and_eq_true] at hpar
      obtain ⟨⟨⟨h1, h2⟩, h3⟩, h4⟩ := hpar
      split at h4
      · rename_i x px e2
        simp only [Bool.and_eq_true, decide_eq_true_eq] at h4
        obtain ⟨⟨h5, h6⟩, h7⟩ := h4
        match vs, h7 with
        | [a, b], _ =>
          match is, hn, nd with
          | [i, j], hn, nd =>
            simp only [okNms, Bool.and_eq_true] at hn
            obtain ⟨n1, n2, _⟩ := hn
            cases e2 with
            | Name y py =>
              simp only [nmLine, Bool.and_eq_true, decide_eq_true_eq] at h5 h6
              simp only [okNm, Bool.and_eq_true, decide_eq_true_eq] at n1 n2
              refine s_par2 g n1.1 n2.1 (by simpa using nd) h5.1 h6.1 h6.2 h1 (by simpa only [Bool.not_eq_true'] using h2) (by simpa only [Bool.not_eq_true'] using h3) hp ((sndEs es).1 _ B N sc Wx X g.g he)
            | _ => cases h6
          | [], hn, _ => simp [okNms] at hn
          | [_], hn, _ => simp [okNms] at hn
          | _ :: _ :: _ :: _, hn, _ => simp [okNms] at hn
      · cases h4
    · unfold par3Ok at hpar
      simp only [Bool.and_eq_true] at hpar
      obtain ⟨⟨⟨h1, h2⟩, h3⟩, h4⟩ := hpar
      split at h4
      · rename_i x px e2 e3
        simp only [Bool.and_eq_true, decide_eq_true_eq] at h4
        obtain ⟨⟨⟨h5, h6⟩, h6'⟩, h7⟩ := h4
        match vs, h7 with
        | [a, b, c], _ =>
          match is, hn, nd with
          | [i, j, l], hn, nd =>
            simp only [okNms, Bool.and_eq_true] at hn
            obtain ⟨n1, n2, n3, _⟩ := hn
            cases e2 with
            | Name y py =>
              cases e3 with
              | Name z pz =>
                simp only [nmLine, Bool.and_eq_true, decide_eq_true_eq] at h5 h6 h6'
                simp only [okNm, Bool.and_eq_true, decide_eq_true_eq] at n1 n2 n3
                simp only [List.nodup_cons, List.mem_cons, List.not_mem_nil, or_false, not_or] at nd
                refine s_par3 g n1.1 n2.1 n3.1 nd.1.1 nd.1.2 nd.2.1 h5.1 h6.1 h6'.1 h6.2 h6'.2 h1 (by simpa only [Bool.not_eq_true'] using h2) (by simpa only [Bool.not_eq_true'] using h3) hp ((sndEs es).1 _ B N sc Wx X g.g he)
              | _ => cases h6'
            | _ => cases h6
          | [], hn, _ => simp [okNms] at hn
          | [_], hn, _ => simp [okNms] at hn
          | [_, _], hn, _ => simp [okNms] at hn
          | _ :: _ :: _ :: _ :: _, hn, _ => simp [okNms] at hn
      · cases h4
    · exact s_parT g h30 hn hpar hp ((sndEs es).1 _ B N sc Wx X g.g he)
  · cases h
theorem snds_nil : SndSs sg lv [] := by
  intro sts B N sc Wx X g h
  cases sts with
  | nil => exact PSs.imp pss_nil fun D σ H hw => lS_nx (by simpa only [wSs] using hw)
  | cons s r => unfold okSs at h; cases h
theorem snds_frz {i : Nat} {r : List Sx} (h2 : SndSs sg lv r) : SndSs sg lv (.frz i :: r) := by
  intro sts B N sc Wx X g h
  unfold okSs at h
  refine PSs.imp (h2 sts B N sc Wx X g h) fun D σ H ⟨α, Γ, M, E, ok, va, hw, k⟩ => ?_
  simp only [wSs, wS] at hw
  split at hw
  · rename_i w ew
    obtain ⟨v, ev, rv⟩ := va.2 i w ew
    split at hw
    · rename_i x M' ef
      obtain ⟨s1, ok1, r1⟩ := frzW_snd 4 M w x M' v ok rv ef
      refine ⟨α, Γ.set i (some (.d x)), M', E, ok1, ?_, hw, k.step s1⟩
      have va1 := (va.step s1).set i (x := .d x) r1
      have hl := (List.getElem?_eq_some_iff.mp ev)
      obtain ⟨hi, e⟩ := hl
      have : σ.set i (some v) = σ := by
        rw [← e]; exact List.set_getElem_self hi
      rw [this] at va1
      exact va1
    · exact hw.elim
  · exact hw.elim
theorem snds_cons {s : Sx} {r : List Sx} (h1 : SndS sg lv s) (h2 : SndSs sg lv r) : SndSs sg lv (s :: r) := by
  cases s with
  | frz i => exact snds_frz h2
  | _ =>
    intro sts B N sc Wx X g h
    unfold okSs at h
    dsimp only at h
    cases sts with
    | nil => cases h
    | cons st sts =>
      dsimp only at h
      rw [Bool.and_eq_true] at h
      refine PSs.imp (pss_cons (h1 st B N sc Wx X g h.1) (h2 sts B N sc Wx X g h.2)) fun D σ H ⟨α, Γ, M, E, ok, va, hw, k⟩ => ?_
      simp only [wSs] at hw
      refine ⟨α, Γ, M, _, ok, va, hw, ⟨fun α' Γ' M' σ' H' s1 ok1 va1 h => ⟨α', Γ', M', E, ok1, va1, h, k.step s1⟩, k.bk, k.ct, k.rt, k.xr⟩⟩
mutual
theorem sndS : ∀ s : Sx, SndS sg lv s
  | .asg i e => snds_asg i e
  | .asgT is e => by
    intro st B N sc Wx X g h
    unfold okS at h
    split at h
    · rw [Bool.and_eq_true, Bool.and_eq_true] at h
      exact s_asgT g h.1.1 (sndE e _ B N sc Wx X g.g h.1.2).1 h.2
    · cases h
  | .par is es => snds_par is es
  | .sub a k e => by
    intro st B N sc Wx X g h
    unfold okS at h
    split at h
    · simp only [Bool.and_eq_true] at h
      exact s_sub g h.2 (sndE a _ B N sc Wx X g.g h.1.1.1).1 (sndE k _ B N sc Wx X g.g h.1.1.2).1 (sndE e _ B N sc Wx X g.g h.1.2).1
    · cases h
  | .fld a f e => by
    intro st B N sc Wx X g h
    unfold okS at h
    split at h
    · simp only [Bool.and_eq_true, decide_eq_true_eq] at h
      obtain ⟨⟨rfl, ha⟩, he⟩ := h
      exact s_fld g (sndE a _ B N sc Wx X g.g ha).1 (sndE e _ B N sc Wx X g.g he).1
    · cases h
  | .aug i op e => by
    intro st B N sc Wx X g h
    unfold okS at h
    split at h
    · simp only [Bool.and_eq_true, decide_eq_true_eq] at h
      obtain ⟨⟨hn, rfl⟩, he⟩ := h
      exact s_aug g hn (sndE e _ B N sc Wx X g.g he).1
    · cases h
  | .exp e => by
    intro st B N sc Wx X g h
    unfold okS at h
    split at h
    · rw [Bool.and_eq_true] at h
      exact s_exp h.1 (sndE e _ B N sc Wx X g.g h.2).1
    · cases h
  | .ret e => by
    intro st B N sc Wx X g h
    unfold okS at h
    split at h
    · exact s_ret (sndE e _ B N sc Wx X g.g h).1
    · cases h
  | .retN => by
    intro st B N sc Wx X g h
    unfold okS at h
    split at h
    · exact s_retN
    · cases h
  | .ite c a b => by
    intro st B N sc Wx X g h
    unfold okS at h
    split at h
    · rw [Bool.and_eq_true, Bool.and_eq_true] at h
      exact s_ite (sndE c _ B N sc Wx X g.g h.1.1).2.1 (sndSs a _ B N sc Wx X g h.1.2) (sndSs b _ B N sc Wx X g h.2)
    · cases h
  | .whl c b => by
    intro st B N sc Wx X g h
    unfold okS at h
    split at h
    · rw [Bool.and_eq_true] at h
      exact s_whl g (sndE c _ B N sc Wx X g.g h.1).2.1 (sndSs b _ B N sc Wx X g h.2)
    · cases h
  | .fors tg k its b => by
    intro st B N sc Wx X g h
    unfold okS at h
    split at h
    · simp only [Bool.and_eq_true] at h
      obtain ⟨⟨⟨ht, hpi⟩, hit⟩, hb⟩ := h
      split at hit
      · rename_i is hd
        rw [Bool.and_eq_true] at hit
        exact s_fors g ht hpi hd hit.1 ((sndEs its).1 _ B N sc Wx X g.g hit.2) (sndSs b _ B N sc Wx X g hb)
      · cases hit
    · cases h
  | .brk => by
    intro st B N sc Wx X g h
    unfold okS at h
    split at h
    · exact s_brk
    · cases h
  | .cnt => by
    intro st B N sc Wx X g h
    unfold okS at h
    split at h
    · exact s_cnt
    · cases h
  | .pss => by
    intro st B N sc Wx X g h
    unfold okS at h
    split at h
    · exact s_pss
    · cases h
  | .rse c es => by
    intro st B N sc Wx X g h
    unfold okS at h
    split at h
    · simp only [Bool.and_eq_true, decide_eq_true_eq] at h
      obtain ⟨⟨⟨⟨⟨rfl, hx⟩, hn⟩, hp⟩, hl⟩, he⟩ := h
      exact s_rse g hx hn ((sndEs es).1 _ B N sc Wx X g.g he) hp hl
    · cases h
  | .bad => by
    intro st B N sc Wx X g h
    exact PS.imp ps_never fun D σ H ⟨α, Γ, M, E, ok, va, hw, k⟩ => by
      simp only [wS] at hw
  | .hnd _ _ _ => by
    intro st B N sc Wx X g h
    unfold okS at h
    cases h
  | .tri b hs => by
    intro st B N sc Wx X g h
    unfold okS at h
    split at h
    · rw [Bool.and_eq_true] at h
      exact s_tri g (fun W' X' g' => sndSs b _ B N sc W' X' g' h.1) h.2
    · cases h
  | .frz i => by
    intro st B N sc Wx X g h
    unfold okS at h
    cases h
theorem sndSs : ∀ ss : List Sx, SndSs sg lv ss
  | [] => snds_nil
  | s :: r => snds_cons (sndS s) (sndSs r)
end
end
end DL

/-! DL25: a def keeps its promise. -/
namespace DL
open PySem PySem.Spec L2 PyProof.Rows
def G0 (n : Nat) (ws : List W) : GG := ws.map some ++ List.replicate (n - ws.length) none
/-- what comes back; what was made within is let go where it may -/
def retQ (tr : Bool) (n : Nat) (Q : W → MM → Prop) : W → MM → Prop := fun x M' => ifB (tr && clipW n x) (Q x (trunc n M')) (Q x M')
def bodyE (tr : Bool) (n : Nat) (Q : W → MM → Prop) (R : XR) : DE := ⟨fun _ M' => retQ tr n Q (.d .non) M', retQ tr n Q, fun _ _ => False, fun _ _ => False, fun _ c fs M' => R c fs (trunc n M')⟩
section
variable {P : Program} {w : World} {K : PySem.W.Frag} {mg : Str → Option Value} {base : Heap} {B : Bs} {α α' : List Addr} {M M' : MM} {H H' : Hp}
theorem trunc_ref {n : Nat} {x : W} {v : V} (ok : Ok B α M H) (c : clipW n x = true) (r : RepW B α M H x v) : RepW B (α.take n) (trunc n M) H x v := by
  unfold trunc
  split
  · rename_i e
    have : α.take n = α := List.take_of_length_le (by rw [ok.len]; omega)
    rw [this]; exact r
  · exact clip_ref c (clip_kept n) r
theorem trunc_kept (ok : Ok B α M H) (n : Nat) : Kept (Lv B α M) H (Lv B (α.take n) (trunc n M)) H := fun a o e h => ⟨e, fun l => by
  rcases l with l | l
  · exact h (.inl l)
  · exact h (.inr (trunc_live ok l))⟩
theorem ret_snd {tr : Bool} {Q : W → MM → Prop} {QV : VK} (ok : Ok B α M H) (q : QOk B α M H Q QV) : QOk B α M H (retQ tr M.length Q) QV := by
  intro α1 M1 x v H1 s1 ok1 r1 h1
  unfold retQ at h1
  rw [ifB_iff] at h1
  split at h1
  · rename_i c
    rw [Bool.and_eq_true] at c
    obtain ⟨e, s2, ok2⟩ := turn_step ok s1 ok1
    have r2 := trunc_ref ok1 c.2 r1
    rw [e] at r2
    exact q α _ x v H1 s2 ok2 r2 h1
  · exact q α1 M1 x v H1 s1 ok1 r1 h1
theorem vars_start {N : List Str} {ws : List W} {vs : List V} (r : RepWs B α M H ws vs) (hl : vs.length ≤ N.length) : Vars B α M H (G0 N.length ws) (start N vs) := by
  have hlen := r.len
  unfold G0 L2.start
  refine ⟨by simp [hlen], fun i x e => ?_⟩
  have key : ∀ {ws : List W} {vs : List V} {i : Nat} {x : W}, RepWs B α M H ws vs → ws[i]? = some x → ∃ v, vs[i]? = some v ∧ RepW B α M H x v := by
    intro ws
    induction ws with
    | nil => intro vs i x _ e; cases e
    | cons w ws ih =>
      intro vs i x r e
      obtain ⟨v, s, rfl, h1, h2⟩ := r
      cases i with
      | zero => cases e; exact ⟨v, rfl, h1⟩
      | succ i => exact ih (vs := s) (i := i) h2 e
  by_cases hi : i < ws.length
  · rw [List.getElem?_append_left (by rw [List.length_map]; exact hi), List.getElem?_map] at e
    cases ew : ws[i]? with
    | none => rw [ew] at e; cases e
    | some y =>
      rw [ew] at e
      cases e
      obtain ⟨v, ev, rv⟩ := key r ew
      refine ⟨v, ?_, rv⟩
      rw [List.getElem?_append_left (by rw [List.length_map, hlen]; exact hi), List.getElem?_map, ev]
      rfl
  · rw [List.getElem?_append_right (by rw [List.length_map]; omega), List.getElem?_replicate] at e
    split at e <;> cases e
/-- the rule -/
theorem fn_ok {B : Bs} {sg : Sg} {lv : Nat} {N ps : List Str} {x qual : Str} {params : Arguments} {body : List Stmt} {scope : Scope} {dvs : List V} {kws : List (Str × V)} {f : Addr} {fd : FuncData} {ss : List Sx} {tr : Bool} {sp : Spec}
    (env : FnEnv B sg lv) (F : FunD B.K x qual params body scope dvs kws f fd) (S : FnScope N ps scope) (hc : okSs N scope ss body = true)
    (hsp : ∀ ws M Q R, sp ws M Q R → ws.length = ps.length ∧ wSs sg ss (G0 N.length ws) M (bodyE tr M.length Q R)) : FnG B.P B.w B.K B.mg B.base (L2.CX B.P B.w) (lv + 1) f fd ps (spOf B sp) := by
  have hpl : ps.length ≤ N.length := by have := congrArg List.length S.pre; rw [List.length_take] at this; omega
  refine FunD.okG F S (fun vs H Q E ⟨F', α, M, ws, Qd, R, ok, r, hs, q, xe⟩ => by rw [r.len]; exact (hsp ws M Qd R hs).1) fun cdv A outer s H vs Q E hr ⟨F', α, M, ws, Qd, R, ok, r, hs, q, xe⟩ => ?_
  obtain ⟨hl, hw⟩ := hsp ws M Qd R hs
  refine ⟨lS (B.at F') (fun cls d _ H' => E cls d H') (wSs sg ss), ?_, α, G0 N.length ws, M, _, ok, vars_start r (by rw [r.len, hl]; exact hpl), hw, ?_⟩
  · refine sndSs (lv := lv) ss body (B.at F') N scope _ (cxOf (L2.CX B.P B.w) B.P B.w B.K B.mg B.base N qual scope f cdv A outer s H E) ⟨?_, rfl, passes_of rfl, takes_of rfl rfl rfl rfl, rfl, rfl⟩ hc
    exact {
      eP := rfl
      ew := rfl
      eK := rfl
      emg := rfl
      eb := rfl
      eN := rfl
      nd := S.nd
      vis := fun y h => by
        show Vis scope y
        unfold visB at h
        split at h <;> rename_i e
        · exact .inl e
        · exact .inr (.inl e)
        · exact .inr (.inr e)
        · cases h
      asg := fun y h => by
        refine ⟨?_, .inl rfl⟩
        show Loc scope y
        unfold asgB at h
        split at h <;> rename_i e
        · exact .inl e
        · exact .inr e
        · cases h
      glo := fun y h => by
        show scope.names.lookup y = some .globalImplicit
        unfold gloB at h
        split at h
        · assumption
        · cases h
      free := fun y h => h
      calm := rfl
      room := hr
      un := Nat.lt_of_le_of_lt (Nat.add_le_add_left (by omega : 80 ≤ 16 * lv + 200) _) (by rw [← Nat.add_assoc]; exact hr.r.un)
      gds := hr.g
      px := fun σ => passAt (takes_of (X := cxOf (L2.CX B.P B.w) B.P B.w B.K B.mg B.base N qual scope f cdv A outer s H E) rfl rfl rfl rfl) σ
      env := env.at F' }
  · refine ⟨fun α' Γ' M' σ' H' s1 ok1 va1 h => ?_, fun _ _ _ _ _ _ _ _ h => h.elim, fun _ _ _ _ _ _ _ _ h => h.elim, ret_snd ok q, fun α' Γ' M' σ' H' s1 ok1 va1 => ?_⟩
    · exact ret_snd (tr := tr) ok q α' M' (.d .non) .non H' s1 ok1 rfl h
    · intro α2 M2 H2 cls d c fs s2 ok2 rx h
      obtain ⟨e, s3, ok3⟩ := turn_step ok (s1.trans s2) ok2
      refine xe α (trunc M.length M2) H2 cls d c fs s3 ok3 ?_ h
      obtain ⟨C, e1, e2, e3⟩ := rx
      refine ⟨C, e1, e2, ?_⟩
      have kp := trunc_kept ok2 M.length
      rw [e] at kp
      cases d with
      | none => exact e3
      | some a =>
        obtain ⟨vs, h1, h2, h3⟩ := e3
        exact ⟨vs, h1, (kp a _ h1 h2).2, RepF.mono kp _ _ h3⟩
end
end DL

/-! DL26: tables of promises; loops by what stands; a law's end. -/
namespace DL
open PySem PySem.Spec L2 PyProof.Rows
/-! ### tables -/
structure Tb where
  fs : List (Str × Nat × Spec) := []
  ms : List (Str × Str × Nat × Spec) := []
  ns : List (Str × Nat × Spec) := []
  gs : List (Str × D) := []
  at_ : List (Str × Str) := []
  xs : List (Str × List Str) := []
  su : List (Str × Str × Bool) := []
def Tb.sg (t : Tb) : Sg where
  fn := fun x n => (t.fs.find? fun e => decide (e.1 = x ∧ e.2.1 = n)).map (·.2.2)
  me := fun c m n => (t.ms.find? fun e => decide (e.1 = c ∧ e.2.1 = m ∧ e.2.2.1 = n)).map (·.2.2.2)
  nw := fun x n => (t.ns.find? fun e => decide (e.1 = x ∧ e.2.1 = n)).map (·.2.2)
  gl := fun x => (t.gs.find? fun e => decide (e.1 = x)).map (·.2)
  fa := fun c f => t.at_.any fun e => decide (e.1 = c ∧ e.2 = f)
  xc := fun c => (t.xs.find? fun e => decide (e.1 = c)).map (·.2)
  sub := fun c T => (t.su.find? fun e => decide (e.1 = c ∧ e.2.1 = T)).map (·.2.2)
  ex := none
section
variable {B : Bs} {lv : Nat}
theorem Tb.env {t : Tb} (hf : ∀ e ∈ t.fs, FnD B lv e.2.2 e.1) (hm : ∀ e ∈ t.ms, MeD B lv e.2.2.2 e.1 e.2.1) (hn : ∀ e ∈ t.ns, NwD B lv e.2.2 e.1)
    (hg : ∀ e ∈ t.gs, ∃ u v, B.mg e.1 = some u ∧ RelV v u ∧ ∀ F α M H, Rep (B.at F) (Lv (B.at F) α M) H e.2 v) (ha : ∀ e ∈ t.at_, ∀ C, B.mg e.1 = some (.ref C) → Cls B.K C ∧ NoAttr B.K C e.2)
    (hb : ∀ x ∈ DL.bu, B.mg x = none) (hx : ∀ e ∈ t.xs, XcD B lv e.1 e.2) (hs : ∀ e ∈ t.su, SubD B e.1 e.2.1 e.2.2) : FnEnv B t.sg lv where
  fn := fun x n sp h => by
    obtain ⟨e, he, rfl⟩ := Option.map_eq_some_iff.mp h
    have h0 := List.find?_some he
    have h1 := of_decide_eq_true h0
    have h2 := hf e (List.mem_of_find?_eq_some he)
    rw [h1.1] at h2
    exact h2
  me := fun c m n sp h => by
    obtain ⟨e, he, rfl⟩ := Option.map_eq_some_iff.mp h
    have h0 := List.find?_some he
    have h1 := of_decide_eq_true h0
    have h2 := hm e (List.mem_of_find?_eq_some he)
    rw [h1.1, h1.2.1] at h2
    exact h2
  nw := fun x n sp h => by
    obtain ⟨e, he, rfl⟩ := Option.map_eq_some_iff.mp h
    have h0 := List.find?_some he
    have h1 := of_decide_eq_true h0
    have h2 := hn e (List.mem_of_find?_eq_some he)
    rw [h1.1] at h2
    exact h2
  gl := fun x d h => by
    obtain ⟨e, he, rfl⟩ := Option.map_eq_some_iff.mp h
    have h0 := List.find?_some he
    have h1 := of_decide_eq_true h0
    have h2 := hg e (List.mem_of_find?_eq_some he)
    rw [h1] at h2
    exact h2
  fa := fun c f h C hc => by
    obtain ⟨e, he, h1⟩ := List.any_eq_true.mp h
    have h2 := of_decide_eq_true h1
    rw [← h2.1] at hc
    have h3 := ha e he C hc
    rw [h2.2] at h3
    exact h3
  bu := hb
  xc := fun c fs h => by
    obtain ⟨e, he, rfl⟩ := Option.map_eq_some_iff.mp h
    have h0 := List.find?_some he
    have h1 := of_decide_eq_true h0
    have h2 := hx e (List.mem_of_find?_eq_some he)
    rw [h1] at h2
    exact h2
  sub := fun c T b h => by
    obtain ⟨e, he, rfl⟩ := Option.map_eq_some_iff.mp h
    have h0 := List.find?_some he
    have h1 := of_decide_eq_true h0
    have h2 := hs e (List.mem_of_find?_eq_some he)
    rw [h1.1, h1.2] at h2
    exact h2
theorem FnD.mono {sp : Spec} {x : Str} {j : Nat} (h : FnD B lv sp x) (hj : lv ≤ j) : FnD B j sp x := by
  obtain ⟨f, fd, ps, k, dvs, ds, dws, sp0, h1, h2, h3, h4⟩ := h.ex
  exact ⟨f, fd, ps, k, dvs, ds, dws, sp0, h1, h2, Nat.le_trans h3 hj, h4⟩
theorem FnD.mk1 {f : Addr} {fd : FuncData} {ps : List Str} {k : Nat} {sp : Spec} {x : Str} (hm : B.mg x = some (.ref f)) (F : FnG B.P B.w B.K B.mg B.base (L2.CX B.P B.w) k f fd ps (spOf B sp)) (hk : k ≤ lv) (kp : PySem.W.keepIn B.K (.ref f) = true)
    (hb : L2.Binds B.K fd ps []) : FnD B lv sp x := ⟨f, fd, ps, k, [], [], [], sp, hm, F, hk, kp, hb, .nil, fun _ _ _ _ => rfl, fun ws M Q R h => by rw [List.append_nil]; exact h⟩
end
/-! ### promises over data alone -/
def dSp (pre : List D → Prop) (post : List D → D → Prop) : Spec := fun ws M Q _ => ∃ ds, ws = ds.map W.d ∧ M = [] ∧ pre ds ∧ ∀ r, post ds r → Q (.d r) []
theorem refsW_d : ∀ ds : List D, refsW (ds.map W.d) = []
  | [] => rfl
  | d :: ds => refsW_d ds
theorem reach_d (M : MM) (ds : List D) : reach M (ds.map W.d) = [] := by
  unfold reach
  rw [refsW_d]
  rfl
theorem renW_d (ix : List Nat) : ∀ ds : List D, (ds.map W.d).map (renW ix) = ds.map W.d
  | [] => rfl
  | d :: ds => by simp only [List.map_cons, renW_d ix ds]; rfl
theorem use_d {pre : List D → Prop} {post : List D → D → Prop} {M : MM} {Q : W → MM → Prop} {R : XR} (ds : List D) (h : pre ds) (hq : ∀ r, post ds r → Q (.d r) M) : lendO (some (dSp pre post)) [] (ds.map W.d) M Q R := by
  show callI (reach M (ds.map W.d)) _ _ _ _ _
  rw [reach_d]
  refine ⟨?_, ds, by rw [renW_d], rfl, h, fun r hr => ?_⟩
  · unfold okIx
    rw [refsW_d]
    rfl
  · have := hq r hr
    show Q (backW [] M.length (.d r)) (splice M [] [])
    have e : splice M [] [] = M := by
      unfold splice
      simp [putAll]
    rw [e]
    exact this
theorem allD_map : ∀ ds : List D, allD (ds.map W.d) = some ds
  | [] => rfl
  | d :: ds => by simp only [List.map_cons, allD, allD_map ds]
/-- lent: the result a scalar -/
theorem use_l {pre : List D → Prop} {post : List D → D → Prop} {M M1 : MM} {Q : W → MM → Prop} {R : XR} {b : Bool} {bs : List Bool} {ws : List W} (ds : List D) (hl : lend M (b :: bs) ws = some (ds.map W.d, M1)) (h : pre ds) (hq : ∀ r, post ds r → isScal (.d r) = true ∧ Q (.d r) M) :
    lendO (some (dSp pre post)) (b :: bs) ws M Q R := by
  unfold lendO lendW
  dsimp only
  rw [hl]
  exact ⟨by rw [allD_map]; rfl, ds, rfl, rfl, h, hq⟩
/-! ### one object that may change, the rest data -/
/-- st: how the object stands for what it stands for -/
def oSp {σ : Type} (st : σ → MO) (pre : σ → List D → Prop) (post : σ → List D → σ → D → Prop) : Spec := fun ws M Q _ => ∃ (s : σ) (ds : List D), ws = .ref 0 :: ds.map W.d ∧ M = [some (st s)] ∧ pre s ds ∧ ∀ s' r, post s ds s' r → Q (.d r) [some (st s')]
theorem use_o {σ : Type} {st : σ → MO} {pre : σ → List D → Prop} {post : σ → List D → σ → D → Prop} {M : MM} {Q : W → MM → Prop} {R : XR} (hst : ∀ s, (∃ kvs, st s = .dct kvs) ∨ (∃ xs, st s = .lst xs)) (i : Nat) (s : σ) (ds : List D) (hM : M[i]? = some (some (st s))) (h : pre s ds)
    (hq : ∀ s' r, post s ds s' r → Q (.d r) (M.set i (some (st s')))) : lendO (some (oSp st pre post)) [] (.ref i :: ds.map W.d) M Q R := by
  have hmap : ∀ (f : W → W) s, mapMO f (st s) = st s := fun f s => by
    rcases hst s with ⟨k, e⟩ | ⟨k, e⟩ <;> rw [e] <;> rfl
  have hrf : ∀ s, refsM (some (st s)) = [] := fun s => by
    rcases hst s with ⟨k, e⟩ | ⟨k, e⟩ <;> rw [e] <;> rfl
  have hg : M.getD i none = some (st s) := by rw [List.getD_eq_getElem?_getD, hM]; rfl
  have hr : reach M (.ref i :: ds.map W.d) = [i] := by
    unfold reach
    have e1 : refsW (.ref i :: ds.map W.d) = [i] := by show i :: refsW (ds.map W.d) = [i]; rw [refsW_d]
    have e2 : ([i] : List Nat).eraseDups = [i] := by rw [List.eraseDups_cons, List.filter_nil]; rfl
    rw [e1]
    simp only [e2, List.flatMap_cons, List.flatMap_nil, hg, hrf, List.append_nil]
  show callI (reach M (.ref i :: ds.map W.d)) _ _ _ _ _
  rw [hr]
  have hi := (List.getElem?_eq_some_iff.mp hM).1
  refine ⟨?_, s, ds, ?_, ?_, h, fun s' r hp => ?_⟩
  · unfold okIx
    have e1 : refsW (.ref i :: ds.map W.d) = [i] := by show i :: refsW (ds.map W.d) = [i]; rw [refsW_d]
    rw [e1]
    simp only [List.all_cons, List.all_nil, hg, hrf, hi, Bool.and_true, List.mem_singleton, decide_true]
    simp
  · show renW [i] (.ref i) :: (ds.map W.d).map (renW [i]) = _
    rw [renW_d]
    show W.ref (([i] : List Nat).idxOf i) :: _ = _
    simp
  · simp only [List.map_cons, List.map_nil, hg, Option.map_some, hmap]
  · have := hq s' r hp
    show Q (backW [i] M.length (.d r)) (splice M [i] [some (st s')])
    have e : splice M [i] [some (st s')] = M.set i (some (st s')) := by
      unfold splice
      simp [putAll, hmap]
    rw [e]
    exact this
/-! ### loops -/
theorem goFor_ind {f : D → GG → MM → DE → Prop} {E : DE} (I : List D → GG → MM → Prop) (hnil : ∀ Γ M, I [] Γ M → E.nx Γ M)
    (hcons : ∀ (x : D) (xs : List D) (Γ : GG) (M : MM) (E' : DE), I (x :: xs) Γ M → (∀ Γ' M', I xs (clipG M.length Γ') (trunc M.length M') → E'.nx Γ' M') → (∀ Γ' M', I xs (clipG M.length Γ') (trunc M.length M') → E'.ct Γ' M') →
      (∀ Γ' M', E.nx (clipG M.length Γ') (trunc M.length M') → E'.bk Γ' M') → (∀ x M', E.rt x M' → E'.rt x M') → E'.xr = E.xr → f x Γ M E') :
    ∀ (items : List D) (Γ : GG) (M : MM), I items Γ M → goFor f items Γ M E
  | [], Γ, M, h => by rw [goFor_nil]; exact hnil Γ M h
  | x :: xs, Γ, M, h => by
    rw [goFor_cons]
    exact hcons x xs Γ M _ h (fun Γ' M' h' => goFor_ind I hnil hcons xs _ _ h') (fun Γ' M' h' => goFor_ind I hnil hcons xs _ _ h') (fun Γ' M' h => h) (fun x M' h => h) rfl
theorem ifB_c {c : Bool} {A B : Prop} (h1 : c = true → A) (h2 : c = false → B) : ifB c A B := by
  cases c
  · exact h2 rfl
  · exact h1 rfl
theorem ifB_d {p : Prop} [Decidable p] {A B : Prop} (h1 : p → A) (h2 : ¬ p → B) : ifB (decide p) A B := ifB_c (fun h => h1 (of_decide_eq_true h)) fun h => h2 (of_decide_eq_false h)
theorem ifB_n {c : Bool} {A B : Prop} (h : ifB c B A) : ifB (!c) A B := by cases c <;> exact h
theorem goLc_ind {f : D → MM → (Option D → MM → Prop) → Prop} {Q : List D → MM → Prop} (I : List D → List D → MM → Prop) (hnil : ∀ acc M, I [] acc M → Q acc M)
    (hcons : ∀ (x : D) (xs acc : List D) (M : MM) (K : List D → MM → Prop), I (x :: xs) acc M → (∀ acc' M', I xs acc' M' → K acc' M') → f x M fun r M' => K (match r with | some y => acc ++ [y] | none => acc) (trunc M.length M')) :
    ∀ (items acc : List D) (M : MM), I items acc M → goLc f items acc M Q
  | [], acc, M, h => by rw [goLc_nil]; exact hnil acc M h
  | x :: xs, acc, M, h => by
    rw [goLc_cons]
    exact hcons x xs acc M (fun acc' M' => goLc f xs acc' M' Q) h fun acc' M' h' => goLc_ind I hnil hcons xs acc' M' h'
/-! ### the law's own end -/
/-- the law over data: the script alone -/
def lawSp (n : Nat) : Spec := fun ws M Q _ => ∃ ns : List Int, ws = [.d (.scr ns)] ∧ M = [] ∧ ns.length ≤ n ∧ Q (.d (.bl true)) []
def lawSpV (K : PySem.W.Frag) (n : Nat) : Sp := fun vs H Q _ => ∃ (a : Addr) (ns : List Int), vs = [.ref a] ∧ SqL K H a (ns.map V.int) ∧ ns.length ≤ n ∧ ∀ H', Q (.bl true) H'
theorem cx_never {P : Program} {w : World} {outer : List Env} {H : Hp} {s s' : Shared} {u : Value} (h : L2.CX P w outer H s (fun _ _ _ => False) u s') : False := by
  obtain ⟨_, _, _, _, _, _, _, _, _, _, _, _, z⟩ := h
  exact z
/-- a promise that nothing is raised -/
theorem fn_calm {B : Bs} {k : Nat} {f : Addr} {fd : FuncData} {ps : List Str} {sp : Sp} (F : FnG B.P B.w B.K B.mg B.base (L2.CX B.P B.w) k f fd ps sp) (hE : ∀ vs H Q E, sp vs H Q E → sp vs H Q fun _ _ _ => False) : FnG B.P B.w B.K B.mg B.base CX0 k f fd ps sp :=
  ⟨F.len, fun A outer s H args us vs Q E hr he hb hv hs => codeAny_mono (F.run A outer s H args us vs Q (fun _ _ _ => False) hr he hb hv (hE _ _ _ _ hs)) fun r s' h => by
    cases r with
    | error e => exact (cx_never h).elim
    | ok fl => cases fl <;> exact h⟩
theorem law_ok {B : Bs} {n k : Nat} {f : Addr} {fd : FuncData} {ps : List Str} (F : FnG B.P B.w B.K B.mg B.base (L2.CX B.P B.w) k f fd ps (spOf B (lawSp n))) : FnG B.P B.w B.K B.mg B.base CX0 k f fd ps (lawSpV B.K n) := by
  refine fn_calm (F.imp fun vs H Q E ⟨a, ns, hv, hs, hl, hq⟩ => ?_) fun vs H Q E h => h
  · subst hv
    refine ⟨fun _ => False, [], [], [.d (.scr ns)], fun x _ => x = .d (.bl true), noX, ?_, ⟨.ref a, [], rfl, ⟨a, rfl, ?_⟩, rfl⟩, ⟨ns, rfl, rfl, hl, rfl⟩, ?_, ?_⟩
    · exact ⟨rfl, List.nodup_nil, fun a h => (by cases h), fun a h => h.elim, fun a h => (by cases h), fun i mo a e1 _ => (by simp at e1)⟩
    · rcases hs with h | h
      · exact .inl ⟨h, fun l => by
          rcases l with l | ⟨i, mo, e1, _⟩
          · exact l
          · simp at e1⟩
      · exact .inr h
    · intro α' M' x v H' _ _ r e
      subst e
      cases r
      exact hq H'
    · intro α' M' H' cls d c fs _ _ _ h
      exact h.elim
end DL

/-! DL27: more ways through loops: over lists of any sort, pure gatherings, while with a measure. -/
namespace DL
open PySem PySem.Spec L2 PyProof.Rows
theorem trunc_self (M : MM) : trunc M.length M = M := by unfold trunc; rw [if_pos rfl]
section
variable {α β : Type}
/-- a gathering that changes nothing -/
theorem goLc_fm {f : D → MM → (Option D → MM → Prop) → Prop} {Q : List D → MM → Prop} {M : MM} (enc : α → D) (enc' : β → D) (g : α → Option β) : ∀ (as : List α) (acc : List β), (∀ a ∈ as, ∀ K : Option D → MM → Prop, K ((g a).map enc') M → f (enc a) M K) →
    Q ((acc ++ as.filterMap g).map enc') M → goLc f (as.map enc) (acc.map enc') M Q
  | [], acc, _, hq => by
    rw [List.filterMap_nil, List.append_nil] at hq
    rw [List.map_nil, goLc_nil]
    exact hq
  | a :: as, acc, h, hq => by
    rw [List.map_cons, goLc_cons]
    refine h a List.mem_cons_self _ ?_
    rw [trunc_self]
    have ih := goLc_fm (f := f) (Q := Q) (M := M) enc enc' g as
    cases e : g a with
    | none =>
      rw [List.filterMap_cons_none e] at hq
      exact ih acc (fun y hy => h y (List.mem_cons_of_mem _ hy)) hq
    | some b =>
      rw [List.filterMap_cons_some e] at hq
      have := ih (acc ++ [b]) (fun y hy => h y (List.mem_cons_of_mem _ hy)) (by rw [List.append_assoc]; exact hq)
      rw [List.map_append] at this
      exact this
theorem goLc_fm0 {f : D → MM → (Option D → MM → Prop) → Prop} {Q : List D → MM → Prop} {M : MM} (enc : α → D) (enc' : β → D) (g : α → Option β) (as : List α) (h : ∀ a ∈ as, ∀ K : Option D → MM → Prop, K ((g a).map enc') M → f (enc a) M K)
    (hq : Q ((as.filterMap g).map enc') M) : goLc f (as.map enc) [] M Q := goLc_fm enc enc' g as [] h (by rw [List.nil_append]; exact hq)
theorem filterMap_some (g : α → β) : ∀ as : List α, as.filterMap (fun a => some (g a)) = as.map g
  | [] => rfl
  | a :: as => by rw [List.filterMap_cons, List.map_cons, filterMap_some g as]
theorem goLc_map0 {f : D → MM → (Option D → MM → Prop) → Prop} {Q : List D → MM → Prop} {M : MM} (enc : α → D) (enc' : β → D) (g : α → β) (as : List α) (h : ∀ a ∈ as, ∀ K : Option D → MM → Prop, K (some (enc' (g a))) M → f (enc a) M K)
    (hq : Q ((as.map g).map enc') M) : goLc f (as.map enc) [] M Q := goLc_fm0 enc enc' (fun a => some (g a)) as h (by rw [filterMap_some]; exact hq)
theorem goLc_as {f : D → MM → (Option D → MM → Prop) → Prop} {Q : List D → MM → Prop} (enc : α → D) (I : List α → List D → MM → Prop) (hnil : ∀ acc M, I [] acc M → Q acc M)
    (hcons : ∀ (a : α) (as : List α) (acc : List D) (M : MM) (K : List D → MM → Prop), I (a :: as) acc M → (∀ acc' M', I as acc' M' → K acc' M') → f (enc a) M fun r M' => K (match r with | some y => acc ++ [y] | none => acc) (trunc M.length M')) :
    ∀ (as : List α) (acc : List D) (M : MM), I as acc M → goLc f (as.map enc) acc M Q
  | [], acc, M, h => by rw [List.map_nil, goLc_nil]; exact hnil acc M h
  | x :: xs, acc, M, h => by
    rw [List.map_cons, goLc_cons]
    exact hcons x xs acc M (fun acc' M' => goLc f (xs.map enc) acc' M' Q) h fun acc' M' h' => goLc_as enc I hnil hcons xs acc' M' h'
theorem goFor_as {f : D → GG → MM → DE → Prop} {E : DE} (enc : α → D) (I : List α → GG → MM → Prop) (hnil : ∀ Γ M, I [] Γ M → E.nx Γ M)
    (hcons : ∀ (a : α) (as : List α) (Γ : GG) (M : MM) (E' : DE), I (a :: as) Γ M → (∀ Γ' M', I as (clipG M.length Γ') (trunc M.length M') → E'.nx Γ' M') → (∀ Γ' M', I as (clipG M.length Γ') (trunc M.length M') → E'.ct Γ' M') →
      (∀ Γ' M', E.nx (clipG M.length Γ') (trunc M.length M') → E'.bk Γ' M') → E'.rt = E.rt → E'.xr = E.xr → f (enc a) Γ M E') :
    ∀ (as : List α) (Γ : GG) (M : MM), I as Γ M → goFor f (as.map enc) Γ M E
  | [], Γ, M, h => by rw [List.map_nil, goFor_nil]; exact hnil Γ M h
  | x :: xs, Γ, M, h => by
    rw [List.map_cons, goFor_cons]
    exact hcons x xs Γ M _ h (fun Γ' M' h' => goFor_as enc I hnil hcons xs _ _ h') (fun Γ' M' h' => goFor_as enc I hnil hcons xs _ _ h') (fun Γ' M' h => h) rfl rfl
end
/-- a while, by a measure that falls -/
theorem goWhl_ind {c : GG → MM → (Bool → MM → Prop) → XR → Prop} {f : GG → MM → DE → Prop} {E : DE} (I : Nat → GG → MM → Prop)
    (h : ∀ (k : Nat) (Γ : GG) (M : MM) (E' : DE), I k Γ M → (∀ j Γ' M', j < k → I j (clipG M.length Γ') (trunc M.length M') → E'.nx Γ' M') → (∀ j Γ' M', j < k → I j (clipG M.length Γ') (trunc M.length M') → E'.ct Γ' M') →
      (∀ Γ' M', E.nx (clipG M.length Γ') (trunc M.length M') → E'.bk Γ' M') → E'.rt = E.rt → E'.xr = E.xr → c Γ M (fun b M1 => ifB b (f Γ M1 E') (E.nx Γ M1)) (E.xr Γ)) :
    ∀ (n k : Nat), k < n → ∀ (Γ : GG) (M : MM), I k Γ M → goWhl c f n Γ M E
  | 0, k, hk, _, _, _ => absurd hk (Nat.not_lt_zero _)
  | n + 1, k, hk, Γ, M, hi => by
    simp only [goWhl]
    exact h k Γ M _ hi (fun j Γ' M' hj h' => goWhl_ind I h n j (by omega) _ _ h') (fun j Γ' M' hj h' => goWhl_ind I h n j (by omega) _ _ h') (fun Γ' M' h => h) rfl rfl
theorem goWhl_ex {c : GG → MM → (Bool → MM → Prop) → XR → Prop} {f : GG → MM → DE → Prop} {E : DE} (I : Nat → GG → MM → Prop) (k : Nat) (Γ : GG) (M : MM) (hi : I k Γ M)
    (h : ∀ (k : Nat) (Γ : GG) (M : MM) (E' : DE), I k Γ M → (∀ j Γ' M', j < k → I j (clipG M.length Γ') (trunc M.length M') → E'.nx Γ' M') → (∀ j Γ' M', j < k → I j (clipG M.length Γ') (trunc M.length M') → E'.ct Γ' M') →
      (∀ Γ' M', E.nx (clipG M.length Γ') (trunc M.length M') → E'.bk Γ' M') → E'.rt = E.rt → E'.xr = E.xr → c Γ M (fun b M1 => ifB b (f Γ M1 E') (E.nx Γ M1)) (E.xr Γ)) : ∃ n, goWhl c f n Γ M E :=
  ⟨k + 1, goWhl_ind I h (k + 1) k (Nat.lt_succ_self _) Γ M hi⟩
end DL

/-! DX5: own error classes of the text: their __init__, what the written part says of them, the head's look. -/
namespace DL
open PySem PySem.Spec L2 PyProof.Rows
theorem ve_find (K : PySem.W.Frag) : PySem.W.findCls K (.type "ValueError") (.type "type") "__init__" = some (.val (.builtin "ValueError.__init__")) := by
  kernel_rfl
/-- ValueError.__init__(self, text) -/
def veRow (sc : Scope) (st : Stmt) : Bool := match st with
  | .Expr (.Call (.Attribute (.Name y _) m apos) [.Name z _, .Constant (.str s) _ _] [] cpos) _ => decide (y = "ValueError") && decide (m = "__init__") && (apos.endLine == cpos.line) && decide (z = "self") && gloB sc y && strOK s
  | _ => false
def fdRow (sc : Scope) (f : Str) (st : Stmt) : Bool := match st with
  | .Assign [.Attribute (.Name z _) g _] (.Name h _) _ => decide (z = "self") && decide (g = f) && decide (h = f) && nmB h
  | _ => false
section
variable {P : Program} {w : World} {K : PySem.W.Frag} {mg : Str → Option Value} {base : Heap} {f : Addr} {fd : FuncData} {x qual : Str} {params : Arguments} {body : List Stmt} {scope : Scope} {CX : CXT}
theorem ve_ps {X : Cx} {st : Stmt} (hv : veRow scope st = true) (hsc : X.env.scope = scope) (hN : X.N[0]? = some (Str.ofString "self")) (hvis : Vis scope "self") (hm : X.mg "ValueError" = none) (hg : ∀ y, gloB scope y = true → Gl X y) : ∃ s, PS X st (tDrop (tVeI X.K (tCons (tVar 0) (tCons (tC (.str s)) tNil)))) := by
  unfold veRow at hv
  split at hv
  · rename_i y p1 m apos z pz s j ps cpos pe
    simp only [Bool.and_eq_true, decide_eq_true_eq] at hv
    obtain ⟨⟨⟨⟨⟨rfl, rfl⟩, hl⟩, rfl⟩, hy⟩, hs⟩ := hv
    have hp : ([.Name "self" pz, .Constant (.str s) j ps] : List Expr).all plainX = true := rfl
    have h1 : PE X (.Name "self" pz) (tVar 0) := pe_var hN (by rw [hsc]; exact hvis)
    have h2 : PE X (.Constant (.str s) j ps) (tC (.str s)) := pe_str
    exact ⟨s, ps_expr (pe_veinit (pl := do return (← importBound (.Name "ValueError" p1) X.env).getD true) (hg _ hy) hm (ve_find _) (pa_cons h1 (pa_cons h2 pa_nil)) (meth_eq rfl hl hp (by show 2 < 28; omega)))⟩
  · cases hv
theorem gl_cx {X : Cx} (hsc : X.env.scope = scope) {y : Str} (h : gloB scope y = true) : Gl X y := by
  show X.env.scope.names.lookup y = _
  rw [hsc]
  unfold gloB at h
  split at h
  · assumption
  · cases h
theorem init_ok0 (F : FunD K x qual params body scope [] [] f fd) (S : FnScope ["self"] ["self"] scope) (hv : visB scope "self" = true) (hm : mg "ValueError" = none) {st : Stmt} (hb : body = [st]) (hr : veRow scope st = true) : FnOk P w K mg base CX 1 f fd ["self"] (spInit K []) := by
  subst hb
  have hvis : Vis scope "self" := by
    unfold visB at hv
    split at hv <;> rename_i e
    · exact .inl e
    · exact .inr (.inl e)
    · exact .inr (.inr e)
    · cases hv
  refine F.ok S (fun vs H Q E ⟨a, C, ys, hvs, hl, _⟩ => by rw [hvs, List.length_cons, hl]; rfl) fun cdv A outer s H vs Q E _ ⟨a, C, ys, hvs, hl, T, ea, _, h0, _⟩ => ?_
  obtain ⟨z, hps⟩ := ve_ps (X := (cxOf CX P w K mg base ["self"] qual scope f cdv A outer s H E).nox) hr rfl rfl hvis hm fun y h => gl_cx rfl h
  refine ⟨_, PSs.nox (pss_one hps), ?_⟩
  have hys : ys = [] := List.length_eq_zero_iff.mp hl
  subst hys hvs
  exact ⟨_, rfl, a, C, [.str z], rfl, by show 1 ≤ 1000; omega, T, ea, h0 rfl⟩
theorem init_ok1 {g : Str} (F : FunD K x qual params body scope [] [] f fd) (S : FnScope ["self", g] ["self", g] scope) (hv : visB scope "self" = true) (hv2 : visB scope g = true) (hm : mg "ValueError" = none) {st st2 : Stmt} (hb : body = [st, st2]) (hr : veRow scope st = true) (hr2 : fdRow scope g st2 = true) : FnOk P w K mg base CX 1 f fd ["self", g] (spInit K [g]) := by
  subst hb
  have vis : ∀ y, visB scope y = true → Vis scope y := fun y hv => by
    unfold visB at hv
    split at hv <;> rename_i e
    · exact .inl e
    · exact .inr (.inl e)
    · exact .inr (.inr e)
    · cases hv
  refine F.ok S (fun vs H Q E ⟨a, C, ys, hvs, hl, _⟩ => by rw [hvs, List.length_cons, hl]; rfl) fun cdv A outer s H vs Q E _ ⟨a, C, ys, hvs, hl, T, ea, hno, _, h0⟩ => ?_
  obtain ⟨z, hps⟩ := ve_ps (X := (cxOf CX P w K mg base ["self", g] qual scope f cdv A outer s H E).nox) hr rfl rfl (vis _ hv) hm fun y h => gl_cx rfl h
  obtain ⟨y, rfl⟩ : ∃ y, ys = [y] := by
    match ys, hl with
    | [y], _ => exact ⟨y, rfl⟩
  unfold fdRow at hr2
  split at hr2
  · rename_i z1 p1 g1 p2 h1 p3 pos
    simp only [Bool.and_eq_true, decide_eq_true_eq] at hr2
    obtain ⟨⟨⟨rfl, rfl⟩, rfl⟩, hnm⟩ := hr2
    unfold nmB at hnm
    simp only [Bool.and_eq_true, Bool.not_eq_true'] at hnm
    have q1 : PE (cxOf CX P w K mg base ["self", h1] qual scope f cdv A outer s H E).nox (.Name "self" p1) (tVar 0) := pe_var rfl (vis _ hv)
    have q2 : PE (cxOf CX P w K mg base ["self", h1] qual scope f cdv A outer s H E).nox (.Name h1 p3) (tVar 1) := pe_var rfl (vis _ hv2) hnm.1.1 hnm.1.2
    refine ⟨_, PSs.nox (pss_cons hps (pss_one (ps_ost q1 q2 (by show swapsWith _ _ _ _ = _; rfl)))), ?_⟩
    subst hvs
    refine ⟨_, rfl, a, C, [.str z], rfl, by show 1 ≤ 1000; omega, T, ea, _, rfl, _, rfl, a, C, rfl, T, hno _ List.mem_cons_self, .inl ⟨ea, fun dx hdx hne => ?_⟩⟩
    refine h0 (by simp) dx _ hdx hne upd_same ?_ fun b hba hbd => ?_
    · rw [upd_ne hne, upd_same]; rfl
    · rw [upd_ne hba, upd_ne hbd]
  · cases hr2
end
end DL

/-! DX6: what the written part says of error classes; a head's look with rows of one's own. -/
namespace DL
open PySem PySem.Spec L2 PyProof.Rows
def clsBody (s : Stmt) : List Stmt := match s with
  | .ClassDef _ _ _ b _ _ _ _ _ _ _ => b
  | _ => []
def inCls (s : Stmt) (j : Nat) : Stmt := (clsBody s).getD j (.Pass ⟨0, 0, 0, 0⟩)
/-- the class that a name names, by the written part -/
def cvOf (K : PySem.W.Frag) (T : String) (own : Bool) : Value := if own = true then .ref (He.ga K (Str.ofString T)) else .type T
def subB (K : PySem.W.Frag) (c : Str) (T : String) (own b : Bool) : Bool := decide (PySem.W.exmOne K (.ref (He.ga K c)) (cvOf K T own) = some b) && decide (PySem.W.kitOne K (.ref (He.ga K c)) (cvOf K T own) = some b)
def clsOkB (K : PySem.W.Frag) (c : Str) : Bool := oexB K (He.ga K c) && excB K (He.ga K c)
section
variable {P : Program} {w : World} {K : PySem.W.Frag} {h : Heap} {mg : Str → Option Value} {base : Heap}
abbrev B0 (P : Program) (w : World) (K : PySem.W.Frag) (mg : Str → Option Value) (base : Heap) : Bs := Bs.mk P w K mg base (fun _ => False)
theorem sub_of {c : Str} {T : String} {own b : Bool} (gc : mg c = some (.ref (He.ga K c))) (q : clsOkB K c = true) (gT : (own = true ∧ mg (Str.ofString T) = some (.ref (He.ga K (Str.ofString T)))) ∨ (own = false ∧ mg (Str.ofString T) = none ∧ bootBuiltins (Str.ofString T) = some (.type T))) (s : subB K c T own b = true) :
    SubD (B0 P w K mg base) c (Str.ofString T) b := by
  unfold subB at s
  rw [Bool.and_eq_true, decide_eq_true_eq, decide_eq_true_eq] at s
  unfold clsOkB at q
  rw [Bool.and_eq_true] at q
  refine ⟨He.ga K c, cvOf K T own, gc, excB_ok q.2, ?_, s.1, s.2⟩
  rcases gT with ⟨rfl, g⟩ | ⟨rfl, g, hb⟩
  · exact .inl ⟨_, rfl, g⟩
  · exact .inr ⟨g, T, rfl, hb⟩
theorem xc_of {c : Str} {fs ps : List Str} {fd : FuncData} {lv : Nat} (gc : mg c = some (.ref (He.ga K c))) (q : clsOkB K c = true) (m : Meth K (He.ga K c) "__init__" (He.ma K (He.ga K c) "__init__"))
    (F : FnOk P w K mg base (L2.CX P w) 1 (He.ma K (He.ga K c) "__init__") fd ps (spInit K fs)) (hb : Binds K fd ps []) (hl : 2 ≤ lv) (hno : ∀ f ∈ fs, PySem.W.findIn K (.ref (He.ga K c)) f = some none) : XcD (B0 P w K mg base) lv c fs := by
  unfold clsOkB at q
  rw [Bool.and_eq_true] at q
  exact ⟨He.ga K c, _, fd, ps, 1, gc, oexB_ok q.1, excB_ok q.2, m.at_, beq_iff_eq.mp m.fn, F, hl, hb, hno⟩
end
/-! ### the head -/
def obsE (ck : PySem.W.Frag → Bool) (fn : List He.DefD) (K : PySem.W.Frag) : He.AlD := (ck K && fn.all fun d => d.ok K, fn.map fun d => He.fnW K d.at_)
def SaysE (ck : PySem.W.Frag → Bool) (fn : List He.DefD) (K : PySem.W.Frag) : Prop := obsE ck fn K = He.valD fn
def obsEG (n : Nat) (ck : PySem.W.Frag → Bool) (fn : List He.DefD) (g : Addr → Option Obj) : He.AlD := obsE ck fn (He.frG g (He.asD g n))
def hookE (n : Nat) (ck : PySem.W.Frag → Bool) (fn : List He.DefD) : PySem.W.Hook where
  α := He.AlD
  obs := fun s => obsEG n ck fn s.heap.get?
  val := fun _ => He.valD fn
  says := fun _ h => ∃ K : PySem.W.Frag, K.In h ∧ SaysE ck fn K
  of := fun _ _ e => ⟨_, He.frG_in, e⟩
  keeps := fun _ _ _ ⟨K, hK, c⟩ k => ⟨K, PySem.W.Frag.In.keeps hK k, c⟩
theorem obsEG_eq {n : Nat} {ck : PySem.W.Frag → Bool} {fn : List He.DefD} {g : Addr → Option Obj} {s : Shared} (h : ∀ a, g a = s.heap.get? a) : obsEG n ck fn g = (hookE n ck fn).obs s := by
  have e : g = s.heap.get? := funext h
  rw [e] <;> rfl
section
variable {ck : PySem.W.Frag → Bool} {fn : List He.DefD} {K : PySem.W.Frag}
theorem SaysE.and (c : SaysE ck fn K) : ck K = true ∧ (fn.all fun d => d.ok K) = true := by
  have e : (ck K && fn.all fun d => d.ok K) = true := congrArg (fun z : He.AlD => z.1) c
  exact Bool.and_eq_true_iff.mp e
theorem SaysE.def_ (c : SaysE ck fn K) (i : Nat) {d : He.DefD} (h : fn[i]? = some d := by rfl) : ∃ fd, FunD K d.name d.qual d.params d.body d.scope (d.dvs K) (d.kws K) (He.fAd K d.at_) fd := by
  have e : fn.map (fun d => He.fnW K d.at_) = fn.map He.DefD.val := congrArg (fun z : He.AlD => z.2) c
  have e2 : (fn.map fun d => He.fnW K d.at_)[i]? = (fn.map He.DefD.val)[i]? := by rw [e]
  rw [List.getElem?_map, List.getElem?_map, h] at e2
  exact He.DefD.funD (Option.some.inj e2) (List.all_eq_true.mp c.and.2 d (List.mem_of_getElem? h))
end
/-- rows of facts, rows of classes, rows of subclasses -/
def ckOf (fa : List He.Fa) (cs : List Str) (su : List (Str × String × Bool × Bool)) (K : PySem.W.Frag) : Bool := (fa.all fun f => f.ok K) && (cs.all fun c => clsOkB K c) && su.all fun e => subB K e.1 e.2.1 e.2.2.1 e.2.2.2
theorem ck_fa {fa : List He.Fa} {cs : List Str} {su : List (Str × String × Bool × Bool)} {K : PySem.W.Frag} (h : ckOf fa cs su K = true) (i : Nat) {f : He.Fa} (e : fa[i]? = some f := by rfl) : f.ok K = true := by
  unfold ckOf at h
  rw [Bool.and_eq_true, Bool.and_eq_true] at h
  exact List.all_eq_true.mp h.1.1 f (List.mem_of_getElem? e)
theorem ck_cs {fa : List He.Fa} {cs : List Str} {su : List (Str × String × Bool × Bool)} {K : PySem.W.Frag} (h : ckOf fa cs su K = true) (i : Nat) {f : Str} (e : cs[i]? = some f := by rfl) : clsOkB K f = true := by
  unfold ckOf at h
  rw [Bool.and_eq_true, Bool.and_eq_true] at h
  exact List.all_eq_true.mp h.1.2 f (List.mem_of_getElem? e)
theorem ck_su {fa : List He.Fa} {cs : List Str} {su : List (Str × String × Bool × Bool)} {K : PySem.W.Frag} (h : ckOf fa cs su K = true) (i : Nat) {f : Str × String × Bool × Bool} (e : su[i]? = some f := by rfl) : subB K f.1 f.2.1 f.2.2.1 f.2.2.2 = true := by
  unfold ckOf at h
  rw [Bool.and_eq_true, Bool.and_eq_true] at h
  exact List.all_eq_true.mp h.2 f (List.mem_of_getElem? e)
end DL
namespace DL
theorem optK_xc {sg : Sg} {c : PySem.Str} {fs : List PySem.Str} {k : List PySem.Str → Prop} (h : sg.xc c = some fs) (hk : k fs) : optK (sg.xc c) k := optK_some h hk
theorem optK_sub {sg : Sg} {c T : PySem.Str} {b : Bool} {k : Bool → Prop} (h : sg.sub c T = some b) (hk : k b) : optK (sg.sub c T) k := optK_some h hk
theorem ok_xc {sg : Sg} {c : PySem.Str} {fs : List PySem.Str} (h : sg.xc c = some fs) : (sg.xc c).isSome = true := by rw [h]; rfl
end DL

namespace KM
variable {α : Type} [DecidableEq α]
def push (acc : List α) (x : α) : List α := if 2 ≤ acc.length ∧ acc[acc.length - 2]? = some x then acc.dropLast else acc ++ [x]
def shr (xs : List α) : List α := xs.foldl push []
def Red (xs : List α) : Prop := ∀ i x, xs[i]? = some x → xs[i + 2]? = some x → False
theorem push_last (acc : List α) (x : α) : (push acc x).getLast? = some x := by
  unfold push
  split
  · rename_i h
    obtain ⟨h1, h2⟩ := h
    rw [List.getLast?_eq_getElem?, List.length_dropLast, List.getElem?_dropLast, if_pos (by omega)]
    rw [← h2]; congr 1
  · simp
theorem push_ne (acc : List α) (x : α) : push acc x ≠ [] := by
  intro h
  have := push_last acc x
  rw [h] at this
  simp at this
theorem push_red {acc : List α} (x : α) (h : Red acc) : Red (push acc x) := by
  unfold push
  split
  · intro i y h1 h2
    rw [List.getElem?_dropLast] at h1 h2
    split at h1 <;> split at h2 <;> first | exact h i y h1 h2 | (cases h1; done) | (cases h2; done)
  · rename_i hn
    intro i y h1 h2
    by_cases c : i + 2 < acc.length
    · rw [List.getElem?_append_left (by omega)] at h1 h2
      exact h i y h1 h2
    · have hl := (List.getElem?_eq_some_iff.mp h2).1
      simp at hl
      have e : i + 2 = acc.length := by omega
      rw [List.getElem?_append_right (by omega)] at h2
      rw [List.getElem?_append_left (by omega)] at h1
      have e2 : i + 2 - acc.length = 0 := by omega
      rw [e2] at h2
      simp at h2
      subst h2
      exact hn ⟨by omega, by rw [← h1]; congr 1; omega⟩
theorem fold_red : ∀ (xs acc : List α), Red acc → Red (xs.foldl push acc)
  | [], _, h => h
  | x :: xs, _, h => fold_red xs _ (push_red x h)
theorem red_nil : Red ([] : List α) := fun _ _ h => by simp at h
theorem shr_red (xs : List α) : Red (shr xs) := fold_red xs [] red_nil
theorem fold_last : ∀ (xs acc : List α) (x : α), ((xs ++ [x]).foldl push acc).getLast? = some x := fun xs acc x => by
  rw [List.foldl_append]; exact push_last _ _
/-- out and straight back: nothing -/
theorem back {s : List α} {x y : α} (h : Red s) (hl : s.getLast? = some x) : push (push s y) x = s := by
  have hne : s ≠ [] := by intro e; rw [e] at hl; simp at hl
  have hlen : 0 < s.length := List.length_pos_iff.mpr hne
  have hlast : s[s.length - 1]? = some x := by rw [← List.getLast?_eq_getElem?]; exact hl
  have hs : s = s.dropLast ++ [x] := by
    have e := List.dropLast_concat_getLast hne
    rw [List.getLast?_eq_some_getLast hne] at hl
    rw [Option.some.inj hl] at e
    exact e.symm
  by_cases c : 2 ≤ s.length ∧ s[s.length - 2]? = some y
  · have e : push s y = s.dropLast := by unfold push; rw [if_pos c]
    rw [e]
    unfold push
    rw [if_neg]
    · exact hs.symm
    · rintro ⟨c1, c2⟩
      rw [List.length_dropLast] at c1 c2
      rw [List.getElem?_dropLast, if_pos (by omega)] at c2
      exact h (s.length - 1 - 2) x c2 (by rw [← hlast]; congr 1; omega)
  · have e : push s y = s ++ [y] := by unfold push; rw [if_neg c]
    rw [e]
    unfold push
    rw [if_pos]
    · simp
    · refine ⟨by simp; omega, ?_⟩
      rw [List.getElem?_append_left (by simp; omega)]
      rw [← hlast]; congr 1; simp
/-- what goes straight back may be taken out -/
theorem shr_out (u v : List α) (x y : α) : shr (u ++ x :: y :: x :: v) = shr (u ++ x :: v) := by
  unfold shr
  have e1 : u ++ x :: y :: x :: v = (u ++ [x]) ++ [y, x] ++ v := by simp
  have e2 : u ++ x :: v = (u ++ [x]) ++ v := by simp
  rw [e1, e2, List.foldl_append, List.foldl_append, List.foldl_append (l := u ++ [x])]
  congr 1
  exact back (fold_red _ _ red_nil) (fold_last u [] x)
theorem fold_nored : ∀ (xs acc : List α), Red (acc ++ xs) → xs.foldl push acc = acc ++ xs
  | [], acc, _ => by simp
  | x :: xs, acc, h => by
    have e : push acc x = acc ++ [x] := by
      unfold push
      rw [if_neg]
      rintro ⟨c1, c2⟩
      refine h (acc.length - 2) x ?_ ?_
      · rw [List.getElem?_append_left (by omega)]; exact c2
      · rw [List.getElem?_append_right (by omega)]
        have : acc.length - 2 + 2 - acc.length = 0 := by omega
        rw [this]; rfl
    rw [List.foldl_cons, e, fold_nored xs _ (by simpa using h)]
    simp
theorem shr_of_red {xs : List α} (h : Red xs) : shr xs = xs := by
  have := fold_nored xs [] (by simpa using h)
  simpa [shr] using this
theorem shr_shr (xs : List α) : shr (shr xs) = shr xs := shr_of_red (shr_red xs)
/-- out and back the same way -/
theorem shr_pal (u v : List α) (x : α) : ∀ (n : Nat) (r : List α), r.length = n → shr (u ++ (x :: r) ++ (x :: r).reverse.tail ++ v) = shr (u ++ x :: v)
  | 0, r, h => by
    obtain rfl := List.length_eq_zero_iff.mp h
    simp
  | n + 1, r, h => by
    obtain ⟨q, z, rfl⟩ : ∃ q z, r = q ++ [z] := ⟨r.dropLast, r.getLast (by intro e; simp [e] at h), (List.dropLast_concat_getLast _).symm⟩
    have hq : q.length = n := by simpa using h
    have ih := shr_pal u v x n q hq
    -- x :: q ends with some w
    obtain ⟨p, w, hp⟩ : ∃ p w, x :: q = p ++ [w] := ⟨(x :: q).dropLast, (x :: q).getLast (by simp), (List.dropLast_concat_getLast _).symm⟩
    have e1 : u ++ (x :: (q ++ [z])) ++ (x :: (q ++ [z])).reverse.tail ++ v = (u ++ p) ++ w :: z :: w :: (p.reverse ++ v) := by
      have : x :: (q ++ [z]) = p ++ [w, z] := by rw [← List.cons_append, hp]; simp
      rw [this]; simp
    have e2 : u ++ (x :: q) ++ (x :: q).reverse.tail ++ v = (u ++ p) ++ w :: (p.reverse ++ v) := by
      rw [hp]; simp
    rw [e1, shr_out, ← e2, ih]
theorem push_len (acc : List α) (x : α) : (push acc x).length % 2 = (acc.length + 1) % 2 := by
  unfold push
  split
  · rw [List.length_dropLast]; omega
  · simp
theorem fold_len : ∀ (xs acc : List α), (xs.foldl push acc).length % 2 = (acc.length + xs.length) % 2
  | [], acc => by simp
  | x :: xs, acc => by
    rw [List.foldl_cons, fold_len xs, List.length_cons]
    have := push_len acc x
    omega
theorem shr_par (xs : List α) : (shr xs).length % 2 = xs.length % 2 := by
  have := fold_len xs ([] : List α)
  simpa [shr] using this
theorem push_head {acc : List α} {a : α} (x : α) (h : acc.head? = some a) : (push acc x).head? = some a := by
  unfold push
  split
  · rename_i c
    match acc, h, c with
    | a' :: b :: r, h, _ => simpa using h
    | [b], h, c => simp at c
  · cases acc with
    | nil => simp at h
    | cons b r => simpa using h
theorem fold_head : ∀ (xs acc : List α) (a : α), acc.head? = some a → (xs.foldl push acc).head? = some a
  | [], _, _, h => h
  | x :: xs, _, a, h => fold_head xs _ a (push_head x h)
theorem shr_head (xs : List α) : (shr xs).head? = xs.head? := by
  cases xs with
  | nil => rfl
  | cons x xs =>
    unfold shr
    rw [List.foldl_cons]
    exact fold_head xs _ x (by simp [push])
theorem shr_last (xs : List α) : (shr xs).getLast? = xs.getLast? := by
  by_cases h : xs = []
  · subst h; rfl
  · have e := (List.dropLast_concat_getLast h).symm
    rw [e]
    unfold shr
    rw [fold_last, List.getLast?_append]
    simp
theorem push_le (acc : List α) (x : α) : (push acc x).length ≤ acc.length + 1 := by
  unfold push
  split
  · rw [List.length_dropLast]; omega
  · simp
theorem fold_le : ∀ (xs acc : List α), (xs.foldl push acc).length ≤ acc.length + xs.length
  | [], acc => by simp
  | x :: xs, acc => by
    have h1 := fold_le xs (push acc x)
    have h2 := push_le acc x
    rw [List.foldl_cons, List.length_cons]
    omega
theorem shr_le (xs : List α) : (shr xs).length ≤ xs.length := by
  have := fold_le xs ([] : List α)
  simpa [shr] using this
/-- taken out at a place -/
def outAt (xs : List α) (i : Nat) : List α := xs.take i ++ xs.drop (i + 2)
theorem shr_outAt {xs : List α} {i : Nat} {x : α} (hi : 1 ≤ i) (h1 : xs[i - 1]? = some x) (h2 : xs[i + 1]? = some x) : shr (outAt xs i) = shr xs := by
  have hl := (List.getElem?_eq_some_iff.mp h2).1
  have e1 : xs = xs.take (i - 1) ++ x :: (xs[i]'(by omega)) :: x :: xs.drop (i + 2) := by
    have a1 : xs.drop (i - 1) = x :: xs.drop i := by
      rw [List.drop_eq_getElem_cons (by omega)]
      have : xs[i - 1]'(by omega) = x := (List.getElem?_eq_some_iff.mp h1).2
      rw [this]
      congr 2; omega
    have a2 : xs.drop i = xs[i]'(by omega) :: xs.drop (i + 1) := List.drop_eq_getElem_cons (by omega)
    have a3 : xs.drop (i + 1) = x :: xs.drop (i + 2) := by
      rw [List.drop_eq_getElem_cons (by omega)]
      have : xs[i + 1]'(by omega) = x := (List.getElem?_eq_some_iff.mp h2).2
      rw [this]
    conv => lhs; rw [← List.take_append_drop (i - 1) xs, a1, a2, a3]
  have e2 : outAt xs i = xs.take (i - 1) ++ x :: xs.drop (i + 2) := by
    unfold outAt
    have : xs.take i = xs.take (i - 1) ++ [x] := by
      have : i = i - 1 + 1 := by omega
      rw [this, List.take_add_one]
      simp [h1]
    rw [this]; simp
  conv => rhs; rw [e1]
  rw [e2, shr_out]
theorem outAt_len {xs : List α} {i : Nat} (h : i + 2 ≤ xs.length) : (outAt xs i).length + 2 = xs.length := by
  unfold outAt
  simp; omega
end KM

/-! G1: what the laws draw from: the pen, a draw, a pick. -/
namespace G
open PySem PySem.Spec L2 PyProof.Rows DL
def N_law_pen : List Str := ["_law_script"]
def b_law_pen : List Sx := [
  .ret (.dsp [.inr "cells", .inr "at", .inr "left"] true [.pr (.bi .list false) [.pr (.slc false true false) [.v 0, .int 63]], .int 0, .int 0])]

def N_law_draw : List Str := ["_law_pen_here", "_law_many", "_law_at", "_law_cell", "_law_blend", "_law_digit"]
def b_law_draw_1 : List Sx := [
  .asg 4 (.pr (.bin .Mod false) [.pr (.bin .Add false) [.pr (.bin .Add false) [.pr (.bin .Add false) [.pr (.bin .Mult false) [.pr (.bin .Mod false) [.v 3, .int 4294967291], .int 69069], .pr (.bin .Mult false) [.pr (.bin .Mult false) [.int 15731, .v 2], .v 2]], .pr (.bin .Mult false) [.int 789221, .v 2]], .int 13], .int 4294967279]),
  .asg 4 (.pr (.bin .Mod false) [.pr (.bin .Add false) [.pr (.bin .Add false) [.pr (.bin .Add false) [.pr (.bin .Mult false) [.v 4, .v 4], .pr (.bin .Mult false) [.int 22695477, .v 4]], .pr (.bin .Mult false) [.int 3, .v 2]], .int 1], .int 4294967231]),
  .ret (.pr (.bin .Mod false) [.pr (.bin .FloorDiv false) [.pr (.bin .Mod false) [.pr (.bin .Mult false) [.v 4, .pr (.bin .Add false) [.v 4, .int 57885161]], .int 4294967197], .int 64], .v 1])]
def b_law_draw_2 : List Sx := (
  .ite (.and (.pr (.cmp .Lt) [.v 2, .pr (.bi .len false) [.pr .idx [.v 0, .str "cells"]]]) (.pr (.cmp .GtE) [.pr (.bi .abs false) [.v 3], .pr (.bin .Pow false) [.int 10, .int 18]])) [
    .sub (.v 0) (.str "left") (.pr (.bin .FloorDiv false) [.pr (.bin .Sub false) [.pr (.bi .abs false) [.v 3], .pr (.bin .Pow false) [.int 10, .int 18]], .v 1]),
    .ret (.pr (.bin .Mod false) [.pr (.bin .Sub false) [.pr (.bi .abs false) [.v 3], .pr (.bin .Pow false) [.int 10, .int 18]], .v 1])] [] :: b_law_draw_1)
def b_law_draw_3 : List Sx := (
  .asg 2 (.pr .idx [.v 0, .str "at"]) ::
  .sub (.v 0) (.str "at") (.pr (.bin .Add false) [.v 2, .int 1]) ::
  .asg 3 (.pr (.bin .Add false) [.pr (.bin .Mult false) [.int 23, .v 2], .int 7]) ::
  .ite (.pr (.cmp .NotEq) [.pr .idx [.v 0, .str "cells"], .pr (.lst false) []]) [
    .asg 3 (.pr .idx [.pr .idx [.v 0, .str "cells"], .pr (.bin .Mod false) [.v 2, .pr (.bi .len false) [.pr .idx [.v 0, .str "cells"]]]])] [] :: b_law_draw_2)
def b_law_draw : List Sx := (
  .ite (.pr (.cmp .Gt) [.pr .idx [.v 0, .str "left"], .int 0]) [
    .asg 5 (.pr (.bin .Mod false) [.pr .idx [.v 0, .str "left"], .v 1]),
    .sub (.v 0) (.str "left") (.pr (.bin .FloorDiv false) [.pr .idx [.v 0, .str "left"], .v 1]),
    .ret (.v 5)] [] :: b_law_draw_3)

def N_law_pick : List Str := ["_law_pen_here", "_law_some"]
def b_law_pick : List Sx := [
  .ret (.pr .idx [.v 1, .pr (.call "_law_draw" []) [.v 0, .pr (.bi .len false) [.v 1]]])]

theorem atI_n {β : Type} {xs : List β} {i : Int} {j : Nat} {x : β} (h : xs[j]? = some x) (e : i = j ∨ i = (j : Int) - xs.length) : atI xs i = some x := by
  have hj := (List.getElem?_eq_some_iff.mp h).1
  have : ixN xs.length i = some j := by
    unfold ixN
    rcases e with rfl | rfl
    · rw [if_pos (by omega), if_pos (by omega)]; rfl
    · rw [if_neg (by omega), if_pos (by omega)]
      congr 1
      omega
  unfold atI
  rw [this]
  exact h
theorem atI_map {β : Type} {f : β → D} {xs : List β} {i : Int} (h0 : 0 ≤ i) (h : i < xs.length) : ∃ x, xs[i.toNat]? = some x ∧ atI (xs.map f) i = some (f x) := by
  have e := List.getElem?_eq_getElem (l := xs) (i := i.toNat) (by omega)
  exact ⟨_, e, atI_n (j := i.toNat) (by rw [List.getElem?_map, e]; rfl) (.inl (by omega))⟩
structure Pen where
  cells : List Int
  at_ : Int
  left : Int
def penKV (p : Pen) : List (Key × D) := [(.inr "cells", .lst (p.cells.map .int)), (.inr "at", .int p.at_), (.inr "left", .int p.left)]
def penMO (p : Pen) : MO := .dct (penKV p)
theorem ne_ca : ("cells" : Str) ≠ "at" := by decide +kernel
theorem ne_cl : ("cells" : Str) ≠ "left" := by decide +kernel
theorem ne_al : ("at" : Str) ≠ "left" := by decide +kernel
theorem put_a (p : Pen) (z : Int) : putG (penKV p) (.inr "at") (.int z) = penKV { p with at_ := z } := by
  simp [putG, penKV, ne_ca, ne_al.symm]
theorem put_l (p : Pen) (z : Int) : putG (penKV p) (.inr "left") (.int z) = penKV { p with left := z } := by
  simp [putG, penKV, ne_cl, ne_al]
def Pen0 (p : Pen) : Prop := p.cells.length ≤ 63 ∧ 0 ≤ p.at_ ∧ 0 ≤ p.left
def PenNx (k : Nat) (p p' : Pen) : Prop := p'.cells = p.cells ∧ p.at_ ≤ p'.at_ ∧ p'.at_ ≤ p.at_ + k ∧ 0 ≤ p'.left
def penSp (k : List D → Nat) (pre : List D → Prop) (post : List D → D → Prop) : DL.Spec := oSp penMO (fun p ds => Pen0 p ∧ p.at_ + k ds < 2 ^ 61 ∧ pre ds) (fun p ds p' r => PenNx (k ds) p p' ∧ post ds r)
def spPen : DL.Spec := fun ws M Q _ => ∃ ns : List Int, ws = [.d (.scr ns)] ∧ M = [] ∧ Q (.ref 0) [some (penMO ⟨ns.take 63, 0, 0⟩)]
def spDraw : DL.Spec := penSp (fun _ => 1) (fun ds => ∃ m : Int, ds = [.int m] ∧ 0 < m ∧ m < 2 ^ 30) (fun ds r => ∃ m z : Int, ds = [.int m] ∧ r = .int z ∧ 0 ≤ z ∧ z < m)
theorem toPys_ints : ∀ ns : List Int, toPys (ns.map .int) = some (ns.map PyData.int)
  | [] => rfl
  | n :: ns => by simp only [List.map_cons, toPys, toPy, toPys_ints ns]
theorem toPy_ints (ns : List Int) : toPy (.lst (ns.map .int)) = some (.list (ns.map PyData.int)) := by simp only [toPy, toPys_ints]
theorem kv_lt (p : Pen) : (penKV p).length < sizeLine := by rw [sizeLine_eq]; show 3 < 16777216; omega
theorem cmul_l {i j : Int} (h : -(2 ^ 64) < i) (h2 : i < 2 ^ 64) : CMul i j := .inl ⟨h, h2⟩
theorem cmul_r {i j : Int} (h : -(2 ^ 64) < j) (h2 : j < 2 ^ 64) : CMul i j := .inr ⟨h, h2⟩
theorem set_a (p : Pen) (z : Int) : [some (penMO p)].set 0 (some (.dct (putG (penKV p) (.inr "at") (.int z)))) = [some (penMO { p with at_ := z })] := by rw [put_a]; rfl
theorem set_l (p : Pen) (z : Int) : [some (penMO p)].set 0 (some (.dct (putG (penKV p) (.inr "left") (.int z)))) = [some (penMO { p with left := z })] := by rw [put_l]; rfl
theorem fmod_r (x : Int) {n : Int} (h : 0 < n) : 0 ≤ x.fmod n ∧ x.fmod n < n := by
  rw [Int.fmod_eq_emod_of_nonneg _ (by omega)]
  exact ⟨Int.emod_nonneg _ (by omega), Int.emod_lt_of_pos _ h⟩
theorem eqv_ints (ns : List Int) : (PyData.list (ns.map PyData.int)).eqv (PyData.list []) = ns.isEmpty := by cases ns <;> rfl
theorem dep_ints0 : ∀ ns : List Int, PyData.depthAll (ns.map PyData.int) = 0
  | [] => rfl
  | n :: ns => by simp only [List.map_cons, PyData.depthAll, dep_ints0 ns, PyData.depth]; rfl
theorem dep_ints (ns : List Int) : (PyData.list (ns.map PyData.int)).depth ≤ 64 := by
  simp only [PyData.depth, dep_ints0]
  omega
theorem dep_nil : (PyData.list []).depth ≤ 64 := by decide
theorem eq_ints_nil {ns : List Int} {k : Bool → Prop} (h : k ns.isEmpty) : eqDG (.lst (ns.map .int)) (.lst []) k := eqDG_of (toPy_ints ns) rfl (dep_ints ns) dep_nil (eqv_ints ns) h
theorem t_draw_1 (sg : Sg) (p1 : Pen) (m a c : Int) (z4 z5 : Option W) (E : DE) (hm : 0 < m) (hm2 : m < 2 ^ 30) (ha : 0 ≤ a) (ha2 : a < 2 ^ 62) (hE : ∀ z : Int, 0 ≤ z → z < m → E.rt (.d (.int z)) [some (penMO p1)]) :
    wSs sg b_law_draw_1 [some (.ref 0), some (.d (.int m)), some (.d (.int a)), some (.d (.int c)), z4, z5] [some (penMO p1)] E := by
  have h0 := fmod_r c (n := 4294967291) (by omega)
  conv => whnf
  refine ⟨by omega, ?_⟩
  conv => whnf
  refine ⟨cmul_r (by omega) (by omega), ?_⟩
  conv => whnf
  refine ⟨cmul_l (by omega) (by omega), ?_⟩
  conv => whnf
  refine ⟨cmul_r (by omega) (by omega), ?_⟩
  conv => whnf
  refine ⟨cmul_l (by omega) (by omega), ?_⟩
  conv => whnf
  refine ⟨by omega, ?_⟩
  generalize hv : Int.fmod _ (4294967279 : Int) = v
  have hv2 := fmod_r (c.fmod 4294967291 * 69069 + 15731 * a * a + 789221 * a + 13) (n := 4294967279) (by omega)
  rw [hv] at hv2
  conv => whnf
  refine ⟨cmul_l (by omega) (by omega), ?_⟩
  conv => whnf
  refine ⟨cmul_l (by omega) (by omega), ?_⟩
  conv => whnf
  refine ⟨cmul_l (by omega) (by omega), ?_⟩
  conv => whnf
  refine ⟨by omega, ?_⟩
  generalize hw : Int.fmod _ (4294967231 : Int) = w
  have hw2 := fmod_r (v * v + 22695477 * v + 3 * a + 1) (n := 4294967231) (by omega)
  rw [hw] at hw2
  conv => whnf
  refine ⟨cmul_l (by omega) (by omega), ?_⟩
  conv => whnf
  refine ⟨by omega, ?_⟩
  conv => whnf
  refine ⟨⟨by omega, by omega⟩, ?_⟩
  conv => whnf
  refine ⟨by omega, ?_⟩
  have hz := fmod_r (Int.fdiv (Int.fmod (w * (w + 57885161)) 4294967197) 64) hm
  exact hE _ hz.1 hz.2
theorem t_draw_2 (sg : Sg) (p1 : Pen) (m a c : Int) (z4 z5 : Option W) (E : DE) (hm : 0 < m) (hm2 : m < 2 ^ 30) (ha : 0 ≤ a) (ha2 : a < 2 ^ 62) (hE : ∀ (l z : Int), 0 ≤ l → 0 ≤ z → z < m → E.rt (.d (.int z)) [some (penMO { p1 with left := l })]) (h0 : 0 ≤ p1.left) :
    wSs sg b_law_draw_2 [some (.ref 0), some (.d (.int m)), some (.d (.int a)), some (.d (.int c)), z4, z5] [some (penMO p1)] E := by
  have last := t_draw_1 sg p1 m a c z4 z5 E hm hm2 ha ha2 fun z h1 h2 => hE p1.left z h0 h1 h2
  conv => whnf
  refine ifB_d (fun h1 => ?_) (fun h1 => ?_)
  · conv => whnf
    refine ⟨⟨by omega, by omega, by decide⟩, ?_⟩
    conv => whnf
    refine ifB_d (fun h2 => ?_) (fun h2 => ?_)
    · conv => whnf
      refine ⟨⟨by omega, by omega, by decide⟩, ?_⟩
      conv => whnf
      refine ⟨⟨by omega, by omega⟩, ?_⟩
      conv => whnf
      refine ⟨kv_lt p1, ?_⟩
      rw [set_l]
      conv => whnf
      refine ⟨⟨by omega, by omega, by decide⟩, ?_⟩
      conv => whnf
      refine ⟨by omega, ?_⟩
      have hz := fmod_r ((if c < 0 then -c else c) - 10 ^ (18 : Int).toNat) hm
      refine hE _ _ ?_ hz.1 hz.2
      rw [Int.fdiv_eq_ediv_of_nonneg _ (by omega)]
      exact Int.ediv_nonneg (by omega) (by omega)
    · exact last
  · exact last
theorem s_draw (sg : Sg) (ws M Q R) (h : spDraw ws M Q R) : ws.length = 2 ∧ wSs sg b_law_draw (G0 N_law_draw.length ws) M (bodyE true M.length Q R) := by
  obtain ⟨p, ds, rfl, rfl, ⟨⟨h63, ha, hl⟩, hb, m, rfl, hm, hm2⟩, hq⟩ := h
  refine ⟨rfl, ?_⟩
  have fin : ∀ (p' : Pen) (z : Int), PenNx 1 p p' → 0 ≤ z → z < m → Q (.d (.int z)) [some (penMO p')] := fun p' z h1 h2 h3 => hq p' (.int z) ⟨h1, m, z, rfl, rfl, h2, h3⟩
  conv => whnf
  refine ifB_d (fun h1 => ?_) (fun h1 => ?_)
  · conv => whnf
    refine ⟨by omega, ?_⟩
    conv => whnf
    refine ⟨⟨by omega, by omega⟩, ?_⟩
    conv => whnf
    refine ⟨kv_lt p, ?_⟩
    rw [set_l]
    conv => whnf
    refine fin { p with left := p.left.fdiv m } _ ⟨rfl, Int.le_refl _, by show p.at_ ≤ p.at_ + 1; omega, ?_⟩ ?_ ?_
    · rw [Int.fdiv_eq_ediv_of_nonneg _ (by omega)]; exact Int.ediv_nonneg hl (by omega)
    · exact (fmod_r _ hm).1
    · exact (fmod_r _ hm).2
  · conv => whnf
    refine ⟨kv_lt p, ?_⟩
    rw [set_a]
    generalize hp1 : ({ p with at_ := p.at_ + 1 } : Pen) = p1
    have hc1 : p1.cells = p.cells := by rw [← hp1]
    have ha1 : p1.at_ = p.at_ + 1 := by rw [← hp1]
    have hl1 : p1.left = p.left := by rw [← hp1]
    have last : ∀ c : Int, wSs sg b_law_draw_2 [some (.ref 0), some (.d (.int m)), some (.d (.int p.at_)), some (.d (.int c)), none, none] [some (penMO p1)] (bodyE true 1 Q R) := fun c => by
      refine t_draw_2 sg p1 m p.at_ c none none _ hm hm2 ha (by omega) (fun l z h1 h2 h3 => ?_) (by omega)
      refine fin _ z ⟨hc1, ?_, ?_, h1⟩ h2 h3
      · show p.at_ ≤ p1.at_; omega
      · show p1.at_ ≤ p.at_ + 1; omega
    conv => whnf
    refine ⟨cmul_l (by omega) (by omega), ?_⟩
    conv => whnf
    refine eq_ints_nil ?_
    conv => whnf
    cases hcs : p1.cells with
    | nil => exact last _
    | cons c0 cs =>
      conv => whnf
      refine ⟨?_, ?_⟩
      · show ((p1.cells.map D.int).length : Int) ≠ 0
        rw [hcs]; simp; omega
      have hlen : 0 < p1.cells.length := by rw [hcs]; simp
      have hb := fmod_r p.at_ (n := ((p1.cells.map D.int).length : Int)) (by rw [List.length_map]; omega)
      obtain ⟨c, _, hat⟩ := atI_map (f := D.int) (xs := p1.cells) hb.1 (Int.lt_of_lt_of_le hb.2 (by rw [List.length_map]; exact Int.le_refl _))
      conv => whnf
      refine optK_some hat ?_
      exact last c
theorem use_pen {M : MM} {Q : W → MM → Prop} {R : XR} (ns : List Int) (h : Q (.ref M.length) (M ++ [some (penMO ⟨ns.take 63, 0, 0⟩)])) : lendO (some spPen) [] [.d (.scr ns)] M Q R := by
  show callI (reach M ([.scr ns].map W.d)) _ _ _ _ _
  rw [reach_d]
  refine ⟨rfl, ns, rfl, rfl, ?_⟩
  show Q (backW [] M.length (.ref 0)) (splice M [] [some (penMO ⟨ns.take 63, 0, 0⟩)])
  have e : splice M [] [some (penMO ⟨ns.take 63, 0, 0⟩)] = M ++ [some (penMO ⟨ns.take 63, 0, 0⟩)] := by
    unfold splice
    simp [DL.putAll]
    rfl
  rw [e]
  exact h
theorem s_pen (sg : Sg) (ws M Q R) (h : spPen ws M Q R) : ws.length = 1 ∧ wSs sg b_law_pen (G0 N_law_pen.length ws) M (bodyE false M.length Q R) := by
  obtain ⟨ns, rfl, rfl, hq⟩ := h
  refine ⟨rfl, ?_⟩
  conv => whnf
  refine ⟨⟨rfl, by decide, by decide +kernel⟩, ?_⟩
  conv => whnf
  refine ⟨rfl, ?_⟩
  conv => whnf
  have e : cutG (ns.map D.int) none (some 63) = (ns.take 63).map D.int := by
    unfold cutG HT.sIx
    simp
  have hq' : Q (.ref 0) [some (.dct [(.inr "cells", .lst (cutG (ns.map D.int) none (some 63))), (.inr "at", .int 0), (.inr "left", .int 0)])] := by rw [e]; exact hq
  exact hq'
theorem penMO_k (p : Pen) : (∃ kvs, penMO p = .dct kvs) ∨ (∃ xs, penMO p = .lst xs) := .inl ⟨_, rfl⟩
/-- a promise about the pen, used -/
theorem use_p {k : List D → Nat} {pre : List D → Prop} {post : List D → D → Prop} {M : MM} {Q : W → MM → Prop} {R : XR} (i : Nat) (p : Pen) (ds : List D) (hM : M[i]? = some (some (penMO p))) (h0 : Pen0 p) (hk : p.at_ + k ds < 2 ^ 61) (h : pre ds)
    (hq : ∀ p' r, Pen0 p' → p'.cells = p.cells → p.at_ ≤ p'.at_ → p'.at_ ≤ p.at_ + k ds → post ds r → Q (.d r) (M.set i (some (penMO p')))) : lendO (some (penSp k pre post)) [] (.ref i :: ds.map W.d) M Q R :=
  use_o penMO_k i p ds hM ⟨h0, hk, h⟩ fun p' r ⟨⟨h1, h2, h3, h4⟩, h5⟩ => hq p' r ⟨by rw [h1]; exact h0.1, Int.le_trans h0.2.1 h2, h4⟩ h1 h2 h3 h5
/-! a pick -/
def seqOf (d : D) (items : List D) : Prop := d = .lst items ∨ d = .tup items ∨ ∃ z : Str, d = .str z ∧ items = z.cps.toList.map fun c => .str ⟨#[c]⟩
def spPick : DL.Spec := penSp (fun _ => 1) (fun ds => ∃ (d : D) (xs : List D), ds = [d] ∧ seqOf d xs ∧ 0 < xs.length ∧ xs.length < 16777216) (fun ds r => ∃ (d : D) (xs : List D), ds = [d] ∧ seqOf d xs ∧ r ∈ xs)
theorem atI_ex {xs : List D} {i : Int} (h0 : 0 ≤ i) (h : i < xs.length) : ∃ x ∈ xs, atI xs i = some x := by
  have e := List.getElem?_eq_getElem (l := xs) (i := i.toNat) (by omega)
  exact ⟨_, List.mem_of_getElem? e, atI_n (j := i.toNat) e (.inl (by omega))⟩
theorem s_pick (sg : Sg) (hs : sg.fn "_law_draw" 2 = some spDraw) (ws M Q R) (h : spPick ws M Q R) : ws.length = 2 ∧ wSs sg b_law_pick (G0 N_law_pick.length ws) M (bodyE true M.length Q R) := by
  obtain ⟨p, ds, rfl, rfl, ⟨h0, hb, d, xs, rfl, he, hl, hl2⟩, hq⟩ := h
  refine ⟨rfl, ?_⟩
  have fin : ∀ (p' : Pen) (r : D), Pen0 p' → p'.cells = p.cells → p.at_ ≤ p'.at_ → p'.at_ ≤ p.at_ + 1 → r ∈ xs → Q (.d r) [some (penMO p')] := fun p' r h1 h2 h3 h4 h5 => hq p' r ⟨⟨h2, h3, h4, h1.2.2⟩, d, xs, rfl, he, h5⟩
  have hsz := sizeLine_eq
  rcases he with rfl | rfl | ⟨z, rfl, rfl⟩
  · conv => whnf
    refine ⟨by show (sg.fn "_law_draw" 2).isSome = true; rw [hs]; rfl, ?_⟩
    conv => whnf
    show lendO (sg.fn "_law_draw" 2) [] (.ref 0 :: [D.int xs.length].map W.d) _ _ _
    rw [hs]
    refine use_p 0 p [.int xs.length] rfl h0 hb ⟨_, rfl, by omega, by omega⟩ fun p' r h0' hc ha ha2 ⟨m, z, e1, e2, hz, hz2⟩ => ?_
    cases e1
    subst e2
    obtain ⟨x, hx, hat⟩ := atI_ex hz hz2
    conv => whnf
    refine optK_some hat ?_
    exact fin p' x h0' hc ha ha2 hx
  · conv => whnf
    refine ⟨by show (sg.fn "_law_draw" 2).isSome = true; rw [hs]; rfl, ?_⟩
    conv => whnf
    show lendO (sg.fn "_law_draw" 2) [] (.ref 0 :: [D.int xs.length].map W.d) _ _ _
    rw [hs]
    refine use_p 0 p [.int xs.length] rfl h0 hb ⟨_, rfl, by omega, by omega⟩ fun p' r h0' hc ha ha2 ⟨m, z, e1, e2, hz, hz2⟩ => ?_
    cases e1
    subst e2
    obtain ⟨x, hx, hat⟩ := atI_ex hz hz2
    conv => whnf
    refine optK_some hat ?_
    exact fin p' x h0' hc ha ha2 hx
  · have hzl : z.length = z.cps.toList.length := by show z.cps.size = _; rw [Array.length_toList]
    rw [List.length_map] at hl hl2
    conv => whnf
    refine ⟨by show (sg.fn "_law_draw" 2).isSome = true; rw [hs]; rfl, ?_⟩
    conv => whnf
    refine ⟨by omega, ?_⟩
    conv => whnf
    show lendO (sg.fn "_law_draw" 2) [] (.ref 0 :: [D.int z.length].map W.d) _ _ _
    rw [hs]
    refine use_p 0 p [.int z.length] rfl h0 hb ⟨_, rfl, by omega, by omega⟩ fun p' r h0' hc ha ha2 ⟨m, i, e1, e2, hi, hi2⟩ => ?_
    cases e1
    subst e2
    have e := List.getElem?_eq_getElem (l := z.cps.toList) (i := i.toNat) (by omega)
    have hat : atI z.cps.toList i = some _ := atI_n (j := i.toNat) e (.inl (by omega))
    conv => whnf
    refine ⟨by omega, ?_⟩
    conv => whnf
    refine optK_some hat ?_
    exact fin p' _ h0' hc ha ha2 (List.mem_map.mpr ⟨_, List.mem_of_getElem? e, rfl⟩)
theorem ok_fn {sg : Sg} {x : Str} {n : Nat} {sp : DL.Spec} (h : sg.fn x n = some sp) : (sg.fn x n).isSome = true := by rw [h]; rfl
theorem x_draw {sg : Sg} (hs : sg.fn "_law_draw" 2 = some spDraw) {M : MM} {Q : W → MM → Prop} {R : XR} (i : Nat) (p : Pen) (n : Int) (hM : M[i]? = some (some (penMO p))) (h0 : Pen0 p) (hk : p.at_ + 1 < 2 ^ 61) (h1 : 0 < n) (h2 : n < 2 ^ 30)
    (hq : ∀ p' z, Pen0 p' → p'.cells = p.cells → p.at_ ≤ p'.at_ → p'.at_ ≤ p.at_ + 1 → 0 ≤ z → z < n → Q (.d (.int z)) (M.set i (some (penMO p')))) : lendO (sg.fn "_law_draw" 2) [] [.ref i, .d (.int n)] M Q R := by
  rw [hs]
  refine use_p i p [.int n] hM h0 hk ⟨_, rfl, h1, h2⟩ fun p' r h0' hc ha ha2 ⟨m, z, e1, e2, hz, hz2⟩ => ?_
  cases e1
  subst e2
  exact hq p' z h0' hc ha ha2 hz hz2
theorem x_pick {sg : Sg} (hs : sg.fn "_law_pick" 2 = some spPick) {M : MM} {Q : W → MM → Prop} {R : XR} (i : Nat) (p : Pen) (d : D) (xs : List D) (hM : M[i]? = some (some (penMO p))) (h0 : Pen0 p) (hk : p.at_ + 1 < 2 ^ 61) (hd : seqOf d xs) (h1 : 0 < xs.length) (h2 : xs.length < 16777216)
    (hq : ∀ p' r, Pen0 p' → p'.cells = p.cells → p.at_ ≤ p'.at_ → p'.at_ ≤ p.at_ + 1 → r ∈ xs → Q (.d r) (M.set i (some (penMO p')))) : lendO (sg.fn "_law_pick" 2) [] [.ref i, .d d] M Q R := by
  rw [hs]
  refine use_p i p [d] hM h0 hk ⟨d, xs, rfl, hd, h1, h2⟩ fun p' r h0' hc ha ha2 ⟨d', ys, e1, e2, hr⟩ => ?_
  cases e1
  refine hq p' r h0' hc ha ha2 ?_
  rcases hd with rfl | rfl | ⟨z, rfl, rfl⟩ <;> rcases e2 with e2 | e2 | ⟨z', e2, e3⟩
  all_goals first | (cases e2; done) | (cases e2; exact hr) | (cases e2; subst e3; exact hr)
theorem strL_map : ∀ ss : List Str, strL (ss.map .str) = some ss
  | [] => rfl
  | s :: ss => by simp only [List.map_cons, strL, strL_map ss]
end G

/-! G2: names. -/
namespace G
open PySem PySem.Spec L2 PyProof.Rows DL
def N_law_names : List Str := ["_law_pen_here", "_law_many", "_law_letters", "_law_base", "_law_k", "_law_at", "_law_begin", "_law_short", "_law_by", "_law_found", "_law_some", "_law_tail"]
def b_law_names_1 : List Sx := [
  .frz 9,
  .ret (.v 9)]
def b_law_names_2 : List Sx := (
  .fors (.n 4) .rng [.v 1] [
    .asg 11 (.pr (.slc false true false) [.pr (.slc true false false) [.v 3, .pr (.bin .Add false) [.v 5, .int 1]], .pr .idx [.pr (.lst false) [.int 8, .pr (.bin .Mod false) [.v 4, .int 3]], .v 7]]),
    .exp (.me .append false (.v 9) [.pr (.bin .Add false) [.pr (.bin .Add false) [.pr (.slc false true false) [.v 3, .v 5], .pr .idx [.v 2, .pr (.bin .Mod false) [.pr (.bin .Add false) [.v 6, .pr (.bin .Mult false) [.v 8, .v 4]], .int 26]]], .v 11]])] :: b_law_names_1)
def b_law_names : List Sx := (
  .asg 2 (.str "abcdefghijklmnopqrstuvwxyz") ::
  .asg 3 (.me .join false (.str "") [.lc (.n 4) [4] .rng [.pr (.bin .Add false) [.int 1, .pr (.call "_law_draw" []) [.v 0, .int 8]]] [] (.pr (.call "_law_pick" []) [.v 0, .v 2]) false]) ::
  .par [5, 6, 7] [.pr (.call "_law_draw" []) [.v 0, .pr (.bi .len false) [.v 3]], .pr (.call "_law_draw" []) [.v 0, .int 26], .pr (.call "_law_draw" []) [.v 0, .int 2]] ::
  .par [8, 9] [.pr (.call "_law_pick" []) [.v 0, .pr (.lst false) [.int 1, .int 3, .int 5, .int 7, .int 9, .int 11, .int 15, .int 17, .int 19, .int 21, .int 23, .int 25]], .pr (.lst true) []] ::
  .ite (.pr (.cmp .Eq) [.v 8, .int 23]) [
    .asg 10 (.str "room door folk rope post at acts go tie cut free a ab abc b ba ro roo rooms c ca cab z"),
    .ret (.lc (.n 4) [4] .rng [.v 1] [] (.pr .idx [.me .split false (.v 10) [.str " "], .pr (.bin .Mod false) [.pr (.bin .Add false) [.v 6, .pr (.bin .Mult false) [.int 5, .v 4]], .int 23]]) false)] [] :: b_law_names_2)

/-- of small letters alone -/
def Let (s : Str) : Prop := ∀ c ∈ s.cps.toList, 97 ≤ c ∧ c ≤ 122
/-- what a room may be called here -/
def Nm (s : Str) : Prop := Let s ∧ 1 ≤ s.length ∧ s.length ≤ 8
theorem Let.app {a b : Str} (h : Let a) (g : Let b) : Let (a ++ b) := fun c hc => by
  have e : (a ++ b).cps.toList = a.cps.toList ++ b.cps.toList := by rw [Str.cps_append, Array.toList_append]
  rw [e] at hc
  exact (List.mem_append.mp hc).elim (h c) (g c)
theorem Let.cut {z : Str} (h : Let z) (lo hi : Option Int) : Let (cutS z lo hi) := fun c hc => by
  unfold cutS at hc
  exact h c (List.mem_of_mem_drop (List.mem_of_mem_take (by simpa using hc)))
theorem Let.join : ∀ {ss : List Str}, (∀ s ∈ ss, Let s) → Let (Str.join (Str.ofString "") ss)
  | [], _ => fun c hc => by simp [Str.join, Str.empty] at hc
  | [t], h => h t List.mem_cons_self
  | t :: u :: r, h => by
    have e : Let (Str.ofString "") := fun c hc => by
      rw [Str.ofString_eq_toList] at hc
      simp at hc
    exact ((h t List.mem_cons_self).app e).app (Let.join fun y hy => h y (List.mem_cons_of_mem _ hy))
theorem Let.join2 {ss : List Str} (h : ∀ s ∈ ss, Let s) : Let (Txt.join (Str.ofString "") ss) := by
  show Let (Builtin.Str.glued (Str.ofString "") ss)
  rw [StrLaws.glued_eq_join]
  exact Let.join h
theorem cutS_to_len (z : Str) {a : Int} (h : 0 ≤ a) : ((cutS z none (some a)).length : Int) ≤ a := by
  show ((cutS z none (some a)).cps.size : Int) ≤ a
  unfold cutS
  rw [List.size_toArray, List.length_take, List.length_drop, Array.length_toList]
  have e : HT.sIx z.length z.length (some a) = min a.toNat z.length := by
    show (if a < 0 then _ else _) = _
    rw [if_neg (by omega)]
  have hzl : z.cps.size = z.length := rfl
  rw [e, hzl]
  omega
theorem cutS_from_len (z : Str) {a : Int} (h : 0 ≤ a) : (cutS z (some a) none).length ≤ z.length - a.toNat := by
  show (cutS z (some a) none).cps.size ≤ z.cps.size - a.toNat
  unfold cutS
  rw [List.size_toArray, List.length_take, List.length_drop, Array.length_toList]
  have e : HT.sIx z.length 0 (some a) = min a.toNat z.length := by
    show (if a < 0 then _ else _) = _
    rw [if_neg (by omega)]
  have hzl : z.cps.size = z.length := rfl
  rw [e, hzl]
  omega
def nmB (s : Str) : Bool := s.cps.toList.all (fun c => decide (97 ≤ c ∧ c ≤ 122)) && decide (1 ≤ s.length ∧ s.length ≤ 8)
theorem nm_of {s : Str} (h : nmB s = true) : Nm s := by
  unfold nmB at h
  rw [Bool.and_eq_true, List.all_eq_true] at h
  have h2 := of_decide_eq_true h.2
  exact ⟨fun c hc => of_decide_eq_true (h.1 c hc), h2.1, h2.2⟩
theorem wnm : (Txt.split "room door folk rope post at acts go tie cut free a ab abc b ba ro roo rooms c ca cab z" " ").all nmB = true := by decide +kernel
theorem lets : ("abcdefghijklmnopqrstuvwxyz" : Str).cps.toList.all (fun c => decide (97 ≤ c ∧ c ≤ 122)) = true := by decide +kernel
def spNames : DL.Spec := penSp (fun _ => 20) (fun ds => ∃ m : Int, ds = [.int m] ∧ 0 < m ∧ m ≤ 26) (fun ds r => ∃ (m : Int) (xs : List Str), ds = [.int m] ∧ r = .lst (xs.map .str) ∧ (xs.length : Int) = m ∧ ∀ s ∈ xs, Nm s)
theorem cutS_len (z : Str) (lo hi : Option Int) : (cutS z lo hi).length ≤ z.length := by
  show (cutS z lo hi).cps.size ≤ z.cps.size
  unfold cutS
  rw [List.size_toArray, List.length_take, List.length_drop, Array.length_toList]
  omega
theorem wl : (Txt.split "room door folk rope post at acts go tie cut free a ab abc b ba ro roo rooms c ca cab z" " ").length = 23 := by decide +kernel
theorem wok : (Txt.split "room door folk rope post at acts go tie cut free a ab abc b ba ro roo rooms c ca cab z" " ").all strOK = true := by decide +kernel
theorem letl : ("abcdefghijklmnopqrstuvwxyz" : Str).cps.toList.length = 26 := by decide +kernel
theorem sum_ones : ∀ ss : List Str, (∀ s ∈ ss, s.length = 1) → (ss.map fun x => x.length).sum = ss.length
  | [], _ => rfl
  | s :: ss, h => by
    rw [List.map_cons, List.sum_cons, h s List.mem_cons_self, sum_ones ss fun t ht => h t (List.mem_cons_of_mem _ ht), List.length_cons]
    omega
theorem nm_app {ss : List Str} {t : Str} (h : ∀ s ∈ ss, Nm s) (g : Nm t) : ∀ s ∈ ss ++ [t], Nm s := fun s hs => (List.mem_append.mp hs).elim (h s) fun e => by rw [List.mem_singleton.mp e]; exact g
theorem s_names (sg : Sg) (hd : sg.fn "_law_draw" 2 = some spDraw) (hk : sg.fn "_law_pick" 2 = some spPick) (ws M Q R) (h : spNames ws M Q R) : ws.length = 2 ∧ wSs sg b_law_names (G0 N_law_names.length ws) M (bodyE true M.length Q R) := by
  obtain ⟨p, ds, rfl, rfl, ⟨h0, hb, m, rfl, hm, hm2⟩, hq⟩ := h
  refine ⟨rfl, ?_⟩
  have hb : p.at_ + 20 < 2 ^ 61 := hb
  have hsz := sizeLine_eq
  generalize hE : bodyE true _ Q R = E
  conv => whnf
  refine ⟨ok_fn hd, ?_⟩
  conv => whnf
  refine x_draw hd 0 p 8 rfl h0 (by omega) (by omega) (by omega) fun p1 z h1 hc1 ha1 hb1 hz hz2 => ?_
  conv => whnf
  refine ⟨⟨by omega, by omega⟩, ?_⟩
  conv => whnf
  refine ⟨by rw [List.length_map, List.length_range]; omega, ?_⟩
  refine goLc_ind (fun rest acc M => ∃ (p2 : Pen) (ss : List Str), M = [some (penMO p2)] ∧ Pen0 p2 ∧ p2.cells = p.cells ∧ p.at_ ≤ p2.at_ ∧ p2.at_ ≤ p1.at_ + ss.length ∧ acc = ss.map .str ∧ (∀ s ∈ ss, s.length = 1 ∧ Let s) ∧ rest.length + ss.length = (1 + z).toNat) ?_ ?_ _ _ _ ⟨p1, [], rfl, h1, hc1, ha1, by simp, rfl, by simp, by simp⟩
  · rintro acc M ⟨p2, ss, rfl, h2, hc2, ha2, hb2, rfl, hss, hl⟩
    simp only [List.length_nil, Nat.zero_add] at hl
    conv => whnf
    rw [strL_map]
    refine ⟨by rw [sum_ones ss fun s h => (hss s h).1]; show ss.length + ss.length * 0 ≤ _; omega, ?_⟩
    have hbl := PySem.W.KT.join_ones ss fun s h => (hss s h).1
    have hlet := Let.join2 fun s h => (hss s h).2
    generalize hbase : Txt.join (Str.ofString "") ss = base at hbl hlet ⊢
    conv => whnf
    refine ⟨ok_fn hd, ?_⟩
    conv => whnf
    refine ⟨by omega, ?_⟩
    conv => whnf
    refine x_draw hd 0 p2 base.length rfl h2 (by omega) (by omega) (by omega) fun p3 a h3 hc3 ha3 hb3 hat hat2 => ?_
    conv => whnf
    refine ⟨ok_fn hd, ?_⟩
    conv => whnf
    refine x_draw hd 0 p3 26 rfl h3 (by omega) (by omega) (by omega) fun p4 b h4 hc4 ha4 hb4 hbe hbe2 => ?_
    conv => whnf
    refine ⟨ok_fn hd, ?_⟩
    conv => whnf
    refine x_draw hd 0 p4 2 rfl h4 (by omega) (by omega) (by omega) fun p5 c h5 hc5 ha5 hb5 hsh hsh2 => ?_
    conv => whnf
    refine ⟨ok_fn hk, ?_⟩
    conv => whnf
    refine x_pick hk 0 p5 (.lst [.int 1, .int 3, .int 5, .int 7, .int 9, .int 11, .int 15, .int 17, .int 19, .int 21, .int 23, .int 25]) _ rfl h5 (by omega) (.inl rfl) (by decide) (by decide) fun p6 r h6 hc6 ha6 hb6 hr => ?_
    obtain ⟨y, rfl, hy, hy2⟩ : ∃ y : Int, r = .int y ∧ 0 < y ∧ y < 26 := by
      simp only [List.mem_cons, List.not_mem_nil, or_false] at hr
      rcases hr with rfl | rfl | rfl | rfl | rfl | rfl | rfl | rfl | rfl | rfl | rfl | rfl <;> exact ⟨_, rfl, by omega, by omega⟩
    have fin : ∀ ss' : List Str, (∀ s ∈ ss', Nm s) → (ss'.length : Int) = m → Q (.d (.lst (ss'.map .str))) [some (penMO p6)] := fun ss' hnm hl' => hq p6 _ ⟨⟨by rw [hc6, hc5, hc4, hc3, hc2], by omega, by show p6.at_ ≤ p.at_ + 20; omega, h6.2.2⟩, m, ss', rfl, rfl, hl', hnm⟩
    have hr : ∀ k : Nat, ((List.range k).map fun (i : Nat) => D.int (0 + (i : Int))) = ((List.range k).map fun (i : Nat) => (0 + (i : Int))).map D.int := fun k => by rw [List.map_map]; rfl
    conv => whnf
    refine ifB_d (fun hy3 => ?_) (fun hy3 => ?_)
    · conv => whnf
      refine ⟨⟨by omega, by omega⟩, ?_⟩
      conv => whnf
      refine ⟨by rw [List.length_map, List.length_range]; omega, ?_⟩
      rw [hr]
      refine goLc_ind (fun rest acc M => ∃ (js : List Int) (ss' : List Str), rest = js.map .int ∧ M = [some (penMO p6), some (.lst [])] ∧ acc = ss'.map .str ∧ js.length + ss'.length = m.toNat ∧ ∀ s ∈ ss', Nm s) ?_ ?_ _ _ _ ⟨_, [], rfl, rfl, rfl, by simp, fun s h => nomatch h⟩
      · rintro acc M ⟨js, ss', hj, rfl, rfl, hl', hnm⟩
        obtain rfl : js = [] := by simpa using hj.symm
        conv => whnf
        subst hE
        conv => whnf
        exact fin ss' hnm (by simp at hl'; omega)
      · rintro x rest acc M K ⟨js, ss', hj, rfl, rfl, hl', hnm⟩ hK
        cases js with
        | nil => cases hj
        | cons j js =>
          cases hj
          conv => whnf
          refine ⟨by decide +kernel, ?_⟩
          conv => whnf
          refine ⟨by decide +kernel, ?_⟩
          conv => whnf
          refine ⟨fun t ht => List.all_eq_true.mp wok t ht, ?_⟩
          conv => whnf
          refine ⟨cmul_l (by omega) (by omega), ?_⟩
          conv => whnf
          refine ⟨by omega, ?_⟩
          have hz3 := fmod_r (b + 5 * j) (n := 23) (by omega)
          obtain ⟨t, htm, hat3⟩ := atI_map (f := D.str) (xs := Txt.split "room door folk rope post at acts go tie cut free a ab abc b ba ro roo rooms c ca cab z" " ") hz3.1 (by rw [wl]; exact hz3.2)
          conv => whnf
          refine optK_some hat3 ?_
          conv => whnf
          refine hK _ _ ⟨js, ss' ++ [t], rfl, rfl, by rw [List.map_append]; rfl, by simp at hl' ⊢; omega, nm_app hnm (nm_of (List.all_eq_true.mp wnm t (List.mem_of_getElem? htm)))⟩
    · conv => whnf
      refine ⟨⟨by omega, by omega⟩, ?_⟩
      conv => whnf
      rw [hr]
      refine goFor_ind (fun rest Γ M => ∃ (js : List Int) (ss' : List Str) (z4 z11 : Option W), rest = js.map .int ∧ Γ = [some (.ref 0), some (.d (.int m)), some (.d (.str "abcdefghijklmnopqrstuvwxyz")), some (.d (.str base)), z4, some (.d (.int a)), some (.d (.int b)), some (.d (.int c)), some (.d (.int y)), some (.ref 1), none, z11] ∧ M = [some (penMO p6), some (.lst (ss'.map .str))] ∧ js.length + ss'.length = m.toNat ∧ ∀ s ∈ ss', Nm s) ?_ ?_ _ _ _ ⟨_, [], none, none, rfl, rfl, rfl, by simp, fun s h => nomatch h⟩
      · rintro Γ M ⟨js, ss', z4, z11, hj, rfl, rfl, hl', hnm⟩
        obtain rfl : js = [] := by simpa using hj.symm
        subst hE
        conv => whnf
        exact fin ss' hnm (by simp at hl'; omega)
      · rintro x rest Γ M E' ⟨js, ss', z4, z11, hj, rfl, rfl, hl', hnm⟩ hnx _ _ _ _
        cases js with
        | nil => cases hj
        | cons j js =>
          cases hj
          conv => whnf
          refine ⟨by omega, ?_⟩
          conv => whnf
          refine ⟨by omega, ?_⟩
          obtain ⟨u, _, hat3⟩ := atI_map (f := D.int) (xs := [8, j.fmod 3]) hsh hsh2
          conv => whnf
          refine optK_some hat3 ?_
          have c1 := cutS_len base (some (a + 1)) none
          have c2 := cutS_len (cutS base (some (a + 1)) none) none (some u)
          have c3 := cutS_len base none (some a)
          conv => whnf
          refine ⟨by omega, ?_⟩
          conv => whnf
          refine ⟨by omega, ?_⟩
          conv => whnf
          refine ⟨cmul_l (by omega) (by omega), ?_⟩
          conv => whnf
          refine ⟨by omega, ?_⟩
          have hz3 := fmod_r (b + y * j) (n := 26) (by omega)
          conv => whnf
          refine ⟨by rw [hsz]; decide +kernel, ?_⟩
          have e3 := List.getElem?_eq_getElem (l := ("abcdefghijklmnopqrstuvwxyz" : Str).cps.toList) (i := ((b + y * j).fmod 26).toNat) (by rw [letl]; omega)
          have hat4 := atI_n e3 (i := (b + y * j).fmod 26) (.inl (by omega))
          conv => whnf
          refine optK_some hat4 ?_
          have hch0 := of_decide_eq_true (List.all_eq_true.mp lets _ (List.mem_of_getElem? e3))
          generalize (("abcdefghijklmnopqrstuvwxyz" : Str).cps.toList[((b + y * j).fmod 26).toNat]'_) = ch at hch0 ⊢
          conv => whnf
          have c4 : ({ cps := #[ch] } : Str).length = 1 := rfl
          refine ⟨by omega, ?_⟩
          conv => whnf
          have c5 := Str.length_append (cutS base none (some a)) ({ cps := #[ch] } : Str)
          refine ⟨by omega, ?_⟩
          conv => whnf
          refine ⟨by rw [List.length_map]; simp at hl'; omega, ?_⟩
          have d1 := cutS_to_len base hat
          have d2 := cutS_from_len base (show 0 ≤ a + 1 by omega)
          have hnew : Nm (cutS base none (some a) ++ ({ cps := #[ch] } : Str) ++ cutS (cutS base (some (a + 1)) none) none (some u)) := by
            refine ⟨((hlet.cut _ _).app fun d hd => by rw [List.mem_singleton.mp (show d ∈ [ch] from hd)]; exact hch0).app ((hlet.cut _ _).cut _ _), ?_, ?_⟩
            · rw [Str.length_append, Str.length_append, c4]; omega
            · rw [Str.length_append, Str.length_append, c4]; omega
          refine hnx _ _ ⟨js, ss' ++ [cutS base none (some a) ++ ({ cps := #[ch] } : Str) ++ cutS (cutS base (some (a + 1)) none) none (some u)], some (.d (.int j)), some (.d (.str (cutS (cutS base (some (a + 1)) none) none (some u)))), rfl, rfl, ?_, by simp at hl' ⊢; omega, nm_app hnm hnew⟩
          rw [List.map_append]
          rfl
  · rintro x rest acc M K ⟨p2, ss, rfl, h2, hc2, ha2, hb2, rfl, hss, hl⟩ hK
    simp only [List.length_cons] at hl
    conv => whnf
    refine ⟨ok_fn hk, ?_⟩
    conv => whnf
    refine x_pick hk 0 p2 (.str "abcdefghijklmnopqrstuvwxyz") _ rfl h2 (by omega) (.inr (.inr ⟨_, rfl, rfl⟩)) (by rw [List.length_map]; decide +kernel) (by rw [List.length_map]; decide +kernel) fun p3 r h3 hc3 ha3 hb3 hr => ?_
    obtain ⟨c, hcl, rfl⟩ := List.mem_map.mp hr
    conv => whnf
    refine hK _ _ ⟨p3, ss ++ [⟨#[c]⟩], rfl, h3, hc3.trans hc2, by omega, by rw [List.length_append]; simp; omega, by rw [List.map_append]; rfl, ?_, by rw [List.length_append]; simp; omega⟩
    intro s hs
    rcases List.mem_append.mp hs with hs | hs
    · exact hss s hs
    · rw [List.mem_singleton.mp hs]; exact ⟨rfl, fun d hd => by rw [List.mem_singleton.mp (show d ∈ [c] from hd)]; exact of_decide_eq_true (List.all_eq_true.mp lets c hcl)⟩
end G

/-! G3: a yard of rooms and doors. -/
namespace G
open PySem PySem.Spec L2 PyProof.Rows DL
def N_law_near : List Str := ["_law_yard_here", "_law_room", "_law_some", "_law_pair"]
def b_law_near : List Sx := [
  .asg 2 (.lc (.n 3) [3] .seq [.pr .idx [.v 0, .str "doors"]] [.pr (.cmp .In) [.v 1, .v 3]] (.v 3) false),
  .ret (.pr (.bi .sorted false) [.lc (.n 3) [3] .seq [.v 2] [] (.pr .idx [.v 3, .pr (.bin .Sub false) [.int 1, .me .indexF false (.v 3) [.v 1]]]) false])]

def N_law_may_door : List Str := ["_law_yard_here", "_law_one", "_law_other", "_law_some", "_law_room"]
def b_law_may_door_1 : List Sx := [
  .asg 3 (.pr (.call "_law_near" []) [.v 0, .v 2]),
  .ret (.pr (.cmp .Eq) [.lc (.n 4) [4] .seq [.pr (.call "_law_near" []) [.v 0, .v 1]] [.pr (.cmp .In) [.v 4, .v 3]] (.v 4) false, .pr (.lst false) []])]
def b_law_may_door : List Sx := (
  .ite (.or (.pr (.cmp .Eq) [.v 1, .v 2]) (.pr (.cmp .In) [.v 2, .pr (.call "_law_near" []) [.v 0, .v 1]])) [
    .ret (.bl false)] [] :: b_law_may_door_1)

def N_law_with_doors : List Str := ["_law_rooms", "_law_pairs", "_law_yard_here", "_law_k", "_law_j"]
def b_law_with_doors_1 : List Sx := [
  .frz 2,
  .ret (.v 2)]
def b_law_with_doors : List Sx := (
  .asg 2 (.dsp [.inr "rooms", .inr "doors"] true [.pr (.bi .list false) [.v 0], .pr (.lst true) []]) ::
  .fors (.t [3, 4]) .seq [.v 1] [
    .ite (.pr (.call "_law_may_door" [true, false, false]) [.v 2, .pr .idx [.v 0, .v 3], .pr .idx [.v 0, .v 4]]) [
      .exp (.me .append false (.pr .idx [.v 2, .str "doors"]) [.pr (.tup true) [.pr .idx [.v 0, .v 3], .pr .idx [.v 0, .v 4]]])] []] :: b_law_with_doors_1)

def dr (e : Str × Str) : D := .tupF [.str e.1, .str e.2]
def yardD (rooms : List Str) (doors : List (Str × Str)) : D := .dct [(.inr "rooms", .lst (rooms.map .str)), (.inr "doors", .lst (doors.map dr))]
def oth (x : Str) (e : Str × Str) : Str := if e.1 = x then e.2 else e.1
def hasR (x : Str) (e : Str × Str) : Bool := (e.1 == x) || ((e.2 == x) || false)
def others (doors : List (Str × Str)) (x : Str) : List Str := (doors.filter (hasR x)).map (oth x)
theorem srt_strs (ss : List Str) : SrtOk (ss.map .str) := by
  refine ⟨fun x hx => ?_, fun d hd d' hd' => ?_, .inr fun d hd => ?_, fun x hx => ?_⟩
  · obtain ⟨s, _, rfl⟩ := List.mem_map.mp hx; rfl
  · obtain ⟨x, hx, rfl⟩ := List.mem_map.mp hd
    obtain ⟨y, hy, rfl⟩ := List.mem_map.mp hd'
    obtain ⟨s, _, rfl⟩ := List.mem_map.mp hx
    obtain ⟨t, _, rfl⟩ := List.mem_map.mp hy
    rfl
  · obtain ⟨x, hx, rfl⟩ := List.mem_map.mp hd
    obtain ⟨s, _, rfl⟩ := List.mem_map.mp hx
    exact ⟨fun h => (nomatch h), fun xs h => (nomatch h)⟩
  · obtain ⟨s, _, rfl⟩ := List.mem_map.mp hx
    exact Nat.zero_le _
def unS (d : D) : Str := match d with
  | .str s => s
  | _ => Str.empty
theorem idx_oth {x : Str} {e : Str × Str} (h : hasR x e = true) : List.idxOf? x [e.1, e.2] = some (if e.1 = x then 0 else 1) := by
  unfold hasR at h
  by_cases c : e.1 = x
  · rw [if_pos c, c]; simp [List.idxOf?_cons]
  · rw [if_neg c]
    have c2 : e.2 = x := by simpa [c] using h
    have c3 : (e.1 == x) = false := by simpa using c
    simp [List.idxOf?_cons, c3, c2]
theorem sort_strs (ss : List Str) : ∃ l : List Str, sortD (ss.map .str) = l.map .str ∧ l.Perm ss := by
  have hp : (sortD (ss.map D.str)).Perm (ss.map .str) := List.mergeSort_perm _ _
  have key : ∀ (xs : List D), (∀ x ∈ xs, ∃ s, x = .str s) → ∃ l : List Str, xs = l.map .str := by
    intro xs
    induction xs with
    | nil => exact fun _ => ⟨[], rfl⟩
    | cons x xs ih =>
      intro h
      obtain ⟨s, rfl⟩ := h _ List.mem_cons_self
      obtain ⟨l, rfl⟩ := ih fun y hy => h y (List.mem_cons_of_mem _ hy)
      exact ⟨s :: l, rfl⟩
  obtain ⟨l, hl⟩ := key (sortD (ss.map D.str)) fun x hx => by
    obtain ⟨s, _, rfl⟩ := List.mem_map.mp (hp.mem_iff.mp hx)
    exact ⟨s, rfl⟩
  refine ⟨l, hl, ?_⟩
  rw [hl] at hp
  have e : ∀ m : List Str, (m.map D.str).map unS = m := fun m => by rw [List.map_map]; exact List.map_id _
  have := hp.map unS
  rw [e, e] at this
  exact this
def spNear : DL.Spec := dSp (fun ds => ∃ (rooms : List Str) (doors : List (Str × Str)) (x : Str), ds = [yardD rooms doors, .str x] ∧ doors.length ≤ 1000)
  (fun ds r => ∃ (rooms : List Str) (doors : List (Str × Str)) (x : Str) (l : List Str), ds = [yardD rooms doors, .str x] ∧ r = .lst (l.map .str) ∧ l.Perm (others doors x))
theorem s_near (sg : Sg) (ws M Q R) (h : spNear ws M Q R) : ws.length = 2 ∧ wSs sg b_law_near (G0 N_law_near.length ws) M (bodyE true M.length Q R) := by
  obtain ⟨ds, rfl, rfl, ⟨rooms, doors, x, rfl, hl⟩, hq⟩ := h
  refine ⟨rfl, ?_⟩
  have hsz := sizeLine_eq
  generalize hE : bodyE true _ Q R = E
  conv => whnf
  refine ⟨by rw [List.length_map]; omega, ?_⟩
  refine goLc_ind (fun rest acc M => ∃ pre es : List (Str × Str), rest = es.map dr ∧ M = [] ∧ acc = pre.map dr ∧ pre ++ es.filter (hasR x) = doors.filter (hasR x)) ?_ ?_ _ _ _ ⟨[], doors, rfl, rfl, rfl, rfl⟩
  · rintro acc M ⟨pre, es, he, rfl, rfl, hp⟩
    obtain rfl : es = [] := by simpa using he.symm
    have hp : pre = doors.filter (hasR x) := by simpa using hp
    subst hp
    have hfl : (doors.filter (hasR x)).length ≤ doors.length := List.length_filter_le _ _
    conv => whnf
    refine ⟨by rw [List.length_map]; omega, ?_⟩
    refine goLc_ind (fun rest acc M => ∃ (pre : List Str) (es : List (Str × Str)), rest = es.map dr ∧ M = [] ∧ acc = pre.map .str ∧ pre ++ es.map (oth x) = others doors x ∧ ∀ e ∈ es, hasR x e = true) ?_ ?_ _ _ _ ⟨[], _, rfl, rfl, rfl, rfl, fun e he => (List.mem_filter.mp he).2⟩
    · rintro acc M ⟨pre, es, he, rfl, rfl, hp, _⟩
      obtain rfl : es = [] := by simpa using he.symm
      have hp : pre = others doors x := by simpa using hp
      subst hp
      conv => whnf
      refine ⟨srt_strs _, ?_⟩
      obtain ⟨l, hl2, hl3⟩ := sort_strs (others doors x)
      rw [hl2]
      subst hE
      conv => whnf
      exact hq _ ⟨rooms, doors, x, l, rfl, rfl, hl3⟩
    · rintro y rest acc M K ⟨pre, es, he, rfl, rfl, hp, hh⟩ hK
      cases es with
      | nil => cases he
      | cons e es =>
        cases he
        have he := hh e List.mem_cons_self
        have fin : K ((pre.map .str) ++ [.str (oth x e)]) [] := hK _ _ ⟨pre ++ [oth x e], es, rfl, rfl, by rw [List.map_append]; rfl, by rw [List.append_assoc]; exact hp, fun e' h' => hh e' (List.mem_cons_of_mem _ h')⟩
        have hi := idx_oth he
        unfold oth at fin
        conv => whnf
        show match List.idxOf? x [e.1, e.2] with | some j => _ | none => _
        rw [hi]
        by_cases c : e.1 = x
        · rw [if_pos c] at fin ⊢
          conv => whnf
          refine optK_some rfl ?_
          exact fin
        · rw [if_neg c] at fin ⊢
          conv => whnf
          refine optK_some rfl ?_
          exact fin
  · rintro y rest acc M K ⟨pre, es, he, rfl, rfl, hp⟩ hK
    cases es with
    | nil => cases he
    | cons e es =>
      cases he
      conv => whnf
      refine ifB_c (fun h => ?_) (fun h => ?_)
      · have h' : hasR x e = true := h
        conv => whnf
        refine hK _ _ ⟨pre ++ [e], es, rfl, rfl, by rw [List.map_append]; rfl, ?_⟩
        rw [List.filter_cons_of_pos h'] at hp
        rw [List.append_assoc]
        exact hp
      · have h' : hasR x e = false := h
        conv => whnf
        refine hK _ _ ⟨pre, es, rfl, rfl, rfl, ?_⟩
        rw [List.filter_cons_of_neg (by rw [h']; decide)] at hp
        exact hp
/-! may a door be -/
theorem flat_strs : ∀ l : List Str, (l.map D.str).all flatD = true
  | [] => rfl
  | _ :: l => by rw [List.map_cons, List.all_cons, flat_strs l]; rfl
theorem any_strs (l : List Str) (x : Str) : ((l.map D.str).any fun y => eqF y (.str x)) = l.any (· == x) := by
  rw [List.any_map]; rfl
theorem any_perm {l m : List Str} (h : l.Perm m) (x : Str) : l.any (· == x) = m.any (· == x) := by
  rw [Bool.eq_iff_iff, List.any_eq_true, List.any_eq_true]
  exact ⟨fun ⟨a, b, c⟩ => ⟨a, h.mem_iff.mp b, c⟩, fun ⟨a, b, c⟩ => ⟨a, h.mem_iff.mpr b, c⟩⟩
theorem x_near {sg : Sg} (hs : sg.fn "_law_near" 2 = some spNear) {M : MM} {Q : W → MM → Prop} {R : XR} (rooms : List Str) (doors : List (Str × Str)) (x : Str) (hl : doors.length ≤ 1000) (hq : ∀ l : List Str, l.Perm (others doors x) → Q (.d (.lst (l.map .str))) M) :
    lendO (sg.fn "_law_near" 2) [] [.d (yardD rooms doors), .d (.str x)] M Q R := by
  rw [hs]
  refine use_d [yardD rooms doors, .str x] ⟨rooms, doors, x, rfl, hl⟩ fun r ⟨rooms', doors', x', l, e1, e2, hp⟩ => ?_
  subst e2
  simp only [List.cons.injEq, yardD, D.dct.injEq, Prod.mk.injEq, D.lst.injEq, D.str.injEq, and_true, true_and] at e1
  obtain ⟨⟨_, e3⟩, rfl⟩ := e1
  have inj : ∀ {a b : List (Str × Str)}, a.map dr = b.map dr → a = b := by
    intro a
    induction a with
    | nil => intro b h; cases b with
      | nil => rfl
      | cons _ _ => cases h
    | cons x a ih => intro b h; cases b with
      | nil => cases h
      | cons y b =>
        simp only [List.map_cons, List.cons.injEq, dr, D.tupF.injEq, D.str.injEq, and_true] at h
        rw [ih h.2, Prod.ext h.1.1 h.1.2]
  cases inj e3
  exact hq l hp
theorem toPys_strs : ∀ ns : List Str, toPys (ns.map .str) = some (ns.map PyData.str)
  | [] => rfl
  | n :: ns => by simp only [List.map_cons, toPys, toPy, toPys_strs ns]
theorem toPy_strs (ns : List Str) : toPy (.lst (ns.map .str)) = some (.list (ns.map PyData.str)) := by simp only [toPy, toPys_strs]
theorem dep_strs0 : ∀ ns : List Str, PyData.depthAll (ns.map PyData.str) = 0
  | [] => rfl
  | n :: ns => by simp only [List.map_cons, PyData.depthAll, dep_strs0 ns, PyData.depth]; rfl
theorem dep_strs (ns : List Str) : (PyData.list (ns.map PyData.str)).depth ≤ 64 := by
  simp only [PyData.depth, dep_strs0]
  omega
theorem eqv_strs (ns : List Str) : (PyData.list (ns.map PyData.str)).eqv (PyData.list []) = ns.isEmpty := by cases ns <;> rfl
theorem eq_strs_nil {ns : List Str} {k : Bool → Prop} (h : k ns.isEmpty) : eqDG (.lst (ns.map .str)) (.lst []) k := eqDG_of (toPy_strs ns) rfl (dep_strs ns) dep_nil (eqv_strs ns) h
theorem in_strs {l : List Str} {x : Str} {k : Bool → Prop} (h : k (l.any (· == x))) : inLst (.str x) (l.map .str) k := by
  rw [inLst_def, flat_strs]
  show k _
  rw [any_strs]
  exact h
def mayB (doors : List (Str × Str)) (a b : Str) : Bool := !(decide (a = b) || (others doors a).any (· == b)) && ((others doors a).filter fun r => (others doors b).any (· == r)).isEmpty
def spMay : DL.Spec := dSp (fun ds => ∃ (rooms : List Str) (doors : List (Str × Str)) (a b : Str), ds = [yardD rooms doors, .str a, .str b] ∧ doors.length ≤ 1000)
  (fun ds r => ∃ (rooms : List Str) (doors : List (Str × Str)) (a b : Str), ds = [yardD rooms doors, .str a, .str b] ∧ r = .bl (mayB doors a b))
theorem s_may (sg : Sg) (hn : sg.fn "_law_near" 2 = some spNear) (ws M Q R) (h : spMay ws M Q R) : ws.length = 3 ∧ wSs sg b_law_may_door (G0 N_law_may_door.length ws) M (bodyE true M.length Q R) := by
  obtain ⟨ds, rfl, rfl, ⟨rooms, doors, a, b, rfl, hl⟩, hq⟩ := h
  refine ⟨rfl, ?_⟩
  have hsz := sizeLine_eq
  have fin : Q (.d (.bl (mayB doors a b))) [] := hq _ ⟨rooms, doors, a, b, rfl, rfl⟩
  generalize hE : bodyE true _ Q R = E
  conv => whnf
  refine ifB_d (fun h1 => ?_) (fun h1 => ?_)
  · conv => whnf
    subst hE
    have e : mayB doors a b = false := by unfold mayB; rw [decide_eq_true h1]; rfl
    rw [e] at fin
    exact fin
  · conv => whnf
    refine ⟨ok_fn hn, ?_⟩
    conv => whnf
    refine x_near hn rooms doors a hl fun l hp => ?_
    conv => whnf
    refine in_strs ?_
    rw [any_perm hp]
    refine ifB_c (fun h2 => ?_) (fun h2 => ?_)
    · conv => whnf
      subst hE
      have e : mayB doors a b = false := by unfold mayB; rw [h2, Bool.or_true]; rfl
      rw [e] at fin
      exact fin
    · conv => whnf
      refine ⟨ok_fn hn, ?_⟩
      conv => whnf
      refine x_near hn rooms doors b hl fun lb hpb => ?_
      conv => whnf
      refine ⟨ok_fn hn, ?_⟩
      conv => whnf
      refine x_near hn rooms doors a hl fun la hpa => ?_
      have hla : la.length ≤ 1000 := by
        rw [hpa.length_eq]
        unfold others
        rw [List.length_map]
        exact Nat.le_trans (List.length_filter_le _ _) hl
      conv => whnf
      refine ⟨by rw [List.length_map]; omega, ?_⟩
      refine goLc_ind (fun rest acc M => ∃ pre es : List Str, rest = es.map .str ∧ M = [] ∧ acc = pre.map .str ∧ pre ++ es.filter (fun r => lb.any (· == r)) = la.filter (fun r => lb.any (· == r))) ?_ ?_ _ _ _ ⟨[], la, rfl, rfl, rfl, rfl⟩
      · rintro acc M ⟨pre, es, he, rfl, rfl, hp2⟩
        obtain rfl : es = [] := by simpa using he.symm
        have hp2 : pre = la.filter (fun r => lb.any (· == r)) := by simpa using hp2
        conv => whnf
        refine eq_strs_nil ?_
        conv => whnf
        subst hE
        have e : mayB doors a b = pre.isEmpty := by
          have hf : (fun r => lb.any (· == r)) = fun r => (others doors b).any (· == r) := by funext r; exact any_perm hpb r
          have hl2 : ((others doors a).filter fun r => (others doors b).any (· == r)).isEmpty = pre.isEmpty := by
            rw [hp2, hf]
            have := (hpa.filter (fun r => (others doors b).any (· == r))).length_eq
            rw [Bool.eq_iff_iff, List.isEmpty_iff_length_eq_zero, List.isEmpty_iff_length_eq_zero, this]
          unfold mayB
          rw [h2, decide_eq_false h1, hl2]
          rfl
        rw [e] at fin
        exact fin
      · rintro y rest acc M K' ⟨pre, es, he, rfl, rfl, hp2⟩ hK
        cases es with
        | nil => cases he
        | cons e es =>
          cases he
          conv => whnf
          refine in_strs ?_
          refine ifB_c (fun h => ?_) (fun h => ?_)
          · conv => whnf
            refine hK _ _ ⟨pre ++ [e], es, rfl, rfl, by rw [List.map_append]; rfl, ?_⟩
            rw [List.filter_cons_of_pos (p := fun r => lb.any (· == r)) h] at hp2
            rw [List.append_assoc]
            exact hp2
          · conv => whnf
            refine hK _ _ ⟨pre, es, rfl, rfl, rfl, ?_⟩
            rw [List.filter_cons_of_neg (p := fun r => lb.any (· == r)) (by rw [h]; decide)] at hp2
            exact hp2
/-! doors set -/
def pq (e : Int × Int) : D := .tup [.int e.1, .int e.2]
def rm (rooms : List Str) (i : Int) : Str := rooms.getD i.toNat Str.empty
def addD (rooms : List Str) (doors : List (Str × Str)) (e : Int × Int) : List (Str × Str) := if mayB doors (rm rooms e.1) (rm rooms e.2) = true then doors ++ [(rm rooms e.1, rm rooms e.2)] else doors
def withD (rooms : List Str) (ps : List (Int × Int)) : List (Str × Str) := ps.foldl (addD rooms) []
theorem rm_at {rooms : List Str} {i : Int} (h : 0 ≤ i) (h2 : i < rooms.length) : atI (rooms.map D.str) i = some (.str (rm rooms i)) := by
  obtain ⟨x, hx, h3⟩ := atI_map (f := D.str) h h2
  rw [h3]
  unfold rm
  rw [List.getD_eq_getElem?_getD, hx]
  rfl
theorem doors_inj : ∀ {a b : List (Str × Str)}, a.map dr = b.map dr → a = b := by
  intro a
  induction a with
  | nil => intro b h; cases b with
    | nil => rfl
    | cons _ _ => cases h
  | cons x a ih => intro b h; cases b with
    | nil => cases h
    | cons y b =>
      simp only [List.map_cons, List.cons.injEq, dr, D.tupF.injEq, D.str.injEq, and_true] at h
      rw [ih h.2, Prod.ext h.1.1 h.1.2]
theorem x_may {sg : Sg} (hm : sg.fn "_law_may_door" 3 = some spMay) {M M1 : MM} {Q : W → MM → Prop} {R : XR} {b1 : Bool} {bs : List Bool} {ws : List W} (rooms : List Str) (doors : List (Str × Str)) (a b : Str) (hl : lend M (b1 :: bs) ws = some ([yardD rooms doors, .str a, .str b].map W.d, M1)) (hd : doors.length ≤ 1000)
    (hq : Q (.d (.bl (mayB doors a b))) M) : lendO (sg.fn "_law_may_door" 3) (b1 :: bs) ws M Q R := by
  rw [hm]
  refine use_l [yardD rooms doors, .str a, .str b] hl ⟨rooms, doors, _, _, rfl, hd⟩ fun r ⟨rooms', doors', a', b', e1, e2⟩ => ?_
  subst e2
  simp only [List.cons.injEq, yardD, D.dct.injEq, Prod.mk.injEq, D.lst.injEq, D.str.injEq, and_true, true_and] at e1
  obtain ⟨⟨_, e3⟩, rfl, rfl⟩ := e1
  cases doors_inj e3
  exact ⟨rfl, hq⟩
def spWith : DL.Spec := dSp (fun ds => ∃ (rooms : List Str) (ps : List (Int × Int)), ds = [.lst (rooms.map .str), .lst (ps.map pq)] ∧ rooms.length ≤ 1000 ∧ ps.length ≤ 1000 ∧ ∀ e ∈ ps, 0 ≤ e.1 ∧ e.1 < rooms.length ∧ 0 ≤ e.2 ∧ e.2 < rooms.length)
  (fun ds r => ∃ (rooms : List Str) (ps : List (Int × Int)), ds = [.lst (rooms.map .str), .lst (ps.map pq)] ∧ r = yardD rooms (withD rooms ps))
theorem s_with (sg : Sg) (hm : sg.fn "_law_may_door" 3 = some spMay) (ws M Q R) (h : spWith ws M Q R) : ws.length = 2 ∧ wSs sg b_law_with_doors (G0 N_law_with_doors.length ws) M (bodyE true M.length Q R) := by
  obtain ⟨ds, rfl, rfl, ⟨rooms, ps, rfl, hl, hl2, hin⟩, hq⟩ := h
  refine ⟨rfl, ?_⟩
  have hsz := sizeLine_eq
  have fin : Q (.d (yardD rooms (withD rooms ps))) [] := hq _ ⟨rooms, ps, rfl, rfl⟩
  generalize hE : bodyE true _ Q R = E
  conv => whnf
  refine ⟨⟨rfl, by decide, by decide +kernel⟩, ?_⟩
  conv => whnf
  refine ⟨rfl, ?_⟩
  conv => whnf
  refine goFor_ind (fun rest Γ M => ∃ (es : List (Int × Int)) (doors : List (Str × Str)) (z3 z4 : Option W), rest = es.map pq ∧ Γ = [some (.d (.lst (rooms.map .str))), some (.d (.lst (ps.map pq))), some (.ref 0), z3, z4] ∧ M = [some (.dcw [(.inr "rooms", .d (.lst (rooms.map .str))), (.inr "doors", .ref 1)]), some (.lst (doors.map dr))] ∧ es.foldl (addD rooms) doors = withD rooms ps ∧ doors.length + es.length ≤ 1000 ∧ ∀ e ∈ es, e ∈ ps) ?_ ?_ _ _ _ ⟨ps, [], none, none, rfl, rfl, rfl, rfl, by simpa using hl2, fun _ h => h⟩
  · rintro Γ M ⟨es, doors, z3, z4, he, rfl, rfl, hf, _, _⟩
    obtain rfl : es = [] := by simpa using he.symm
    obtain rfl : doors = withD rooms ps := hf
    subst hE
    conv => whnf
    exact fin
  · rintro y rest Γ M E' ⟨es, doors, z3, z4, he, rfl, rfl, hf, hlen, hmem⟩ hnx _ _ _ _
    cases es with
    | nil => cases he
    | cons e es =>
      cases he
      simp only [List.length_cons] at hlen
      obtain ⟨h1, h2, h3, h4⟩ := hin e (hmem e List.mem_cons_self)
      have a1 := rm_at h1 h2
      have a2 := rm_at h3 h4
      conv => whnf
      refine ⟨ok_fn hm, ?_⟩
      conv => whnf
      refine optK_some a1 ?_
      conv => whnf
      refine optK_some a2 ?_
      conv => whnf
      show lendO (sg.fn "_law_may_door" 3) [true, false, false] [.ref 0, .d (.str (rm rooms e.1)), .d (.str (rm rooms e.2))] _ _ _
      refine x_may hm rooms doors (rm rooms e.1) (rm rooms e.2) rfl (by omega) ?_
      conv => whnf
      refine ifB_c (fun hb => ?_) (fun hb => ?_)
      · conv => whnf
        refine optK_some a1 ?_
        conv => whnf
        refine optK_some a2 ?_
        conv => whnf
        refine ⟨by rw [List.length_map]; omega, ?_⟩
        refine hnx _ _ ⟨es, doors ++ [(rm rooms e.1, rm rooms e.2)], some (.d (.int e.1)), some (.d (.int e.2)), rfl, rfl, ?_, ?_, by simp; omega, fun e' h' => hmem e' (List.mem_cons_of_mem _ h')⟩
        · rw [List.map_append]; rfl
        · rw [← hf, List.foldl_cons]
          unfold addD
          rw [if_pos hb]
      · conv => whnf
        refine hnx _ _ ⟨es, doors, some (.d (.int e.1)), some (.d (.int e.2)), rfl, rfl, rfl, ?_, by omega, fun e' h' => hmem e' (List.mem_cons_of_mem _ h')⟩
        rw [← hf, List.foldl_cons]
        unfold addD
        rw [if_neg (by rw [hb]; decide)]
end G

/-! G6: drawn pairs, a yard. -/
namespace G
open PySem PySem.Spec L2 PyProof.Rows DL
def N_law_drawn_pairs : List Str := ["_law_pen_here", "_law_many", "_law_count", "_law_k"]
def b_law_drawn_pairs : List Sx := [
  .ret (.lc (.n 3) [3] .rng [.v 2] [] (.pr (.tup false) [.pr (.call "_law_draw" []) [.v 0, .v 1], .pr (.call "_law_draw" []) [.v 0, .v 1]]) false)]

def spPairs : DL.Spec := penSp (fun _ => 2000) (fun ds => ∃ m c : Int, ds = [.int m, .int c] ∧ 0 < m ∧ m < 2 ^ 20 ∧ 0 ≤ c ∧ c ≤ 1000)
  (fun ds r => ∃ (m c : Int) (ps : List (Int × Int)), ds = [.int m, .int c] ∧ r = .lst (ps.map pq) ∧ (ps.length : Int) = c ∧ ∀ e ∈ ps, 0 ≤ e.1 ∧ e.1 < m ∧ 0 ≤ e.2 ∧ e.2 < m)
theorem s_pairs (sg : Sg) (hd : sg.fn "_law_draw" 2 = some spDraw) (ws M Q R) (h : spPairs ws M Q R) : ws.length = 3 ∧ wSs sg b_law_drawn_pairs (G0 N_law_drawn_pairs.length ws) M (bodyE true M.length Q R) := by
  obtain ⟨p, ds, rfl, rfl, ⟨h0, hb, m, c, rfl, hm, hm2, hc, hc2⟩, hq⟩ := h
  refine ⟨rfl, ?_⟩
  have hb : p.at_ + 2000 < 2 ^ 61 := hb
  have hsz := sizeLine_eq
  generalize hE : bodyE true _ Q R = E
  conv => whnf
  refine ⟨⟨by omega, by omega⟩, ?_⟩
  conv => whnf
  refine ⟨by rw [List.length_map, List.length_range]; omega, ?_⟩
  refine goLc_ind (fun rest acc M => ∃ (p2 : Pen) (ps : List (Int × Int)), M = [some (penMO p2)] ∧ Pen0 p2 ∧ p2.cells = p.cells ∧ p.at_ ≤ p2.at_ ∧ p2.at_ ≤ p.at_ + 2 * ps.length ∧ acc = ps.map pq ∧ (∀ e ∈ ps, 0 ≤ e.1 ∧ e.1 < m ∧ 0 ≤ e.2 ∧ e.2 < m) ∧ rest.length + ps.length = c.toNat) ?_ ?_ _ _ _ ⟨p, [], rfl, h0, rfl, by omega, by simp, rfl, by simp, by simp⟩
  · rintro acc M ⟨p2, ps, rfl, h2, hc2', ha2, hb2, rfl, hps, hl⟩
    simp only [List.length_nil, Nat.zero_add] at hl
    conv => whnf
    subst hE
    conv => whnf
    exact hq p2 _ ⟨⟨hc2', ha2, by show p2.at_ ≤ p.at_ + 2000; omega, h2.2.2⟩, m, c, ps, rfl, rfl, by omega, hps⟩
  · rintro x rest acc M K ⟨p2, ps, rfl, h2, hc2', ha2, hb2, rfl, hps, hl⟩ hK
    simp only [List.length_cons] at hl
    conv => whnf
    refine ⟨ok_fn hd, ?_⟩
    conv => whnf
    refine x_draw hd 0 p2 m rfl h2 (by omega) (by omega) (by omega) fun p3 a h3 hc3 ha3 hb3 hz hz2 => ?_
    conv => whnf
    refine ⟨ok_fn hd, ?_⟩
    conv => whnf
    refine x_draw hd 0 p3 m rfl h3 (by omega) (by omega) (by omega) fun p4 b h4 hc4 ha4 hb4 hz3 hz4 => ?_
    conv => whnf
    refine hK _ _ ⟨p4, ps ++ [(a, b)], rfl, h4, by rw [hc4, hc3, hc2'], by omega, by simp; omega, by rw [List.map_append]; rfl, ?_, by simp; omega⟩
    intro e he
    rcases List.mem_append.mp he with he | he
    · exact hps e he
    · rw [List.mem_singleton.mp he]; exact ⟨hz, hz2, hz3, hz4⟩
end G

/-! G8: a yard. -/
namespace G
open PySem PySem.Spec L2 PyProof.Rows DL
def N_law_yard : List Str := ["_law_pen_here", "_law_most", "_law_many", "_law_rooms", "_law_round_pairs", "_law_way", "_law_half", "_law_some", "_law_k", "_law_bit", "_law_ones"]
@[irreducible] def b_law_yard_1 : List Sx := [
  .frz 7,
  .ret (.pr (.call "_law_with_doors" []) [.v 3, .v 7])]
@[irreducible] def b_law_yard_2 : List Sx := (
  .asg 3 (.pr (.call "_law_names" []) [.v 0, .v 2]) ::
  .asg 4 (.lc (.n 8) [8] .rng [.v 2] [] (.pr (.tup false) [.v 8, .pr (.bin .Mod false) [.pr (.bin .Add false) [.v 8, .int 1], .v 2]]) false) ::
  .par [6, 7] [.pr (.bi .max false) [.int 1, .pr (.bin .FloorDiv false) [.v 2, .int 2]], .pr (.lst true) []] ::
  .ite (.pr (.cmp .Lt) [.v 5, .int 3]) [
    .asg 7 (.pr (.bin .Add true) [.v 4, .pr (.call "_law_drawn_pairs" []) [.v 0, .v 2, .pr .idx [.pr (.lst false) [.int 0, .int 1, .int 4], .v 5]]])] [
    .ite (.pr (.cmp .Eq) [.v 5, .int 3]) [
      .asg 7 (.lc (.n 8) [8] .rng [.int 1, .v 2] [] (.pr (.tup false) [.v 8, .pr (.call "_law_draw" []) [.v 0, .v 8]]) true)] [
      .ite (.pr (.cmp .Eq) [.v 5, .int 4]) [
        .asg 7 (.lc (.n 8) [8] .rng [.pr (.bin .Sub false) [.v 2, .v 6]] [] (.pr (.tup false) [.v 8, .pr (.bin .Add false) [.v 6, .v 8]]) true),
        .asg 7 (.pr (.bin .Add true) [.v 7, .lc (.n 8) [8] .rng [.pr (.bin .Sub false) [.v 2, .int 1]] [.pr (.cmp .NotEq) [.v 8, .pr (.bin .Sub false) [.v 6, .int 1]]] (.pr (.tup false) [.v 8, .pr (.bin .Add false) [.v 8, .int 1]]) false])] [
        .ite (.pr (.cmp .Eq) [.v 5, .int 5]) [
          .fors (.n 9) .seq [.pr (.tup false) [.int 1, .int 2, .int 4]] [
            .asg 10 (.lc (.n 8) [8] .rng [.pr (.bin .Sub false) [.v 2, .v 9]] [.pr (.cmp .Eq) [.pr (.bin .Mod false) [.pr (.bin .FloorDiv false) [.v 8, .v 9], .int 2], .int 0]] (.v 8) false),
            .exp (.me .extend false (.v 7) [.lc (.n 8) [8] .seq [.v 10] [] (.pr (.tup false) [.v 8, .pr (.bin .Add false) [.v 8, .v 9]]) false])]] [
          .ite (.pr (.cmp .Eq) [.v 5, .int 6]) [
            .asg 7 (.lc (.n 8) [8] .rng [.v 6] [] (.pr (.tup false) [.v 8, .pr (.bin .Mod false) [.pr (.bin .Add false) [.v 8, .int 1], .v 6]]) true),
            .asg 7 (.pr (.bin .Add true) [.v 7, .lc (.n 8) [8] .rng [.v 6, .pr (.bin .Sub false) [.v 2, .int 1]] [] (.pr (.tup false) [.v 8, .pr (.bin .Add false) [.v 8, .int 1]]) false])] [
            .asg 7 (.pr (.call "_law_drawn_pairs" []) [.v 0, .v 2, .pr (.bi .min false) [.int 28, .pr (.bin .Mult false) [.int 2, .v 2]]])]]]]] :: b_law_yard_1)
def b_law_yard : List Sx := (
  .par [5, 2] [.pr (.call "_law_draw" []) [.v 0, .int 9], .pr (.bin .Add false) [.int 1, .pr (.call "_law_draw" []) [.v 0, .v 1]]] ::
  .asg 2 (.ife (.pr (.cmp .Gt) [.pr (.call "_law_draw" []) [.v 0, .int 4], .int 0]) (.pr (.bi .max false) [.v 2, .pr (.bi .min false) [.int 4, .v 1]]) (.v 2)) :: b_law_yard_2)

theorem x_names {sg : Sg} (hs : sg.fn "_law_names" 2 = some spNames) {M : MM} {Q : W → MM → Prop} {R : XR} (i : Nat) (p : Pen) (m : Int) (hM : M[i]? = some (some (penMO p))) (h0 : Pen0 p) (hk : p.at_ + 20 < 2 ^ 61) (h1 : 0 < m) (h2 : m ≤ 26)
    (hq : ∀ p' xs, Pen0 p' → p'.cells = p.cells → p.at_ ≤ p'.at_ → p'.at_ ≤ p.at_ + 20 → ((xs : List Str).length : Int) = m → (∀ s ∈ xs, Nm s) → Q (.d (.lst (xs.map .str))) (M.set i (some (penMO p')))) : lendO (sg.fn "_law_names" 2) [] [.ref i, .d (.int m)] M Q R := by
  rw [hs]
  refine use_p i p [.int m] hM h0 hk ⟨_, rfl, h1, h2⟩ fun p' r h0' hc ha ha2 ⟨m', xs, e1, e2, hz, hnm⟩ => ?_
  cases e1
  subst e2
  exact hq p' xs h0' hc ha ha2 hz hnm
theorem x_pairs {sg : Sg} (hs : sg.fn "_law_drawn_pairs" 3 = some spPairs) {M : MM} {Q : W → MM → Prop} {R : XR} (i : Nat) (p : Pen) (m c : Int) (hM : M[i]? = some (some (penMO p))) (h0 : Pen0 p) (hk : p.at_ + 2000 < 2 ^ 61) (h1 : 0 < m) (h2 : m < 2 ^ 20) (h3 : 0 ≤ c) (h4 : c ≤ 1000)
    (hq : ∀ p' ps, Pen0 p' → p'.cells = p.cells → p.at_ ≤ p'.at_ → p'.at_ ≤ p.at_ + 2000 → ((ps : List (Int × Int)).length : Int) = c → (∀ e ∈ ps, 0 ≤ e.1 ∧ e.1 < m ∧ 0 ≤ e.2 ∧ e.2 < m) → Q (.d (.lst (ps.map pq))) (M.set i (some (penMO p')))) :
    lendO (sg.fn "_law_drawn_pairs" 3) [] [.ref i, .d (.int m), .d (.int c)] M Q R := by
  rw [hs]
  refine use_p i p [.int m, .int c] hM h0 hk ⟨_, _, rfl, h1, h2, h3, h4⟩ fun p' r h0' hc ha ha2 ⟨m', c', ps, e1, e2, hz, hz2⟩ => ?_
  cases e1
  subst e2
  exact hq p' ps h0' hc ha ha2 hz hz2
theorem fold_len (rooms : List Str) : ∀ (ps : List (Int × Int)) (d : List (Str × Str)), (ps.foldl (addD rooms) d).length ≤ d.length + ps.length
  | [], d => by simp
  | e :: ps, d => by
    rw [List.foldl_cons]
    have h := fold_len rooms ps (addD rooms d e)
    have h2 : (addD rooms d e).length ≤ d.length + 1 := by
      unfold addD
      split
      · simp
      · omega
    rw [List.length_cons]
    omega
theorem x_with {sg : Sg} (hs : sg.fn "_law_with_doors" 2 = some spWith) {M : MM} {Q : W → MM → Prop} {R : XR} (rooms : List Str) (ps : List (Int × Int)) (hl : rooms.length ≤ 1000) (hl2 : ps.length ≤ 1000) (hin : ∀ e ∈ ps, 0 ≤ e.1 ∧ e.1 < rooms.length ∧ 0 ≤ e.2 ∧ e.2 < rooms.length)
    (hq : ∀ doors, doors.length ≤ ps.length → doors = withD rooms ps → Q (.d (yardD rooms doors)) M) : lendO (sg.fn "_law_with_doors" 2) [] [.d (.lst (rooms.map .str)), .d (.lst (ps.map pq))] M Q R := by
  rw [hs]
  refine use_d [.lst (rooms.map .str), .lst (ps.map pq)] ⟨rooms, ps, rfl, hl, hl2, hin⟩ fun r ⟨rooms', ps', e1, e2⟩ => ?_
  subst e2
  simp only [List.cons.injEq, D.lst.injEq, and_true] at e1
  have inj : rooms = rooms' := by
    have := congrArg (List.map unS) e1.1
    have e : ∀ m : List Str, (m.map D.str).map unS = m := fun m => by rw [List.map_map]; exact List.map_id _
    rw [e, e] at this
    exact this
  subst inj
  have inj2 : ps = ps' := (List.map_inj_right (f := pq) fun x y h => by
    simp only [pq, D.tup.injEq, List.cons.injEq, D.int.injEq, and_true] at h
    exact Prod.ext h.1 h.2).mp e1.2
  subst inj2
  refine hq _ ?_ rfl
  have := fold_len rooms ps []
  unfold withD
  rw [List.length_nil, Nat.zero_add] at this
  omega
/-- doors set by pairs of places -/
def Yd (rooms : List Str) (doors : List (Str × Str)) : Prop := ∃ ps : List (Int × Int), doors = withD rooms ps ∧ ∀ e ∈ ps, 0 ≤ e.1 ∧ e.1 < rooms.length ∧ 0 ≤ e.2 ∧ e.2 < rooms.length
theorem t_yard_1 (sg : Sg) (hw : sg.fn "_law_with_doors" 2 = some spWith) (E : DE) (p4 : Pen) (m k : Int) (rooms : List Str) (ps : List (Int × Int)) (z4 z5 z6 z8 z9 z10 : Option W) (M : MM) (w : W) (hM : M[0]? = some (some (penMO p4))) (hwz : w = .d (.lst (ps.map pq)) ∨ (∃ j, 0 < j ∧ w = .ref j ∧ M[j]? = some (some (.lst (ps.map pq)))))
    (hl : rooms.length ≤ 1000) (hl2 : ps.length ≤ 1000) (hin : ∀ e ∈ ps, 0 ≤ e.1 ∧ e.1 < rooms.length ∧ 0 ≤ e.2 ∧ e.2 < rooms.length) (hE : ∀ doors M', doors.length ≤ ps.length → Yd rooms doors → M'[0]? = some (some (penMO p4)) → E.rt (.d (yardD rooms doors)) M') :
    wSs sg b_law_yard_1 [some (.ref 0), some (.d (.int m)), some (.d (.int k)), some (.d (.lst (rooms.map .str))), z4, z5, z6, some w, z8, z9, z10] M E := by
  unfold b_law_yard_1
  rcases hwz with rfl | ⟨j, hj, rfl, hM2⟩
  · conv => whnf
    refine ⟨ok_fn hw, ?_⟩
    conv => whnf
    refine x_with hw rooms ps hl hl2 hin fun doors hd hyd => ?_
    conv => whnf
    exact hE doors M hd ⟨ps, hyd, hin⟩ hM
  · have hf : frzW 4 M (.ref j) = some (.lst (ps.map pq), M.set j none) := by simp only [frzW, hM2]
    conv => whnf
    show match frzW 4 M (.ref j) with | some (x, M') => _ | none => _
    rw [hf]
    conv => whnf
    refine ⟨ok_fn hw, ?_⟩
    conv => whnf
    refine x_with hw rooms ps hl hl2 hin fun doors hd hyd => ?_
    conv => whnf
    exact hE doors _ hd ⟨ps, hyd, hin⟩ (by rw [List.getElem?_set_ne (by omega)]; exact hM)
end G


/-! G9: a yard, from the names on. -/
namespace G
open PySem PySem.Spec L2 PyProof.Rows DL
def PB (n : Int) (p : Pen) : Prop := Pen0 p ∧ p.at_ ≤ n
theorem PB.mk1 {n : Int} {p p' : Pen} {k : Int} (h : PB n p) (h0 : Pen0 p') (hb : p'.at_ ≤ p.at_ + k) : PB (n + k) p' := ⟨h0, by have := h.2; omega⟩
theorem PB.le {n m : Int} {p : Pen} (h : PB n p) (hm : n ≤ m) : PB m p := ⟨h.1, Int.le_trans h.2 hm⟩
/-- promises about the pen, less told -/
def pbSp (k : List D → Nat) (pre : List D → Prop) (post : List D → D → Prop) : DL.Spec := oSp penMO (fun p ds => Pen0 p ∧ p.at_ + k ds < 2 ^ 61 ∧ pre ds) (fun p ds p' r => PB (p.at_ + k ds) p' ∧ post ds r)
theorem use_pb {k : List D → Nat} {pre : List D → Prop} {post : List D → D → Prop} {M : MM} {Q : W → MM → Prop} {R : XR} (i : Nat) (p : Pen) (N : Int) (ds : List D) (hM : M[i]? = some (some (penMO p))) (h0 : PB N p) (hk : N + k ds < 2 ^ 61) (h : pre ds)
    (hq : ∀ p' r, PB (N + k ds) p' → post ds r → Q (.d r) (M.set i (some (penMO p')))) : lendO (some (pbSp k pre post)) [] (.ref i :: ds.map W.d) M Q R :=
  use_o penMO_k i p ds hM ⟨h0.1, by have := h0.2; omega, h⟩ fun p' r ⟨h1, h5⟩ => hq p' r (h1.le (by have := h0.2; omega)) h5
theorem retQ_pen {Q : W → MM → Prop} {x : D} {M : MM} {p : Pen} (hM : M[0]? = some (some (penMO p))) (h : Q (.d x) [some (penMO p)]) : retQ true 1 Q (.d x) M := by
  show Q (.d x) (trunc 1 M)
  have e : trunc 1 M = [some (penMO p)] := by
    cases M with
    | nil => cases hM
    | cons a r =>
      cases hM
      unfold trunc
      split
      · rename_i hl
        have : r = [] := by simpa using hl
        rw [this]
      · rfl
  rw [e]
  exact h
theorem y_draw {sg : Sg} (hs : sg.fn "_law_draw" 2 = some spDraw) {M : MM} {Q : W → MM → Prop} {R : XR} (i : Nat) (p : Pen) (N n : Int) (hM : M[i]? = some (some (penMO p))) (h0 : PB N p) (hk : N + 1 < 2 ^ 61) (h1 : 0 < n) (h2 : n < 2 ^ 30)
    (hq : ∀ p' z, PB (N + 1) p' → 0 ≤ z → z < n → Q (.d (.int z)) (M.set i (some (penMO p')))) : lendO (sg.fn "_law_draw" 2) [] [.ref i, .d (.int n)] M Q R :=
  x_draw hs i p n hM h0.1 (by have := h0.2; omega) h1 h2 fun p' z h0' _ _ hb hz hz2 => hq p' z (h0.mk1 h0' hb) hz hz2
theorem y_pick {sg : Sg} (hs : sg.fn "_law_pick" 2 = some spPick) {M : MM} {Q : W → MM → Prop} {R : XR} (i : Nat) (p : Pen) (N : Int) (d : D) (xs : List D) (hM : M[i]? = some (some (penMO p))) (h0 : PB N p) (hk : N + 1 < 2 ^ 61) (hd : seqOf d xs) (h1 : 0 < xs.length) (h2 : xs.length < 16777216)
    (hq : ∀ p' r, PB (N + 1) p' → r ∈ xs → Q (.d r) (M.set i (some (penMO p')))) : lendO (sg.fn "_law_pick" 2) [] [.ref i, .d d] M Q R :=
  x_pick hs i p d xs hM h0.1 (by have := h0.2; omega) hd h1 h2 fun p' r h0' _ _ hb hr => hq p' r (h0.mk1 h0' hb) hr
theorem y_names {sg : Sg} (hs : sg.fn "_law_names" 2 = some spNames) {M : MM} {Q : W → MM → Prop} {R : XR} (i : Nat) (p : Pen) (N m : Int) (hM : M[i]? = some (some (penMO p))) (h0 : PB N p) (hk : N + 20 < 2 ^ 61) (h1 : 0 < m) (h2 : m ≤ 26)
    (hq : ∀ p' xs, PB (N + 20) p' → ((xs : List Str).length : Int) = m → (∀ s ∈ xs, Nm s) → Q (.d (.lst (xs.map .str))) (M.set i (some (penMO p')))) : lendO (sg.fn "_law_names" 2) [] [.ref i, .d (.int m)] M Q R :=
  x_names hs i p m hM h0.1 (by have := h0.2; omega) h1 h2 fun p' r h0' _ _ hb hr hnm => hq p' r (h0.mk1 h0' hb) hr hnm
def inR (m : Int) (e : Int × Int) : Prop := 0 ≤ e.1 ∧ e.1 < m ∧ 0 ≤ e.2 ∧ e.2 < m
theorem y_pairs {sg : Sg} (hs : sg.fn "_law_drawn_pairs" 3 = some spPairs) {M : MM} {Q : W → MM → Prop} {R : XR} (i : Nat) (p : Pen) (N m c : Int) (hM : M[i]? = some (some (penMO p))) (h0 : PB N p) (hk : N + 2000 < 2 ^ 61) (h1 : 0 < m) (h2 : m < 2 ^ 20) (h3 : 0 ≤ c) (h4 : c ≤ 1000)
    (hq : ∀ p' ps, PB (N + 2000) p' → ((ps : List (Int × Int)).length : Int) = c → (∀ e ∈ ps, inR m e) → Q (.d (.lst (ps.map pq))) (M.set i (some (penMO p')))) :
    lendO (sg.fn "_law_drawn_pairs" 3) [] [.ref i, .d (.int m), .d (.int c)] M Q R :=
  x_pairs hs i p m c hM h0.1 (by have := h0.2; omega) h1 h2 h3 h4 fun p' ps h0' _ _ hb hl hr => hq p' ps (h0.mk1 h0' hb) hl hr
def rg (i : Nat) : D := .int (0 + (i : Int))
theorem t_yard_2 (sg : Sg) (hn : sg.fn "_law_names" 2 = some spNames) (hp : sg.fn "_law_drawn_pairs" 3 = some spPairs) (hd : sg.fn "_law_draw" 2 = some spDraw) (hw : sg.fn "_law_with_doors" 2 = some spWith) (E : DE) (p : Pen) (N m k way : Int) (h0 : PB N p) (hb : N + 9000 < 2 ^ 61) (hk : 1 ≤ k) (hk2 : k ≤ 26) (hw1 : 0 ≤ way) (hw2 : way < 9)
    (hE : ∀ (p' : Pen) (rooms : List Str) (doors : List (Str × Str)) (M' : MM), PB (N + 9000) p' → (rooms.length : Int) = k → doors.length ≤ 1000 → Yd rooms doors → (∀ s ∈ rooms, Nm s) → M'[0]? = some (some (penMO p')) → E.rt (.d (yardD rooms doors)) M') :
    wSs sg b_law_yard_2 [some (.ref 0), some (.d (.int m)), some (.d (.int k)), none, none, some (.d (.int way)), none, none, none, none, none] [some (penMO p)] E := by
  have hsz := sizeLine_eq
  unfold b_law_yard_2
  repeat ((conv => whnf); first | (refine And.intro (by first | omega | exact ok_fn (by assumption) | exact ok_xc (by assumption) | (constructor <;> omega) | (simp only [List.length_map, List.length_range, List.length_append, List.length_cons, List.length_nil] <;> omega) | exact ⟨rfl, by decide, by decide +kernel⟩ | rfl) ?_) | (refine optK_xc (by assumption) ?_) | (refine optK_sub (by assumption) ?_))
  conv => whnf
  refine y_names hn 0 p N k rfl h0 (by omega) (by omega) (by omega) fun p1 rooms h1 hl hnm => ?_
  repeat ((conv => whnf); first | (refine And.intro (by first | omega | exact ok_fn (by assumption) | exact ok_xc (by assumption) | (constructor <;> omega) | (simp only [List.length_map, List.length_range, List.length_append, List.length_cons, List.length_nil] <;> omega) | exact ⟨rfl, by decide, by decide +kernel⟩ | rfl) ?_) | (refine optK_xc (by assumption) ?_) | (refine optK_sub (by assumption) ?_))
  conv => whnf
  refine goLc_map0 rg pq (fun i => ((0 + (i : Int)), (0 + (i : Int) + 1).fmod k)) (List.range k.toNat) (fun i _ K hK => ?_) ?_
  · repeat ((conv => whnf); first | (refine And.intro (by first | omega | exact ok_fn (by assumption) | exact ok_xc (by assumption) | (constructor <;> omega) | (simp only [List.length_map, List.length_range, List.length_append, List.length_cons, List.length_nil] <;> omega) | exact ⟨rfl, by decide, by decide +kernel⟩ | rfl) ?_) | (refine optK_xc (by assumption) ?_) | (refine optK_sub (by assumption) ?_))
    conv => whnf
    exact hK
  generalize hrp : (List.range k.toNat).map (fun (i : Nat) => (0 + (i : Int), (0 + (i : Int) + 1).fmod k)) = rp
  have hrl : rp.length = k.toNat := by rw [← hrp]; simp
  have hri : ∀ e ∈ rp, inR k e := by
    intro e he
    rw [← hrp] at he
    obtain ⟨j, hj, rfl⟩ := List.mem_map.mp he
    have := List.mem_range.mp hj
    have h2 := fmod_r (0 + (j : Int) + 1) (show 0 < k by omega)
    exact ⟨by show (0:Int) ≤ 0 + j; omega, by show (0 + j:Int) < k; omega, h2.1, h2.2⟩
  have hfin : ∀ (p2 : Pen) (ps : List (Int × Int)) (z4 z5 z6 z8 z9 z10 : Option W) (M : MM) (w : W), PB (N + 8000) p2 → M[0]? = some (some (penMO p2)) → (w = .d (.lst (ps.map pq)) ∨ (∃ j, 0 < j ∧ w = .ref j ∧ M[j]? = some (some (.lst (ps.map pq))))) → ps.length ≤ 1000 → (∀ e ∈ ps, inR k e) →
      wSs sg b_law_yard_1 [some (.ref 0), some (.d (.int m)), some (.d (.int k)), some (.d (.lst (rooms.map .str))), z4, z5, z6, some w, z8, z9, z10] M E := by
    intro p2 ps z4 z5 z6 z8 z9 z10 M w hpb hM hw' hl' hin
    refine t_yard_1 sg hw E p2 m k rooms ps z4 z5 z6 z8 z9 z10 M w hM hw' (by omega) hl' (fun e he => by have := hin e he; rw [hl]; exact this) fun doors M' hd' hyd hM' => hE p2 rooms doors M' (hpb.le (by omega)) hl (by omega) hyd hnm hM'
  clear hE
  repeat ((conv => whnf); first | (refine And.intro (by first | omega | exact ok_fn (by assumption) | exact ok_xc (by assumption) | (constructor <;> omega) | (simp only [List.length_map, List.length_range, List.length_append, List.length_cons, List.length_nil] <;> omega) | exact ⟨rfl, by decide, by decide +kernel⟩ | rfl) ?_) | (refine optK_xc (by assumption) ?_) | (refine optK_sub (by assumption) ?_))
  conv => whnf
  generalize hhf : k.fdiv 2 = hf
  have hh1 : 0 ≤ hf ∧ hf ≤ 13 ∧ 2 * hf ≤ k := by
    rw [← hhf, Int.fdiv_eq_ediv_of_nonneg _ (by omega)]
    omega
  generalize hhf2 : (if hf > 1 then hf else 1) = h
  have hh2 : 1 ≤ h ∧ h ≤ 13 ∧ h ≤ k := by rw [← hhf2]; split <;> omega
  refine ifB_d (fun c1 => ?_) (fun c1 => ?_)
  · obtain ⟨c, hc, hat⟩ := atI_map (f := D.int) (xs := [0, 1, 4]) hw1 c1
    have hc2 : 0 ≤ c ∧ c ≤ 4 := by
      have := List.mem_of_getElem? hc
      simp only [List.mem_cons, List.not_mem_nil, or_false] at this
      omega
    repeat ((conv => whnf); first | (refine And.intro (by first | omega | exact ok_fn (by assumption) | exact ok_xc (by assumption) | (constructor <;> omega) | (simp only [List.length_map, List.length_range, List.length_append, List.length_cons, List.length_nil] <;> omega) | exact ⟨rfl, by decide, by decide +kernel⟩ | rfl) ?_) | (refine optK_xc (by assumption) ?_) | (refine optK_sub (by assumption) ?_))
    conv => whnf
    refine optK_some hat ?_
    repeat ((conv => whnf); first | (refine And.intro (by first | omega | exact ok_fn (by assumption) | exact ok_xc (by assumption) | (constructor <;> omega) | (simp only [List.length_map, List.length_range, List.length_append, List.length_cons, List.length_nil] <;> omega) | exact ⟨rfl, by decide, by decide +kernel⟩ | rfl) ?_) | (refine optK_xc (by assumption) ?_) | (refine optK_sub (by assumption) ?_))
    conv => whnf
    refine y_pairs hp 0 p1 (N + 20) k c rfl h1 (by omega) (by omega) (by omega) (by omega) (by omega) fun p2 ps h2 hpl hpi => ?_
    repeat ((conv => whnf); first | (refine And.intro (by first | omega | exact ok_fn (by assumption) | exact ok_xc (by assumption) | (constructor <;> omega) | (simp only [List.length_map, List.length_range, List.length_append, List.length_cons, List.length_nil] <;> omega) | exact ⟨rfl, by decide, by decide +kernel⟩ | rfl) ?_) | (refine optK_xc (by assumption) ?_) | (refine optK_sub (by assumption) ?_))
    conv => whnf
    refine hfin p2 (rp ++ ps) _ _ _ _ _ _ _ _ (h2.le (by omega)) (by rfl) (.inr ⟨2, by omega, rfl, ?_⟩) ?_ fun e he => ?_
    · rw [List.map_append]; rfl
    · rw [List.length_append]; omega
    · rcases List.mem_append.mp he with he | he
      · exact hri e he
      · exact hpi e he
  · conv => whnf
    refine ifB_d (fun c2 => ?_) (fun c2 => ?_)
    · repeat ((conv => whnf); first | (refine And.intro (by first | omega | exact ok_fn (by assumption) | exact ok_xc (by assumption) | (constructor <;> omega) | (simp only [List.length_map, List.length_range, List.length_append, List.length_cons, List.length_nil] <;> omega) | exact ⟨rfl, by decide, by decide +kernel⟩ | rfl) ?_) | (refine optK_xc (by assumption) ?_) | (refine optK_sub (by assumption) ?_))
      conv => whnf
      refine goLc_as (fun (i : Nat) => .int (1 + (i : Int))) (fun rest acc M => ∃ (p2 : Pen) (ps : List (Int × Int)), (∀ i ∈ rest, 1 + (i : Int) < k) ∧ rest.length + ps.length ≤ 26 ∧ PB (N + 20 + ps.length) p2 ∧ acc = ps.map pq ∧ (∀ e ∈ ps, inR k e) ∧ M = [some (penMO p2), some (.lst [])]) ?_ ?_ _ _ _ ⟨p1, [], fun i hi => ?_, ?_, ?_, rfl, ?_, rfl⟩
      · rintro acc M ⟨p2, ps, _, hl1, h2, rfl, hin, rfl⟩
        repeat ((conv => whnf); first | (refine And.intro (by first | omega | exact ok_fn (by assumption) | exact ok_xc (by assumption) | (constructor <;> omega) | (simp only [List.length_map, List.length_range, List.length_append, List.length_cons, List.length_nil] <;> omega) | exact ⟨rfl, by decide, by decide +kernel⟩ | rfl) ?_) | (refine optK_xc (by assumption) ?_) | (refine optK_sub (by assumption) ?_))
        conv => whnf
        refine hfin p2 ps _ _ _ _ _ _ _ _ (h2.le (by omega)) (by rfl) (.inr ⟨2, by omega, rfl, by rfl⟩) (by omega) hin
      · rintro a as acc M K ⟨p2, ps, hr, hl1, h2, rfl, hin, rfl⟩ hK
        have ha := hr a List.mem_cons_self
        rw [List.length_cons] at hl1
        repeat ((conv => whnf); first | (refine And.intro (by first | omega | exact ok_fn (by assumption) | exact ok_xc (by assumption) | (constructor <;> omega) | (simp only [List.length_map, List.length_range, List.length_append, List.length_cons, List.length_nil] <;> omega) | exact ⟨rfl, by decide, by decide +kernel⟩ | rfl) ?_) | (refine optK_xc (by assumption) ?_) | (refine optK_sub (by assumption) ?_))
        conv => whnf
        refine y_draw hd 0 p2 (N + 20 + ps.length) (1 + (a : Int)) rfl h2 (by omega) (by omega) (by omega) fun p3 z h3 hz hz2 => ?_
        repeat ((conv => whnf); first | (refine And.intro (by first | omega | exact ok_fn (by assumption) | exact ok_xc (by assumption) | (constructor <;> omega) | (simp only [List.length_map, List.length_range, List.length_append, List.length_cons, List.length_nil] <;> omega) | exact ⟨rfl, by decide, by decide +kernel⟩ | rfl) ?_) | (refine optK_xc (by assumption) ?_) | (refine optK_sub (by assumption) ?_))
        conv => whnf
        refine hK _ _ ⟨p3, ps ++ [(1 + (a : Int), z)], fun i hi => hr i (List.mem_cons_of_mem _ hi), ?_, ?_, ?_, ?_, rfl⟩
        · rw [List.length_append, List.length_singleton]; omega
        · refine h3.le ?_
          rw [List.length_append, List.length_singleton]; omega
        · rw [List.map_append]; rfl
        · intro e he
          rcases List.mem_append.mp he with he | he
          · exact hin e he
          · rw [List.mem_singleton.mp he]; exact ⟨by show (0:Int) ≤ 1 + a; omega, ha, hz, by show z < k; omega⟩
      · have := List.mem_range.mp hi; omega
      · simp; omega
      · simpa using h1
      · intro e he; cases he
    · conv => whnf
      refine ifB_d (fun c3 => ?_) (fun c3 => ?_)
      · repeat ((conv => whnf); first | (refine And.intro (by first | omega | exact ok_fn (by assumption) | exact ok_xc (by assumption) | (constructor <;> omega) | (simp only [List.length_map, List.length_range, List.length_append, List.length_cons, List.length_nil] <;> omega) | exact ⟨rfl, by decide, by decide +kernel⟩ | rfl) ?_) | (refine optK_xc (by assumption) ?_) | (refine optK_sub (by assumption) ?_))
        conv => whnf
        refine goLc_map0 rg pq (fun i => (0 + (i : Int), h + (0 + (i : Int)))) (List.range (k - h).toNat) (fun i _ K hK => ?_) ?_
        · repeat ((conv => whnf); first | (refine And.intro (by first | omega | exact ok_fn (by assumption) | exact ok_xc (by assumption) | (constructor <;> omega) | (simp only [List.length_map, List.length_range, List.length_append, List.length_cons, List.length_nil] <;> omega) | exact ⟨rfl, by decide, by decide +kernel⟩ | rfl) ?_) | (refine optK_xc (by assumption) ?_) | (refine optK_sub (by assumption) ?_))
          conv => whnf
          exact hK
        generalize hq1 : (List.range (k - h).toNat).map (fun (i : Nat) => (0 + (i : Int), h + (0 + (i : Int)))) = q1
        have hl1 : q1.length = (k - h).toNat := by rw [← hq1]; simp
        have hi1 : ∀ e ∈ q1, inR k e := by
          intro e he
          rw [← hq1] at he
          obtain ⟨j, hj, rfl⟩ := List.mem_map.mp he
          have := List.mem_range.mp hj
          refine ⟨?_, ?_, ?_, ?_⟩ <;> dsimp only <;> omega
        repeat ((conv => whnf); first | (refine And.intro (by first | omega | exact ok_fn (by assumption) | exact ok_xc (by assumption) | (constructor <;> omega) | (simp only [List.length_map, List.length_range, List.length_append, List.length_cons, List.length_nil] <;> omega) | exact ⟨rfl, by decide, by decide +kernel⟩ | rfl) ?_) | (refine optK_xc (by assumption) ?_) | (refine optK_sub (by assumption) ?_))
        conv => whnf
        refine goLc_fm0 rg pq (fun i => if 0 + (i : Int) = h - 1 then none else some (0 + (i : Int), 0 + (i : Int) + 1)) (List.range (k - 1).toNat) (fun i _ K hK => ?_) ?_
        · repeat ((conv => whnf); first | (refine And.intro (by first | omega | exact ok_fn (by assumption) | exact ok_xc (by assumption) | (constructor <;> omega) | (simp only [List.length_map, List.length_range, List.length_append, List.length_cons, List.length_nil] <;> omega) | exact ⟨rfl, by decide, by decide +kernel⟩ | rfl) ?_) | (refine optK_xc (by assumption) ?_) | (refine optK_sub (by assumption) ?_))
          conv => whnf
          refine ifB_n (ifB_d (fun e => ?_) (fun e => ?_))
          · rw [if_pos e] at hK
            exact hK
          · rw [if_neg e] at hK
            repeat ((conv => whnf); first | (refine And.intro (by first | omega | exact ok_fn (by assumption) | exact ok_xc (by assumption) | (constructor <;> omega) | (simp only [List.length_map, List.length_range, List.length_append, List.length_cons, List.length_nil] <;> omega) | exact ⟨rfl, by decide, by decide +kernel⟩ | rfl) ?_) | (refine optK_xc (by assumption) ?_) | (refine optK_sub (by assumption) ?_))
            conv => whnf
            exact hK
        generalize hq2 : (List.range (k - 1).toNat).filterMap (fun (i : Nat) => if 0 + (i : Int) = h - 1 then none else some (0 + (i : Int), 0 + (i : Int) + 1)) = q2
        have hl2 : q2.length ≤ (k - 1).toNat := by rw [← hq2]; exact Nat.le_trans (List.length_filterMap_le _ _) (by simp)
        have hi2 : ∀ e ∈ q2, inR k e := by
          intro e he
          rw [← hq2] at he
          obtain ⟨j, hj, e2⟩ := List.mem_filterMap.mp he
          have := List.mem_range.mp hj
          split at e2
          · cases e2
          · cases e2
            refine ⟨?_, ?_, ?_, ?_⟩ <;> dsimp only <;> omega
        repeat ((conv => whnf); first | (refine And.intro (by first | omega | exact ok_fn (by assumption) | exact ok_xc (by assumption) | (constructor <;> omega) | (simp only [List.length_map, List.length_range, List.length_append, List.length_cons, List.length_nil] <;> omega) | exact ⟨rfl, by decide, by decide +kernel⟩ | rfl) ?_) | (refine optK_xc (by assumption) ?_) | (refine optK_sub (by assumption) ?_))
        conv => whnf
        refine hfin p1 (q1 ++ q2) _ _ _ _ _ _ _ _ (h1.le (by omega)) (by rfl) (.inr ⟨3, by omega, rfl, ?_⟩) ?_ fun e he => ?_
        · rw [List.map_append]; rfl
        · rw [List.length_append]; omega
        · rcases List.mem_append.mp he with he | he
          · exact hi1 e he
          · exact hi2 e he
      · conv => whnf
        refine ifB_d (fun c4 => ?_) (fun c4 => ?_)
        · refine goFor_as D.int (fun rest Γ M => ∃ (ps : List (Int × Int)) (z8 z9 z10 : Option W), Γ = [some (.ref 0), some (.d (.int m)), some (.d (.int k)), some (.d (.lst (rooms.map .str))), some (.d (.lst (rp.map pq))), some (.d (.int way)), some (.d (.int h)), some (.ref 1), z8, z9, z10] ∧ M = [some (penMO p1), some (.lst (ps.map pq))] ∧ (∀ e ∈ ps, inR k e) ∧ ps.length + 26 * rest.length ≤ 100 ∧ ∀ b ∈ rest, 0 < b ∧ b < 10) ?_ ?_ [1, 2, 4] _ _ ⟨[], none, none, none, rfl, rfl, fun e he => (nomatch he), by decide, by simp⟩
          · rintro Γ M ⟨ps, z8, z9, z10, rfl, rfl, hin, hlen, _⟩
            repeat ((conv => whnf); first | (refine And.intro (by first | omega | exact ok_fn (by assumption) | exact ok_xc (by assumption) | (constructor <;> omega) | (simp only [List.length_map, List.length_range, List.length_append, List.length_cons, List.length_nil] <;> omega) | exact ⟨rfl, by decide, by decide +kernel⟩ | rfl) ?_) | (refine optK_xc (by assumption) ?_) | (refine optK_sub (by assumption) ?_))
            conv => whnf
            refine hfin p1 ps _ _ _ _ _ _ _ _ (h1.le (by omega)) (by rfl) (.inr ⟨1, by omega, rfl, by rfl⟩) (by simp at hlen; omega) hin
          · rintro b rest Γ M E' ⟨ps, z8, z9, z10, rfl, rfl, hin, hlen, hbs⟩ hnx _ _ _ _
            obtain ⟨hb0, hb1⟩ := hbs b List.mem_cons_self
            rw [List.length_cons] at hlen
            repeat ((conv => whnf); first | (refine And.intro (by first | omega | exact ok_fn (by assumption) | exact ok_xc (by assumption) | (constructor <;> omega) | (simp only [List.length_map, List.length_range, List.length_append, List.length_cons, List.length_nil] <;> omega) | exact ⟨rfl, by decide, by decide +kernel⟩ | rfl) ?_) | (refine optK_xc (by assumption) ?_) | (refine optK_sub (by assumption) ?_))
            conv => whnf
            refine goLc_fm0 rg D.int (fun i => if ((0 + (i : Int)).fdiv b).fmod 2 = 0 then some (0 + (i : Int)) else none) (List.range (k - b).toNat) (fun i _ K hK => ?_) ?_
            · repeat ((conv => whnf); first | (refine And.intro (by first | omega | exact ok_fn (by assumption) | exact ok_xc (by assumption) | (constructor <;> omega) | (simp only [List.length_map, List.length_range, List.length_append, List.length_cons, List.length_nil] <;> omega) | exact ⟨rfl, by decide, by decide +kernel⟩ | rfl) ?_) | (refine optK_xc (by assumption) ?_) | (refine optK_sub (by assumption) ?_))
              conv => whnf
              refine ifB_d (fun e => ?_) (fun e => ?_)
              · rw [if_pos e] at hK
                exact hK
              · rw [if_neg e] at hK
                exact hK
            generalize hq1 : (List.range (k - b).toNat).filterMap (fun (i : Nat) => if ((0 + (i : Int)).fdiv b).fmod 2 = 0 then some (0 + (i : Int)) else none) = q1
            have hl1 : q1.length ≤ (k - b).toNat := by rw [← hq1]; exact Nat.le_trans (List.length_filterMap_le _ _) (by simp)
            have hi1 : ∀ e ∈ q1, 0 ≤ e ∧ e < k - b := by
              intro e he
              rw [← hq1] at he
              obtain ⟨j, hj, e2⟩ := List.mem_filterMap.mp he
              have := List.mem_range.mp hj
              split at e2
              · cases e2; omega
              · cases e2
            repeat ((conv => whnf); first | (refine And.intro (by first | omega | exact ok_fn (by assumption) | exact ok_xc (by assumption) | (constructor <;> omega) | (simp only [List.length_map, List.length_range, List.length_append, List.length_cons, List.length_nil] <;> omega) | exact ⟨rfl, by decide, by decide +kernel⟩ | rfl) ?_) | (refine optK_xc (by assumption) ?_) | (refine optK_sub (by assumption) ?_))
            conv => whnf
            refine goLc_map0 D.int pq (fun i => (i, i + b)) q1 (fun i _ K hK => ?_) ?_
            · repeat ((conv => whnf); first | (refine And.intro (by first | omega | exact ok_fn (by assumption) | exact ok_xc (by assumption) | (constructor <;> omega) | (simp only [List.length_map, List.length_range, List.length_append, List.length_cons, List.length_nil] <;> omega) | exact ⟨rfl, by decide, by decide +kernel⟩ | rfl) ?_) | (refine optK_xc (by assumption) ?_) | (refine optK_sub (by assumption) ?_))
              conv => whnf
              exact hK
            repeat ((conv => whnf); first | (refine And.intro (by first | omega | exact ok_fn (by assumption) | exact ok_xc (by assumption) | (constructor <;> omega) | (simp only [List.length_map, List.length_range, List.length_append, List.length_cons, List.length_nil] <;> omega) | exact ⟨rfl, by decide, by decide +kernel⟩ | rfl) ?_) | (refine optK_xc (by assumption) ?_) | (refine optK_sub (by assumption) ?_))
            conv => whnf
            refine hnx _ _ ⟨ps ++ q1.map (fun i => (i, i + b)), _, _, _, rfl, ?_, ?_, ?_, fun b' hb' => hbs b' (List.mem_cons_of_mem _ hb')⟩
            · rw [List.map_append]; rfl
            · intro e he
              rcases List.mem_append.mp he with he | he
              · exact hin e he
              · obtain ⟨j, hj, rfl⟩ := List.mem_map.mp he
                have := hi1 j hj
                refine ⟨?_, ?_, ?_, ?_⟩ <;> dsimp only <;> omega
            · rw [List.length_append, List.length_map]; omega
        · conv => whnf
          refine ifB_d (fun c5 => ?_) (fun c5 => ?_)
          · repeat ((conv => whnf); first | (refine And.intro (by first | omega | exact ok_fn (by assumption) | exact ok_xc (by assumption) | (constructor <;> omega) | (simp only [List.length_map, List.length_range, List.length_append, List.length_cons, List.length_nil] <;> omega) | exact ⟨rfl, by decide, by decide +kernel⟩ | rfl) ?_) | (refine optK_xc (by assumption) ?_) | (refine optK_sub (by assumption) ?_))
            conv => whnf
            refine goLc_map0 rg pq (fun i => (0 + (i : Int), (0 + (i : Int) + 1).fmod h)) (List.range h.toNat) (fun i _ K hK => ?_) ?_
            · repeat ((conv => whnf); first | (refine And.intro (by first | omega | exact ok_fn (by assumption) | exact ok_xc (by assumption) | (constructor <;> omega) | (simp only [List.length_map, List.length_range, List.length_append, List.length_cons, List.length_nil] <;> omega) | exact ⟨rfl, by decide, by decide +kernel⟩ | rfl) ?_) | (refine optK_xc (by assumption) ?_) | (refine optK_sub (by assumption) ?_))
              conv => whnf
              exact hK
            generalize hq1 : (List.range h.toNat).map (fun (i : Nat) => (0 + (i : Int), (0 + (i : Int) + 1).fmod h)) = q1
            have hl1 : q1.length = h.toNat := by rw [← hq1]; simp
            have hi1 : ∀ e ∈ q1, inR k e := by
              intro e he
              rw [← hq1] at he
              obtain ⟨j, hj, rfl⟩ := List.mem_map.mp he
              have := List.mem_range.mp hj
              have h2 := fmod_r (0 + (j : Int) + 1) (show 0 < h by omega)
              refine ⟨?_, ?_, ?_, ?_⟩ <;> dsimp only <;> omega
            repeat ((conv => whnf); first | (refine And.intro (by first | omega | exact ok_fn (by assumption) | exact ok_xc (by assumption) | (constructor <;> omega) | (simp only [List.length_map, List.length_range, List.length_append, List.length_cons, List.length_nil] <;> omega) | exact ⟨rfl, by decide, by decide +kernel⟩ | rfl) ?_) | (refine optK_xc (by assumption) ?_) | (refine optK_sub (by assumption) ?_))
            conv => whnf
            refine goLc_map0 (fun (i : Nat) => .int (h + (i : Int))) pq (fun i => (h + (i : Int), h + (i : Int) + 1)) (List.range (k - 1 - h).toNat) (fun i _ K hK => ?_) ?_
            · repeat ((conv => whnf); first | (refine And.intro (by first | omega | exact ok_fn (by assumption) | exact ok_xc (by assumption) | (constructor <;> omega) | (simp only [List.length_map, List.length_range, List.length_append, List.length_cons, List.length_nil] <;> omega) | exact ⟨rfl, by decide, by decide +kernel⟩ | rfl) ?_) | (refine optK_xc (by assumption) ?_) | (refine optK_sub (by assumption) ?_))
              conv => whnf
              exact hK
            generalize hq2 : (List.range (k - 1 - h).toNat).map (fun (i : Nat) => (h + (i : Int), h + (i : Int) + 1)) = q2
            have hl2 : q2.length = (k - 1 - h).toNat := by rw [← hq2]; simp
            have hi2 : ∀ e ∈ q2, inR k e := by
              intro e he
              rw [← hq2] at he
              obtain ⟨j, hj, rfl⟩ := List.mem_map.mp he
              have := List.mem_range.mp hj
              refine ⟨?_, ?_, ?_, ?_⟩ <;> dsimp only <;> omega
            conv => whnf
            refine ⟨by simp only [List.length_map]; omega, ?_⟩
            refine hfin p1 (q1 ++ q2) _ _ _ _ _ _ _ _ (h1.le (by omega)) (by rfl) (.inr ⟨3, by omega, rfl, ?_⟩) ?_ fun e he => ?_
            · rw [List.map_append]; rfl
            · rw [List.length_append]; omega
            · rcases List.mem_append.mp he with he | he
              · exact hi1 e he
              · exact hi2 e he
          · repeat ((conv => whnf); first | (refine And.intro (by first | omega | exact ok_fn (by assumption) | exact ok_xc (by assumption) | (constructor <;> omega) | (simp only [List.length_map, List.length_range, List.length_append, List.length_cons, List.length_nil] <;> omega) | exact ⟨rfl, by decide, by decide +kernel⟩ | rfl) ?_) | (refine optK_xc (by assumption) ?_) | (refine optK_sub (by assumption) ?_))
            conv => whnf
            generalize hmn : (if 2 * k < 28 then 2 * k else 28) = c
            have hc : 0 ≤ c ∧ c ≤ 28 := by rw [← hmn]; split <;> omega
            refine y_pairs hp 0 p1 (N + 20) k c rfl h1 (by omega) (by omega) (by omega) (by omega) (by omega) fun p2 ps h2 hpl hpi => ?_
            refine hfin p2 ps _ _ _ _ _ _ _ _ (h2.le (by omega)) (by rfl) (.inl rfl) (by omega) hpi
end G

/-! G10: a walk strolled. -/
namespace G
open PySem PySem.Spec L2 PyProof.Rows DL
theorem cutG_to {α : Type} (xs : List α) {i : Int} (h : 0 ≤ i) : cutG xs none (some i) = xs.take i.toNat := by
  unfold cutG HT.sIx
  simp only [List.drop_zero, Nat.sub_zero]
  rw [if_neg (by omega)]
  by_cases c : i.toNat ≤ xs.length
  · rw [Nat.min_eq_left c]
  · rw [Nat.min_eq_right (by omega), List.take_of_length_le (Nat.le_refl _), List.take_of_length_le (by omega)]
theorem cutG_from {α : Type} (xs : List α) {i : Int} (h : 0 ≤ i) : cutG xs (some i) none = xs.drop i.toNat := by
  have e : HT.sIx xs.length 0 (some i) = min i.toNat xs.length := by
    show (if i < 0 then _ else _) = _
    rw [if_neg (by omega)]
  unfold cutG
  rw [e, HT.sIx_none]
  by_cases c : i.toNat ≤ xs.length
  · rw [Nat.min_eq_left c, List.take_of_length_le (by rw [List.length_drop]; exact Nat.le_refl _)]
  · rw [Nat.min_eq_right (by omega), Nat.sub_self, List.take_zero, List.drop_of_length_le (by omega)]
theorem at_last {β : Type} {f : β → D} {xs : List β} {x : β} (h : xs.getLast? = some x) : atI (xs.map f) (-1) = some (f x) := by
  rw [List.getLast?_eq_getElem?] at h
  have hl := (List.getElem?_eq_some_iff.mp h).1
  exact atI_n (j := xs.length - 1) (by rw [List.getElem?_map, h]; rfl) (.inr (by rw [List.length_map]; omega))
def Wk (doors : List (Str × Str)) (xs : List Str) : Prop := ∀ i a b, xs[i]? = some a → xs[i + 1]? = some b → b ∈ others doors a
theorem Wk.snoc {doors : List (Str × Str)} {xs : List Str} {a b : Str} (h : Wk doors xs) (hl : xs.getLast? = some a) (hb : b ∈ others doors a) : Wk doors (xs ++ [b]) := by
  intro i x y h1 h2
  have hlen := (List.getElem?_eq_some_iff.mp h2).1
  rw [List.length_append, List.length_singleton] at hlen
  by_cases c : i + 1 < xs.length
  · rw [List.getElem?_append_left (by omega)] at h1 h2
    exact h i x y h1 h2
  · rw [List.getElem?_append_left (by omega)] at h1
    rw [List.getElem?_append_right (by omega)] at h2
    have e : i + 1 - xs.length = 0 := by omega
    rw [e] at h2
    cases h2
    rw [List.getLast?_eq_getElem?] at hl
    have : xs.length - 1 = i := by omega
    rw [this, h1] at hl
    cases hl
    exact hb
def N_law_strolled : List Str := ["_law_pen_here", "_law_yard_here", "_law_begin", "_law_steps", "_law_found", "_law_k", "_law_some"]
@[irreducible] def b_law_strolled_1 : List Sx := [
  .ret (.pr (.bi .tuple false) [.v 4])]
def b_law_strolled : List Sx := (
  .asg 4 (.pr (.lst true) [.v 2]) ::
  .fors (.n 5) .rng [.v 3] [
    .asg 6 (.pr (.call "_law_near" []) [.v 1, .pr .idx [.v 4, .pr .neg [.int 1]]]),
    .ite (.pr (.cmp .NotEq) [.v 6, .pr (.lst false) []]) [
      .exp (.me .append false (.v 4) [.pr (.call "_law_pick" []) [.v 0, .v 6]])] []] :: b_law_strolled_1)
def spStroll : DL.Spec := penSp (fun _ => 1000) (fun ds => ∃ (rooms : List Str) (doors : List (Str × Str)) (b : Str) (n : Int), ds = [yardD rooms doors, .str b, .int n] ∧ doors.length ≤ 1000 ∧ 0 ≤ n ∧ n ≤ 900)
  (fun ds r => ∃ (rooms : List Str) (doors : List (Str × Str)) (b : Str) (n : Int) (xs : List Str), ds = [yardD rooms doors, .str b, .int n] ∧ r = .tup (xs.map .str) ∧ xs.head? = some b ∧ (xs.length : Int) ≤ n + 1 ∧ Wk doors xs)
theorem yard_inj {r r' : List Str} {d d' : List (Str × Str)} (h : yardD r d = yardD r' d') : d = d' := by
  simp only [yardD, D.dct.injEq, List.cons.injEq, Prod.mk.injEq, D.lst.injEq, and_true, true_and] at h
  exact doors_inj h.2
theorem y_stroll {sg : Sg} (hs : sg.fn "_law_strolled" 4 = some spStroll) {M : MM} {Q : W → MM → Prop} {R : XR} (i : Nat) (p : Pen) (N : Int) (rooms : List Str) (doors : List (Str × Str)) (b : Str) (n : Int) (hM : M[i]? = some (some (penMO p))) (h0 : PB N p) (hk : N + 1000 < 2 ^ 61) (hd : doors.length ≤ 1000) (h1 : 0 ≤ n) (h2 : n ≤ 900)
    (hq : ∀ p' xs, PB (N + 1000) p' → xs.head? = some b → ((xs : List Str).length : Int) ≤ n + 1 → Wk doors xs → Q (.d (.tup (xs.map .str))) (M.set i (some (penMO p')))) :
    lendO (sg.fn "_law_strolled" 4) [] [.ref i, .d (yardD rooms doors), .d (.str b), .d (.int n)] M Q R := by
  rw [hs]
  refine use_p i p [yardD rooms doors, .str b, .int n] hM h0.1 (by have := h0.2; omega) ⟨_, _, _, _, rfl, hd, h1, h2⟩ fun p' r h0' _ _ hb ⟨rooms', doors', b', n', xs, e1, e2, e3, e4, e5⟩ => ?_
  subst e2
  simp only [List.cons.injEq, D.str.injEq, D.int.injEq, and_true] at e1
  obtain ⟨e6, rfl, rfl⟩ := e1
  cases yard_inj e6
  exact hq p' xs (h0.mk1 h0' hb) e3 e4 e5
theorem s_stroll (sg : Sg) (hn : sg.fn "_law_near" 2 = some spNear) (hk : sg.fn "_law_pick" 2 = some spPick) (ws M Q R) (h : spStroll ws M Q R) : ws.length = 4 ∧ wSs sg b_law_strolled (G0 N_law_strolled.length ws) M (bodyE true M.length Q R) := by
  obtain ⟨p, ds, rfl, rfl, ⟨h0, hb, rooms, doors, b, n, rfl, hd, hn1, hn2⟩, hq⟩ := h
  refine ⟨rfl, ?_⟩
  have hb : p.at_ + 1000 < 2 ^ 61 := hb
  have hsz := sizeLine_eq
  generalize hE : bodyE true _ Q R = E
  repeat ((conv => whnf); first | (refine And.intro (by first | omega | exact ok_fn (by assumption) | exact ok_xc (by assumption) | (constructor <;> omega) | (simp only [List.length_map, List.length_range, List.length_append, List.length_cons, List.length_nil] <;> omega) | exact ⟨rfl, by decide, by decide +kernel⟩ | rfl) ?_) | (refine optK_xc (by assumption) ?_) | (refine optK_sub (by assumption) ?_))
  conv => whnf
  refine goFor_as rg (fun rest Γ M => ∃ (p2 : Pen) (xs : List Str) (z5 z6 : Option W), Γ = [some (.ref 0), some (.d (yardD rooms doors)), some (.d (.str b)), some (.d (.int n)), some (.ref 1), z5, z6] ∧ M = [some (penMO p2), some (.lst (xs.map .str))] ∧ Pen0 p2 ∧ PenNx xs.length p p2 ∧ xs.head? = some b ∧ xs.length + rest.length ≤ n.toNat + 1 ∧ Wk doors xs) ?_ ?_ _ _ _ ⟨p, [b], none, none, rfl, rfl, h0, ⟨rfl, by omega, by simp; omega, h0.2.2⟩, rfl, by simp; omega, fun i a b h1 h2 => by simp at h2⟩
  · rintro Γ M ⟨p2, xs, z5, z6, rfl, rfl, h2, hnx, hhd, hl, hwk⟩
    unfold b_law_strolled_1
    subst hE
    repeat ((conv => whnf); first | (refine And.intro (by first | omega | exact ok_fn (by assumption) | exact ok_xc (by assumption) | (constructor <;> omega) | (simp only [List.length_map, List.length_range, List.length_append, List.length_cons, List.length_nil] <;> omega) | exact ⟨rfl, by decide, by decide +kernel⟩ | rfl) ?_) | (refine optK_xc (by assumption) ?_) | (refine optK_sub (by assumption) ?_))
    conv => whnf
    refine hq p2 _ ⟨⟨hnx.1, hnx.2.1, ?_, h2.2.2⟩, rooms, doors, b, n, xs, rfl, rfl, hhd, ?_, hwk⟩
    · have := hnx.2.2.1; simp at hl ⊢; omega
    · simp at hl ⊢; omega
  · rintro a rest Γ M E' ⟨p2, xs, z5, z6, rfl, rfl, h2, hnx, hhd, hl, hwk⟩ hnext _ _ _ _
    simp only [List.length_cons] at hl
    obtain ⟨last, hlast⟩ : ∃ x, xs.getLast? = some x := by
      cases xs with
      | nil => cases hhd
      | cons y ys => exact ⟨_, List.getLast?_eq_some_getLast (by simp)⟩
    have hat := at_last (f := D.str) hlast
    repeat ((conv => whnf); first | (refine And.intro (by first | omega | exact ok_fn (by assumption) | exact ok_xc (by assumption) | (constructor <;> omega) | (simp only [List.length_map, List.length_range, List.length_append, List.length_cons, List.length_nil] <;> omega) | exact ⟨rfl, by decide, by decide +kernel⟩ | rfl) ?_) | (refine optK_xc (by assumption) ?_) | (refine optK_sub (by assumption) ?_))
    conv => whnf
    refine optK_some hat ?_
    conv => whnf
    refine x_near hn rooms doors last hd fun l hp => ?_
    conv => whnf
    refine eq_strs_nil ?_
    conv => whnf
    cases l with
    | nil =>
      conv => whnf
      refine hnext _ _ ⟨p2, xs, _, _, rfl, rfl, h2, hnx, hhd, by omega, hwk⟩
    | cons y l =>
      have hll : (y :: l).length ≤ 1000 := by
        rw [hp.length_eq]; unfold others; rw [List.length_map]; exact Nat.le_trans (List.length_filter_le _ _) hd
      have hxx := hnx.2.2.1
      repeat ((conv => whnf); first | (refine And.intro (by first | omega | exact ok_fn (by assumption) | exact ok_xc (by assumption) | (constructor <;> omega) | (simp only [List.length_map, List.length_range, List.length_append, List.length_cons, List.length_nil] <;> omega) | exact ⟨rfl, by decide, by decide +kernel⟩ | rfl) ?_) | (refine optK_xc (by assumption) ?_) | (refine optK_sub (by assumption) ?_))
      conv => whnf
      refine x_pick hk 0 p2 (.lst ((y :: l).map .str)) _ rfl h2 (by omega) (.inl rfl) (by simp) (by rw [List.length_map]; omega) fun p3 r h3 hc3 ha3 hb3 hr => ?_
      obtain ⟨w, hw, rfl⟩ := List.mem_map.mp hr
      repeat ((conv => whnf); first | (refine And.intro (by first | omega | exact ok_fn (by assumption) | exact ok_xc (by assumption) | (constructor <;> omega) | (simp only [List.length_map, List.length_range, List.length_append, List.length_cons, List.length_nil] <;> omega) | exact ⟨rfl, by decide, by decide +kernel⟩ | rfl) ?_) | (refine optK_xc (by assumption) ?_) | (refine optK_sub (by assumption) ?_))
      conv => whnf
      refine hnext _ _ ⟨p3, xs ++ [w], _, _, rfl, by rw [List.map_append]; rfl, h3, ⟨hc3.trans hnx.1, Int.le_trans hnx.2.1 ha3, ?_, h3.2.2⟩, ?_, ?_, hwk.snoc hlast (hp.mem_iff.mp hw)⟩
      · rw [List.length_append]; simp; omega
      · cases xs with
        | nil => cases hhd
        | cons z zs => exact hhd
      · rw [List.length_append]; simp; omega
end G

/-! G11: a yard, whole. -/
namespace G
open PySem PySem.Spec L2 PyProof.Rows DL
def spYard : DL.Spec := pbSp (fun _ => 10000) (fun ds => ∃ m : Int, ds = [.int m] ∧ 4 ≤ m ∧ m ≤ 26)
  (fun ds r => ∃ (m : Int) (rooms : List Str) (doors : List (Str × Str)), ds = [.int m] ∧ r = yardD rooms doors ∧ 1 ≤ rooms.length ∧ (rooms.length : Int) ≤ m ∧ doors.length ≤ 1000 ∧ Yd rooms doors ∧ ∀ s ∈ rooms, Nm s)
theorem y_yard {sg : Sg} (hs : sg.fn "_law_yard" 2 = some spYard) {M : MM} {Q : W → MM → Prop} {R : XR} (i : Nat) (p : Pen) (N m : Int) (hM : M[i]? = some (some (penMO p))) (h0 : PB N p) (hk : N + 10000 < 2 ^ 61) (h1 : 4 ≤ m) (h2 : m ≤ 26)
    (hq : ∀ p' rooms doors, PB (N + 10000) p' → 1 ≤ (rooms : List Str).length → (rooms.length : Int) ≤ m → (doors : List (Str × Str)).length ≤ 1000 → Q (.d (yardD rooms doors)) (M.set i (some (penMO p')))) : lendO (sg.fn "_law_yard" 2) [] [.ref i, .d (.int m)] M Q R := by
  rw [hs]
  refine use_pb i p N [.int m] hM h0 hk ⟨_, rfl, h1, h2⟩ fun p' r h' ⟨m', rooms, doors, e1, e2, e3, e4, e5, _⟩ => ?_
  cases e1
  subst e2
  exact hq p' rooms doors h' e3 e4 e5
/-- with what is known of the doors -/
theorem y_yardY {sg : Sg} (hs : sg.fn "_law_yard" 2 = some spYard) {M : MM} {Q : W → MM → Prop} {R : XR} (i : Nat) (p : Pen) (N m : Int) (hM : M[i]? = some (some (penMO p))) (h0 : PB N p) (hk : N + 10000 < 2 ^ 61) (h1 : 4 ≤ m) (h2 : m ≤ 26)
    (hq : ∀ p' rooms doors, PB (N + 10000) p' → 1 ≤ (rooms : List Str).length → (rooms.length : Int) ≤ m → (doors : List (Str × Str)).length ≤ 1000 → Yd rooms doors → (∀ s ∈ rooms, Nm s) → Q (.d (yardD rooms doors)) (M.set i (some (penMO p')))) : lendO (sg.fn "_law_yard" 2) [] [.ref i, .d (.int m)] M Q R := by
  rw [hs]
  refine use_pb i p N [.int m] hM h0 hk ⟨_, rfl, h1, h2⟩ fun p' r h' ⟨m', rooms, doors, e1, e2, e3, e4, e5, e6, e7⟩ => ?_
  cases e1
  subst e2
  exact hq p' rooms doors h' e3 e4 e5 e6 e7
theorem s_yard (sg : Sg) (hn : sg.fn "_law_names" 2 = some spNames) (hp : sg.fn "_law_drawn_pairs" 3 = some spPairs) (hd : sg.fn "_law_draw" 2 = some spDraw) (hw : sg.fn "_law_with_doors" 2 = some spWith) (ws M Q R) (h : spYard ws M Q R) : ws.length = 2 ∧ wSs sg b_law_yard (G0 N_law_yard.length ws) M (bodyE true M.length Q R) := by
  obtain ⟨p, ds, rfl, rfl, ⟨h0, hb, m, rfl, hm, hm2⟩, hq⟩ := h
  refine ⟨rfl, ?_⟩
  have hb : p.at_ + 10000 < 2 ^ 61 := hb
  have hsz := sizeLine_eq
  have hpb : PB p.at_ p := ⟨h0, Int.le_refl _⟩
  generalize hE : bodyE true _ Q R = E
  repeat ((conv => whnf); first | (refine And.intro (by first | omega | exact ok_fn (by assumption) | exact ok_xc (by assumption) | (constructor <;> omega) | (simp only [List.length_map, List.length_range, List.length_append, List.length_cons, List.length_nil] <;> omega) | exact ⟨rfl, by decide, by decide +kernel⟩ | rfl) ?_) | (refine optK_xc (by assumption) ?_) | (refine optK_sub (by assumption) ?_))
  conv => whnf
  refine x_draw hd 0 p 9 rfl h0 (by omega) (by omega) (by omega) fun p1 way h1 hc1 ha1 hb1 hz hz2 => ?_
  repeat ((conv => whnf); first | (refine And.intro (by first | omega | exact ok_fn (by assumption) | exact ok_xc (by assumption) | (constructor <;> omega) | (simp only [List.length_map, List.length_range, List.length_append, List.length_cons, List.length_nil] <;> omega) | exact ⟨rfl, by decide, by decide +kernel⟩ | rfl) ?_) | (refine optK_xc (by assumption) ?_) | (refine optK_sub (by assumption) ?_))
  conv => whnf
  refine x_draw hd 0 p1 m rfl h1 (by omega) (by omega) (by omega) fun p2 z h2 hc2 ha2 hb2 hz3 hz4 => ?_
  repeat ((conv => whnf); first | (refine And.intro (by first | omega | exact ok_fn (by assumption) | exact ok_xc (by assumption) | (constructor <;> omega) | (simp only [List.length_map, List.length_range, List.length_append, List.length_cons, List.length_nil] <;> omega) | exact ⟨rfl, by decide, by decide +kernel⟩ | rfl) ?_) | (refine optK_xc (by assumption) ?_) | (refine optK_sub (by assumption) ?_))
  conv => whnf
  refine x_draw hd 0 p2 4 rfl h2 (by omega) (by omega) (by omega) fun p3 y h3 hc3 ha3 hb3 hz5 hz6 => ?_
  have fin : ∀ k : Int, 1 ≤ k → k ≤ m → wSs sg b_law_yard_2 [some (.ref 0), some (.d (.int m)), some (.d (.int k)), none, none, some (.d (.int way)), none, none, none, none, none] [some (penMO p3)] E := by
    intro k hk1 hk2
    refine t_yard_2 sg hn hp hd hw E p3 (p.at_ + 3) m k way ⟨h3, by omega⟩ (by omega) hk1 (by omega) hz hz2 fun p' rooms doors M' h' hl hl2 hyd hnm hM' => ?_
    subst hE
    show retQ true 1 Q (.d (yardD rooms doors)) M'
    exact retQ_pen hM' (hq p' _ ⟨h'.le (by show p.at_ + 3 + 9000 ≤ p.at_ + 10000; omega), m, rooms, doors, rfl, rfl, by omega, by omega, hl2, hyd, hnm⟩)
  conv => whnf
  refine ifB_d (fun c => ?_) (fun c => ?_)
  · conv => whnf
    refine fin _ ?_ ?_
    all_goals (repeat split) <;> omega
  · exact fin (1 + z) (by omega) (by omega)
end G

/-! G12: tuples of names compared; shrunk. -/
namespace G
open PySem PySem.Spec L2 PyProof.Rows DL
theorem toPy_tups (ns : List Str) : toPy (.tup (ns.map .str)) = some (.tuple (ns.map PyData.str)) := by simp only [toPy, toPys_strs]
theorem dep_tups (ns : List Str) : (PyData.tuple (ns.map PyData.str)).depth ≤ 64 := by
  simp only [PyData.depth, dep_strs0]
  omega
theorem eqvs_strs : ∀ xs ys : List Str, PyData.eqvAll (xs.map PyData.str) (ys.map PyData.str) = decide (xs = ys)
  | [], [] => rfl
  | [], _ :: _ => rfl
  | _ :: _, [] => rfl
  | x :: xs, y :: ys => by
    simp only [List.map_cons, PyData.eqvAll, eqvs_strs xs ys, PyData.eqv]
    by_cases h : x = y
    · subst h; by_cases h2 : xs = ys
      · subst h2; simp
      · simp [h2]
    · simp [h]
theorem eqv_tups (xs ys : List Str) : (PyData.tuple (xs.map PyData.str)).eqv (PyData.tuple (ys.map PyData.str)) = decide (xs = ys) := by
  simp only [PyData.eqv, eqvs_strs]
theorem eq_tups {xs ys : List Str} {k : Bool → Prop} (h : k (decide (xs = ys))) : eqDG (.tup (xs.map .str)) (.tup (ys.map .str)) k := eqDG_of (toPy_tups xs) (toPy_tups ys) (dep_tups xs) (dep_tups ys) (eqv_tups xs ys) h
theorem strs_inj {a b : List Str} (h : a.map D.str = b.map D.str) : a = b := by
  have := congrArg (List.map unS) h
  have e : ∀ m : List Str, (m.map D.str).map unS = m := fun m => by rw [List.map_map]; exact List.map_id _
  rwa [e, e] at this
def N_shrunk : List Str := ["walk", "found", "room"]
@[irreducible] def b_shrunk_1 : List Sx := [
  .ret (.pr (.bi .tuple false) [.v 1])]
def b_shrunk : List Sx := (
  .asg 1 (.pr (.lst true) []) ::
  .fors (.n 2) .seq [.v 0] [
    .ite (.and (.pr (.cmp .GtE) [.pr (.bi .len false) [.v 1], .int 2]) (.pr (.cmp .Eq) [.pr .idx [.v 1, .pr .neg [.int 2]], .v 2])) [
      .exp (.me .pop false (.v 1) [])] [
      .exp (.me .append false (.v 1) [.v 2])]] :: b_shrunk_1)
def spShrunk : DL.Spec := dSp (fun ds => ∃ xs : List Str, ds = [.tup (xs.map .str)] ∧ xs.length < 16777216) (fun ds r => ∃ xs : List Str, ds = [.tup (xs.map .str)] ∧ r = .tup ((KM.shr xs).map .str))
theorem y_shrunk {sg : Sg} (hs : sg.fn "shrunk" 1 = some spShrunk) {M : MM} {Q : W → MM → Prop} {R : XR} (xs : List Str) (hl : xs.length < 16777216) (hq : Q (.d (.tup ((KM.shr xs).map .str))) M) : lendO (sg.fn "shrunk" 1) [] [.d (.tup (xs.map .str))] M Q R := by
  rw [hs]
  refine use_d [.tup (xs.map .str)] ⟨xs, rfl, hl⟩ fun r ⟨ys, e1, e2⟩ => ?_
  subst e2
  simp only [List.cons.injEq, D.tup.injEq, and_true] at e1
  cases strs_inj e1
  exact hq
theorem s_shrunk (sg : Sg) (ws M Q R) (h : spShrunk ws M Q R) : ws.length = 1 ∧ wSs sg b_shrunk (G0 N_shrunk.length ws) M (bodyE true M.length Q R) := by
  obtain ⟨ds, rfl, rfl, ⟨xs, rfl, hx⟩, hq⟩ := h
  refine ⟨rfl, ?_⟩
  have hsz := sizeLine_eq
  generalize hE : bodyE true _ Q R = E
  conv => whnf
  refine goFor_as D.str (fun rest Γ M => ∃ (acc : List Str) (z : Option W), Γ = [some (.d (.tup (xs.map .str))), some (.ref 0), z] ∧ M = [some (.lst (acc.map .str))] ∧ acc.length + rest.length < 16777216 ∧ rest.foldl KM.push acc = KM.shr xs) ?_ ?_ xs _ _ ⟨[], none, rfl, rfl, by simpa using hx, rfl⟩
  · rintro Γ M ⟨acc, z, rfl, rfl, hl, hs⟩
    unfold b_shrunk_1
    subst hE
    conv => whnf
    obtain rfl : acc = KM.shr xs := hs
    exact hq _ ⟨xs, rfl, rfl⟩
  · rintro y rest Γ M E' ⟨acc, z, rfl, rfl, hl, hs⟩ hnx _ _ _ hxr
    rw [List.length_cons] at hl
    have hlen : ((acc.map D.str).length : Int) = acc.length := by simp
    have fin : ∀ acc', acc'.length + rest.length < 16777216 → acc' = KM.push acc y → E'.nx [some (.d (.tup (xs.map .str))), some (.ref 0), some (.d (.str y))] [some (.lst (acc'.map .str))] := fun acc' h1 h2 => hnx _ _ ⟨acc', _, rfl, rfl, h1, by rw [h2]; exact hs⟩
    conv => whnf
    refine ifB_d (fun h => ?_) (fun h => ?_)
    · have h2 : 2 ≤ acc.length := by omega
      obtain ⟨w, hw⟩ : ∃ w, acc[acc.length - 2]? = some w := ⟨_, List.getElem?_eq_getElem (by omega)⟩
      have hat : atI (acc.map D.str) (-2) = some (.str w) := atI_n (j := acc.length - 2) (by rw [List.getElem?_map, hw]; rfl) (.inr (by simp; omega))
      conv => whnf
      refine optK_some hat ?_
      conv => whnf
      refine ifB_d (fun e => ?_) (fun e => ?_)
      · subst e
        conv => whnf
        have hla : (acc.map D.str)[(acc.map D.str).length - 1]? = some (.str (acc[acc.length - 1]'(by omega))) := by
          rw [List.length_map, List.getElem?_map, List.getElem?_eq_getElem (by omega)]; rfl
        show match (acc.map D.str)[(acc.map D.str).length - 1]? with | some y => _ | none => _
        rw [hla]
        have := fin acc.dropLast (by rw [List.length_dropLast]; omega) (by unfold KM.push; rw [if_pos ⟨h2, hw⟩])
        rw [List.map_dropLast] at this
        exact this
      · repeat ((conv => whnf); first | (refine And.intro (by first | omega | exact ok_fn (by assumption) | exact ok_xc (by assumption) | (constructor <;> omega) | (simp only [List.length_map, List.length_range, List.length_append, List.length_cons, List.length_nil] <;> omega) | exact ⟨rfl, by decide, by decide +kernel⟩ | rfl) ?_) | (refine optK_xc (by assumption) ?_) | (refine optK_sub (by assumption) ?_))
        conv => whnf
        have := fin (acc ++ [y]) (by simp; omega) (by unfold KM.push; rw [if_neg]; rintro ⟨_, e2⟩; rw [hw] at e2; exact e (Option.some.inj e2))
        rw [List.map_append] at this
        exact this
    · repeat ((conv => whnf); first | (refine And.intro (by first | omega | exact ok_fn (by assumption) | exact ok_xc (by assumption) | (constructor <;> omega) | (simp only [List.length_map, List.length_range, List.length_append, List.length_cons, List.length_nil] <;> omega) | exact ⟨rfl, by decide, by decide +kernel⟩ | rfl) ?_) | (refine optK_xc (by assumption) ?_) | (refine optK_sub (by assumption) ?_))
      conv => whnf
      have := fin (acc ++ [y]) (by simp; omega) (by unfold KM.push; rw [if_neg]; rintro ⟨e2, _⟩; omega)
      rw [List.map_append] at this
      exact this
end G

/-! G13: promises with an error's way out; walks turned, one behind another. -/
namespace G
open PySem PySem.Spec L2 PyProof.Rows DL
/-- over data alone: by what is handed in (ι), what comes, what is raised -/
def pSp {ι : Type} (args : ι → List D) (pre : ι → Prop) (res : ι → D → Prop) (exc : ι → Str → List (Str × D) → Prop) : DL.Spec := fun ws M Q R =>
  ∃ i, ws = (args i).map W.d ∧ M = [] ∧ pre i ∧ (∀ r, res i r → Q (.d r) []) ∧ ∀ c fs, exc i c fs → R c fs []
def noE {ι : Type} : ι → Str → List (Str × D) → Prop := fun _ _ _ => False
theorem splice_nil (M : MM) : splice M [] [] = M := by
  unfold splice
  simp [DL.putAll]
theorem use_q {ι : Type} {args : ι → List D} {pre : ι → Prop} {res : ι → D → Prop} {exc : ι → Str → List (Str × D) → Prop} {M : MM} {Q : W → MM → Prop} {R : XR} (i : ι) (h : pre i) (hq : ∀ r, res i r → Q (.d r) M) (hr : ∀ c fs, exc i c fs → R c fs M) :
    lendO (some (pSp args pre res exc)) [] ((args i).map W.d) M Q R := by
  show callI (reach M ((args i).map W.d)) _ _ _ _ _
  rw [reach_d]
  refine ⟨?_, i, by rw [renW_d], rfl, h, fun r hr => ?_, fun c fs he => ?_⟩
  · unfold okIx
    rw [refsW_d]
    rfl
  · show Q (backW [] M.length (.d r)) (splice M [] [])
    rw [splice_nil]
    exact hq r hr
  · show R c fs (splice M [] [])
    rw [splice_nil]
    exact hr c fs he
/-- with the pen -/
def pnSp {ι : Type} (args : ι → List D) (cost : ι → Nat) (pre : ι → Prop) (res : ι → D → Prop) : DL.Spec := fun ws M Q _ =>
  ∃ (p : Pen) (i : ι), ws = .ref 0 :: (args i).map W.d ∧ M = [some (penMO p)] ∧ Pen0 p ∧ p.at_ + cost i < 2 ^ 61 ∧ pre i ∧ ∀ p' r, PB (p.at_ + cost i) p' → res i r → Q (.d r) [some (penMO p')]
theorem use_n {ι : Type} {args : ι → List D} {cost : ι → Nat} {pre : ι → Prop} {res : ι → D → Prop} {M : MM} {Q : W → MM → Prop} {R : XR} (j : Nat) (p : Pen) (N : Int) (i : ι) (hM : M[j]? = some (some (penMO p))) (h0 : PB N p) (hk : N + cost i < 2 ^ 61) (h : pre i)
    (hq : ∀ p' r, PB (N + cost i) p' → res i r → Q (.d r) (M.set j (some (penMO p')))) : lendO (some (pnSp args cost pre res)) [] (.ref j :: (args i).map W.d) M Q R := by
  have := use_o (st := penMO) (pre := fun p ds => Pen0 p ∧ p.at_ + cost i < 2 ^ 61 ∧ pre i ∧ ds = args i) (post := fun p ds p' r => PB (p.at_ + cost i) p' ∧ res i r) (M := M) (Q := Q) (R := R) penMO_k j p (args i) hM ⟨h0.1, by have := h0.2; omega, h, rfl⟩ fun p' r ⟨h1, h5⟩ => hq p' r (h1.le (by have := h0.2; omega)) h5
  have mono : ∀ ws M Q R, oSp penMO (fun p ds => Pen0 p ∧ p.at_ + cost i < 2 ^ 61 ∧ pre i ∧ ds = args i) (fun p ds p' r => PB (p.at_ + cost i) p' ∧ res i r) ws M Q R → pnSp args cost pre res ws M Q R := by
    rintro ws M Q R ⟨p, ds, rfl, rfl, ⟨h1, h2, h3, rfl⟩, h4⟩
    exact ⟨p, i, rfl, rfl, h1, h2, h3, fun p' r h5 h6 => h4 p' r ⟨h5, h6⟩⟩
  obtain ⟨a, b⟩ := (show callI _ _ _ _ _ _ from this)
  exact ⟨a, mono _ _ _ _ b⟩
abbrev tS (xs : List Str) : D := .tup (xs.map .str)
theorem tl_drop (xs : List Str) : List.drop (1 : Int).toNat (xs.map D.str) = xs.tail.map .str := by
  show List.drop 1 _ = _
  rw [List.drop_one, List.map_tail]
theorem hd_at {xs : List Str} {a : Str} (h : xs.head? = some a) : atI (xs.map D.str) 0 = some (.str a) := by
  rw [List.head?_eq_getElem?] at h
  exact atI_n (j := 0) (by rw [List.getElem?_map, h]; rfl) (.inl rfl)
def N_turned : List Str := ["walk"]
def b_turned : List Sx := [
  .ret (.pr (.rev false) [.v 0])]
def spTurned : DL.Spec := pSp (fun xs : List Str => [tS xs]) (fun _ => True) (fun xs r => r = tS xs.reverse) noE
theorem s_turned (sg : Sg) (ws M Q R) (h : spTurned ws M Q R) : ws.length = 1 ∧ wSs sg b_turned (G0 N_turned.length ws) M (bodyE true M.length Q R) := by
  obtain ⟨xs, rfl, rfl, _, hq, _⟩ := h
  refine ⟨rfl, ?_⟩
  conv => whnf
  rw [← List.map_reverse]
  exact hq _ rfl
theorem y_turned {sg : Sg} (hs : sg.fn "turned" 1 = some spTurned) {M : MM} {Q : W → MM → Prop} {R : XR} (xs : List Str) (hq : Q (.d (tS xs.reverse)) M) : lendO (sg.fn "turned" 1) [] [.d (tS xs)] M Q R := by
  rw [hs]
  exact use_q xs trivial (fun r hr => by rw [hr]; exact hq) fun _ _ h => h.elim
def N_behind : List Str := ["one", "other"]
@[irreducible] def b_behind_1 : List Sx := [
  .ret (.pr (.call "shrunk" []) [.pr (.bin .Add false) [.v 0, .pr (.slc true false false) [.v 1, .int 1]]])]
def b_behind : List Sx := (
  .ite (.pr (.cmp .NotEq) [.pr .idx [.v 0, .pr .neg [.int 1]], .pr .idx [.v 1, .int 0]]) [
    .rse "Apart" []] [] :: b_behind_1)
def beh (xs ys : List Str) : List Str := KM.shr (xs ++ ys.tail)
def spBehind : DL.Spec := pSp (fun i : List Str × List Str => [tS i.1, tS i.2]) (fun i => i.1 ≠ [] ∧ i.2 ≠ [] ∧ i.1.length + i.2.length < 16777216) (fun i r => i.1.getLast? = i.2.head? ∧ r = tS (beh i.1 i.2)) (fun i c fs => i.1.getLast? ≠ i.2.head? ∧ c = "Apart" ∧ fs = [])
theorem last_ex {xs : List Str} (h : xs ≠ []) : ∃ a, xs.getLast? = some a := ⟨_, List.getLast?_eq_some_getLast h⟩
theorem head_ex {xs : List Str} (h : xs ≠ []) : ∃ a, xs.head? = some a := by
  cases xs with
  | nil => exact absurd rfl h
  | cons x _ => exact ⟨x, rfl⟩
theorem s_behind (sg : Sg) (hsh : sg.fn "shrunk" 1 = some spShrunk) (hA : sg.xc "Apart" = some []) (ws M Q R) (h : spBehind ws M Q R) : ws.length = 2 ∧ wSs sg b_behind (G0 N_behind.length ws) M (bodyE true M.length Q R) := by
  obtain ⟨⟨xs, ys⟩, rfl, rfl, ⟨hx, hy, hl⟩, hq, hr⟩ := h
  refine ⟨rfl, ?_⟩
  dsimp only at hx hy hl
  have hsz := sizeLine_eq
  obtain ⟨a, ha⟩ := last_ex hx
  obtain ⟨b, hb⟩ := head_ex hy
  generalize hE : bodyE true _ Q R = E
  conv => whnf
  refine optK_some (at_last ha) ?_
  conv => whnf
  refine optK_some (hd_at hb) ?_
  conv => whnf
  refine ifB_n (ifB_d (fun e => ?_) (fun e => ?_))
  · conv => whnf
    unfold b_behind_1
    repeat ((conv => whnf); first | (refine And.intro (by first | omega | exact ok_fn (by assumption) | exact ok_xc (by assumption) | (constructor <;> omega) | (simp only [List.length_map, List.length_range, List.length_append, List.length_cons, List.length_nil] <;> omega) | exact ⟨rfl, by decide, by decide +kernel⟩ | rfl) ?_) | (refine optK_xc (by assumption) ?_) | (refine optK_sub (by assumption) ?_))
    conv => whnf
    rw [cutG_from _ (by omega), tl_drop]
    refine ⟨by simp; omega, ?_⟩
    rw [← List.map_append]
    conv => whnf
    refine y_shrunk hsh (xs ++ ys.tail) (by simp; omega) ?_
    subst hE
    conv => whnf
    exact hq _ ⟨by rw [ha, hb, e], rfl⟩
  · repeat ((conv => whnf); first | (refine And.intro (by first | omega | exact ok_fn (by assumption) | exact ok_xc (by assumption) | (constructor <;> omega) | (simp only [List.length_map, List.length_range, List.length_append, List.length_cons, List.length_nil] <;> omega) | exact ⟨rfl, by decide, by decide +kernel⟩ | rfl) ?_) | (refine optK_xc (by assumption) ?_) | (refine optK_sub (by assumption) ?_))
    conv => whnf
    refine optK_some rfl ?_
    subst hE
    conv => whnf
    exact hr _ _ ⟨by rw [ha, hb]; exact fun h => e (Option.some.inj h), rfl, rfl⟩
/-- both ways out -/
theorem y_behind {sg : Sg} (hs : sg.fn "behind" 2 = some spBehind) {M : MM} {Q : W → MM → Prop} {R : XR} (xs ys : List Str) (hx : xs ≠ []) (hy : ys ≠ []) (hl : xs.length + ys.length < 16777216) (hq : xs.getLast? = ys.head? → Q (.d (tS (beh xs ys))) M) (hr : xs.getLast? ≠ ys.head? → R "Apart" [] M) :
    lendO (sg.fn "behind" 2) [] [.d (tS xs), .d (tS ys)] M Q R := by
  rw [hs]
  exact use_q (xs, ys) ⟨hx, hy, hl⟩ (fun r ⟨h1, h2⟩ => by rw [h2]; exact hq h1) fun c fs ⟨h1, h2, h3⟩ => by rw [h2, h3]; exact hr h1
end G

/-! KM2: more of walks shrunk. -/
namespace KM
variable {α : Type} [DecidableEq α]
theorem not_red {xs : List α} (h : ¬ Red xs) : ∃ i x, xs[i]? = some x ∧ xs[i + 2]? = some x := by
  refine Classical.byContradiction fun hn => h fun i x h1 h2 => hn ⟨i, x, h1, h2⟩
theorem outAt_app (a w : List α) (i : Nat) : outAt (a ++ w) (a.length + i) = a ++ outAt w i := by
  unfold outAt
  rw [List.take_append, List.drop_append]
  have e1 : a.length + i - a.length = i := by omega
  have e2 : a.length + i + 2 - a.length = i + 2 := by omega
  rw [e1, e2, List.take_of_length_le (by omega), List.drop_of_length_le (by omega)]
  simp
/-- by taking out one by one -/
theorem red_ind {P : List α → Prop} (h0 : ∀ xs, Red xs → P xs) (h1 : ∀ xs i x, xs[i]? = some x → xs[i + 2]? = some x → P (outAt xs (i + 1)) → P xs) : ∀ (n : Nat) (xs : List α), xs.length ≤ n → P xs
  | 0, xs, hl => h0 xs fun i x e _ => by
    have := (List.getElem?_eq_some_iff.mp e).1
    omega
  | n + 1, xs, hl => by
    by_cases h : Red xs
    · exact h0 xs h
    · obtain ⟨i, x, e1, e2⟩ := not_red h
      have hlt := (List.getElem?_eq_some_iff.mp e2).1
      have := outAt_len (xs := xs) (i := i + 1) (by omega)
      exact h1 xs i x e1 e2 (red_ind h0 h1 n _ (by omega))
theorem shr_app_l (u v : List α) : shr (shr u ++ v) = shr (u ++ v) := by
  have e : (shr u).foldl push [] = shr u := shr_shr u
  show (shr u ++ v).foldl push [] = (u ++ v).foldl push []
  rw [List.foldl_append, List.foldl_append, e]
  rfl
theorem shr_app_r (a : List α) (w : List α) : shr (a ++ shr w) = shr (a ++ w) := by
  refine red_ind (P := fun w => shr (a ++ shr w) = shr (a ++ w)) (fun w h => by rw [shr_of_red h]) (fun w i x e1 e2 ih => ?_) w.length w (Nat.le_refl _)
  rw [shr_outAt (i := i + 1) (by omega) (by simpa using e1) (by simpa using e2)] at ih
  rw [ih, ← outAt_app]
  refine shr_outAt (x := x) (by omega) ?_ ?_
  · rw [List.getElem?_append_right (by omega)]
    rw [← e1]; congr 1; omega
  · rw [List.getElem?_append_right (by omega)]
    rw [← e2]; congr 1; omega
theorem red_rev {xs : List α} (h : Red xs) : Red xs.reverse := by
  intro i x e1 e2
  have hl := (List.getElem?_eq_some_iff.mp e2).1
  rw [List.length_reverse] at hl
  rw [List.getElem?_reverse (by omega)] at e1 e2
  refine h (xs.length - 1 - (i + 2)) x e2 ?_
  rw [← e1]; congr 1; omega
theorem outAt_rev {xs : List α} {i : Nat} (h : i + 2 ≤ xs.length) : (outAt xs i).reverse = outAt xs.reverse (xs.length - 2 - i) := by
  unfold outAt
  rw [List.reverse_append, List.reverse_drop, List.reverse_take]
  have e1 : xs.length - 2 - i + 2 = xs.length - i := by omega
  have e2 : xs.length - (i + 2) = xs.length - 2 - i := by omega
  rw [e1, e2]
theorem outAt_alike {xs : List α} {p : Nat} {x : α} (h1 : xs[p]? = some x) (h2 : xs[p + 2]? = some x) : outAt xs p = outAt xs (p + 1) := by
  have l1 := (List.getElem?_eq_some_iff.mp h2)
  have l0 := (List.getElem?_eq_some_iff.mp h1)
  unfold outAt
  rw [List.take_add_one, h1, List.drop_eq_getElem_cons l1.1, l1.2]
  simp
theorem shr_rev (w : List α) : shr w.reverse = (shr w).reverse := by
  refine red_ind (P := fun w => shr w.reverse = (shr w).reverse) (fun w h => by rw [shr_of_red h, shr_of_red (red_rev h)]) (fun w i x e1 e2 ih => ?_) w.length w (Nat.le_refl _)
  have hl := (List.getElem?_eq_some_iff.mp e2).1
  rw [shr_outAt (i := i + 1) (by omega) (by simpa using e1) (by simpa using e2)] at ih
  have g1 : w.reverse[w.length - 2 - (i + 1)]? = some x := by
    rw [List.getElem?_reverse (by omega), ← e2]; congr 1; omega
  have g2 : w.reverse[w.length - 2 - (i + 1) + 2]? = some x := by
    rw [List.getElem?_reverse (by omega), ← e1]; congr 1; omega
  rw [← ih, outAt_rev (by omega), outAt_alike g1 g2]
  symm
  exact shr_outAt (x := x) (by omega) (by simpa using g1) (by simpa using g2)
theorem shr_ne {xs : List α} (h : xs ≠ []) : shr xs ≠ [] := by
  intro e
  have := shr_head xs
  rw [e] at this
  cases xs with
  | nil => exact h rfl
  | cons x r => cases this
theorem split_last {xs : List α} {a : α} (h : xs.getLast? = some a) : ∃ s, xs = s ++ [a] := by
  have hne : xs ≠ [] := by intro e; rw [e] at h; cases h
  refine ⟨xs.dropLast, ?_⟩
  rw [List.getLast?_eq_some_getLast hne] at h
  have := List.dropLast_concat_getLast hne
  rw [Option.some.inj h] at this
  exact this.symm
theorem split_head {xs : List α} {a : α} (h : xs.head? = some a) : xs = a :: xs.tail := by
  cases xs with
  | nil => cases h
  | cons x r => cases h; rfl
/-- what stands behind the shared room -/
def cat (u v : List α) : List α := u ++ v.tail
theorem shr_cat_r {u v : List α} {a : α} (hu : u.getLast? = some a) (hv : v.head? = some a) : shr (cat u (shr v)) = shr (cat u v) := by
  obtain ⟨s, rfl⟩ := split_last hu
  have e1 := split_head hv
  have e2 : shr v = a :: (shr v).tail := split_head (by rw [shr_head, hv])
  have k1 : cat (s ++ [a]) (shr v) = s ++ shr v := by
    unfold cat
    conv => rhs; rw [e2]
    simp
  have k2 : cat (s ++ [a]) v = s ++ v := by
    unfold cat
    conv => rhs; rw [e1]
    simp
  rw [k1, k2, shr_app_r]
theorem shr_cat_l (u v : List α) : shr (cat (shr u) v) = shr (cat u v) := shr_app_l u v.tail
theorem cat_ne {u v : List α} (h : u ≠ []) : cat u v ≠ [] := by
  unfold cat
  simp [h]
theorem cat_last {u v : List α} {a : α} (hu : u.getLast? = some a) (hv : v.head? = some a) : (cat u v).getLast? = v.getLast? := by
  unfold cat
  rw [split_head hv]
  cases h : v.tail with
  | nil => simp [hu]
  | cons b r =>
    rw [List.tail_cons, List.getLast?_append, List.getLast?_cons_cons, List.getLast?_eq_some_getLast (List.cons_ne_nil _ _)]
    rfl
theorem cat_head {u v : List α} (h : u ≠ []) : (cat u v).head? = u.head? := by
  cases u with
  | nil => exact absurd rfl h
  | cons x r => rfl
theorem cat_assoc {u v w : List α} (h : v ≠ []) : cat (cat u v) w = cat u (cat v w) := by
  unfold cat
  rw [List.append_assoc]
  congr 1
  cases v with
  | nil => exact absurd rfl h
  | cons x r => rfl
theorem cat_rev {u v : List α} {a : α} (hu : u.getLast? = some a) (hv : v.head? = some a) : (cat u v).reverse = cat v.reverse u.reverse := by
  obtain ⟨s, rfl⟩ := split_last hu
  rw [split_head hv]
  unfold cat
  simp
theorem shr_back {u : List α} {a : α} (h : u.head? = some a) : shr (cat u u.reverse) = [a] := by
  have e := split_head h
  have := shr_pal ([] : List α) [] a u.tail.length u.tail rfl
  rw [← e] at this
  unfold cat
  simpa [shr, push] using this
end KM

/-! G14: walks to all that hangs together with a room. -/
namespace G
open PySem PySem.Spec L2 PyProof.Rows DL
theorem mem_others {doors : List (Str × Str)} {a b : Str} : b ∈ others doors a ↔ ∃ e ∈ doors, (e.1 = a ∧ e.2 = b) ∨ (e.1 ≠ a ∧ e.2 = a ∧ e.1 = b) := by
  unfold others hasR oth
  simp only [List.mem_map, List.mem_filter]
  constructor
  · rintro ⟨e, ⟨he, h⟩, hb⟩
    refine ⟨e, he, ?_⟩
    by_cases c : e.1 = a
    · rw [if_pos c] at hb; exact .inl ⟨c, hb⟩
    · rw [if_neg c] at hb
      have : e.2 = a := by simpa [c] using h
      exact .inr ⟨c, this, hb⟩
  · rintro ⟨e, he, h⟩
    rcases h with ⟨rfl, rfl⟩ | ⟨c, rfl, rfl⟩
    · exact ⟨e, ⟨he, by simp⟩, by rw [if_pos rfl]⟩
    · exact ⟨e, ⟨he, by simp⟩, by rw [if_neg c]⟩
theorem others_symm {doors : List (Str × Str)} {a b : Str} (h : b ∈ others doors a) : a ∈ others doors b := by
  obtain ⟨e, he, h⟩ := mem_others.mp h
  refine mem_others.mpr ⟨e, he, ?_⟩
  rcases h with ⟨rfl, rfl⟩ | ⟨c, rfl, rfl⟩
  · by_cases c : e.1 = e.2
    · exact .inl ⟨c, c.symm⟩
    · exact .inr ⟨c, rfl, rfl⟩
  · exact .inl ⟨rfl, rfl⟩
theorem Wk.rev {doors : List (Str × Str)} {xs : List Str} (h : Wk doors xs) : Wk doors xs.reverse := by
  intro i a b h1 h2
  have hl := (List.getElem?_eq_some_iff.mp h2).1
  rw [List.length_reverse] at hl
  rw [List.getElem?_reverse (by omega)] at h1 h2
  refine others_symm (h (xs.length - 1 - (i + 1)) b a h2 ?_)
  rw [← h1]; congr 1; omega
theorem Wk.cat {doors : List (Str × Str)} {u v : List Str} {m : Str} (hu : Wk doors u) (hv : Wk doors v) (h1 : u.getLast? = some m) (h2 : v.head? = some m) : Wk doors (KM.cat u v) := by
  obtain ⟨s, rfl⟩ := KM.split_last h1
  have e : KM.cat (s ++ [m]) v = s ++ v := by
    unfold KM.cat
    conv => rhs; rw [KM.split_head h2]
    simp
  rw [e]
  intro i a b e1 e2
  by_cases c : i + 1 ≤ s.length
  · refine hu i a b ?_ ?_
    · rw [List.getElem?_append_left (by omega)] at e1 ⊢; exact e1
    · by_cases c2 : i + 1 = s.length
      · rw [List.getElem?_append_right (by omega)] at e2 ⊢
        have : i + 1 - s.length = 0 := by omega
        rw [this] at e2 ⊢
        rw [List.head?_eq_getElem?] at h2
        rw [h2] at e2
        exact e2
      · rw [List.getElem?_append_left (by omega)] at e2 ⊢; exact e2
  · rw [List.getElem?_append_right (by omega)] at e1 e2
    refine hv (i - s.length) a b e1 ?_
    rw [← e2]; congr 1; omega
theorem Wk.one (doors : List (Str × Str)) (x : Str) : Wk doors [x] := fun i a b h1 h2 => by simp at h2
/-- a dict of walks -/
def dk (fd : List (Str × List Str)) : List (Key × D) := fd.map fun e => (.inr e.1, tS e.2)
theorem look_dk : ∀ (fd : List (Str × List Str)) (x : Str), lookG (dk fd) (.inr x) = (fd.find? fun e => decide (e.1 = x)).map fun e => tS e.2
  | [], x => rfl
  | (k, w) :: fd, x => by
    show (match decide ((Sum.inr k : Key) = .inr x) with | true => some (tS w) | false => lookG (dk fd) (.inr x)) = _
    rw [List.find?_cons]
    by_cases h : k = x
    · subst h; simp
    · rw [decide_eq_false (fun e => h (Sum.inr.inj e)), decide_eq_false h]
      exact look_dk fd x
theorem look_in {fd : List (Str × List Str)} {i : Nat} {e : Str × List Str} (nd : (fd.map (·.1)).Nodup) (h : fd[i]? = some e) : lookG (dk fd) (.inr e.1) = some (tS e.2) := by
  rw [look_dk]
  have key : ∀ (fd : List (Str × List Str)) (i : Nat), (fd.map (·.1)).Nodup → fd[i]? = some e → (fd.find? fun q => decide (q.1 = e.1)) = some e := by
    intro fd
    induction fd with
    | nil => intro i _ h; cases h
    | cons q fd ih =>
      intro i nd h
      rw [List.find?_cons]
      cases i with
      | zero =>
        cases h
        rw [decide_eq_true rfl]
      | succ i =>
        rw [List.map_cons, List.nodup_cons] at nd
        have hm : e.1 ∈ fd.map (·.1) := List.mem_map.mpr ⟨e, List.mem_of_getElem? h, rfl⟩
        rw [decide_eq_false (fun (z : q.1 = e.1) => nd.1 (z ▸ hm))]
        exact ih i nd.2 h
  rw [key fd i nd h]
  rfl
theorem has_dk {fd : List (Str × List Str)} {x : Str} : (lookG (dk fd) (.inr x)).isSome = decide (x ∈ fd.map (·.1)) := by
  rw [look_dk, Option.isSome_map, Bool.eq_iff_iff, List.find?_isSome, decide_eq_true_eq, List.mem_map]
  constructor
  · rintro ⟨e, he, h⟩
    exact ⟨e, he, of_decide_eq_true h⟩
  · rintro ⟨e, he, h⟩
    exact ⟨e, he, decide_eq_true h⟩
theorem put_dk {fd : List (Str × List Str)} {x : Str} {w : List Str} (h : x ∉ fd.map (·.1)) : putG (dk fd) (.inr x) (tS w) = dk (fd ++ [(x, w)]) := by
  unfold putG
  rw [if_neg]
  · unfold dk; simp
  · intro hc
    obtain ⟨kv, h1, h2⟩ := List.any_eq_true.mp hc
    obtain ⟨e, he, rfl⟩ := List.mem_map.mp h1
    have := of_decide_eq_true h2
    exact h (List.mem_map.mpr ⟨e, he, Sum.inr.inj this⟩)
/-- all that may be come to -/
def ends (doors : List (Str × Str)) (b : Str) : List Str := b :: doors.flatMap fun e => [e.1, e.2]
theorem ends_len (doors : List (Str × Str)) (b : Str) : (ends doors b).length = 1 + 2 * doors.length := by
  unfold ends
  rw [List.length_cons]
  have : (doors.flatMap fun e => [e.1, e.2]).length = 2 * doors.length := by
    induction doors with
    | nil => rfl
    | cons d ds ih => rw [List.flatMap_cons, List.length_append, ih, List.length_cons]; simp; omega
  omega
theorem others_ends {doors : List (Str × Str)} {a b x : Str} (h : x ∈ others doors a) : x ∈ ends doors b := by
  obtain ⟨e, he, h⟩ := mem_others.mp h
  unfold ends
  refine List.mem_cons_of_mem _ (List.mem_flatMap.mpr ⟨e, he, ?_⟩)
  rcases h with ⟨_, rfl⟩ | ⟨_, _, rfl⟩ <;> simp
theorem nodup_len {l m : List Str} (nd : l.Nodup) (h : ∀ x ∈ l, x ∈ m) : l.length ≤ m.length := by
  induction l generalizing m with
  | nil => simp
  | cons x l ih =>
    rw [List.nodup_cons] at nd
    have hx := h x List.mem_cons_self
    have := ih (m := m.erase x) nd.2 fun y hy => by
      have hne : y ≠ x := fun e => nd.1 (e ▸ hy)
      exact (List.mem_erase_of_ne hne).mpr (h y (List.mem_cons_of_mem _ hy))
    rw [List.length_erase_of_mem hx] at this
    have : 0 < m.length := List.length_pos_of_mem hx
    rw [List.length_cons]
    omega
/-- what is known on the way -/
structure Rch (doors : List (Str × Str)) (b : Str) (fd : List (Str × List Str)) : Prop where
  nd : (fd.map (·.1)).Nodup
  sub : ∀ e ∈ fd, e.1 ∈ ends doors b
  hd : ∀ e ∈ fd, e.2.head? = some b
  lt : ∀ e ∈ fd, e.2.getLast? = some e.1
  wk : ∀ e ∈ fd, Wk doors e.2
  ln : ∀ (i : Nat) (e : Str × List Str), fd[i]? = some e → e.2.length ≤ i + 1
theorem Rch.len {doors : List (Str × Str)} {b : Str} {fd : List (Str × List Str)} (h : Rch doors b fd) : fd.length ≤ 1 + 2 * doors.length := by
  have := nodup_len h.nd (m := ends doors b) fun x hx => by
    obtain ⟨e, he, rfl⟩ := List.mem_map.mp hx
    exact h.sub e he
  rw [List.length_map, ends_len] at this
  exact this
theorem Rch.start (doors : List (Str × Str)) (b : Str) : Rch doors b [(b, [b])] := by
  refine ⟨by simp, fun e he => ?_, fun e he => ?_, fun e he => ?_, fun e he => ?_, fun i e he => ?_⟩
  · rw [List.mem_singleton.mp he]; exact List.mem_cons_self
  · rw [List.mem_singleton.mp he]; rfl
  · rw [List.mem_singleton.mp he]; rfl
  · rw [List.mem_singleton.mp he]; exact Wk.one _ _
  · have := List.mem_of_getElem? he
    rw [List.mem_singleton.mp this]; simp
theorem Rch.snoc {doors : List (Str × Str)} {b x : Str} {fd : List (Str × List Str)} (h : Rch doors b fd) {i : Nat} {e : Str × List Str} (he : fd[i]? = some e) (hx : x ∈ others doors e.1) (hn : x ∉ fd.map (·.1)) : Rch doors b (fd ++ [(x, e.2 ++ [x])]) := by
  have hm := List.mem_of_getElem? he
  have hlt := (List.getElem?_eq_some_iff.mp he).1
  have both : ∀ {P : Str × List Str → Prop}, (∀ q ∈ fd, P q) → P (x, e.2 ++ [x]) → ∀ q ∈ fd ++ [(x, e.2 ++ [x])], P q := fun h1 h2 q hq => by
    rcases List.mem_append.mp hq with hq | hq
    · exact h1 q hq
    · rw [List.mem_singleton.mp hq]; exact h2
  refine ⟨?_, both h.sub (others_ends hx), both h.hd ?_, both h.lt ?_, both h.wk ((h.wk e hm).snoc (h.lt e hm) hx), fun j q hq => ?_⟩
  · rw [List.map_append, List.nodup_append]
    exact ⟨h.nd, by simp, fun a ha c hc => by
      rw [List.map_singleton, List.mem_singleton] at hc
      subst hc
      exact fun z => hn (z ▸ ha)⟩
  · show (e.2 ++ [x]).head? = _
    have := h.hd e hm
    cases hc : e.2 with
    | nil => rw [hc] at this; cases this
    | cons y r => rw [hc] at this; exact this
  · show (e.2 ++ [x]).getLast? = some x
    simp
  · have hl := (List.getElem?_eq_some_iff.mp hq).1
    rw [List.length_append, List.length_singleton] at hl
    by_cases c : j < fd.length
    · rw [List.getElem?_append_left c] at hq
      exact h.ln j q hq
    · rw [List.getElem?_append_right (by omega)] at hq
      have : j - fd.length = 0 := by omega
      rw [this] at hq
      cases hq
      have := h.ln i e he
      show (e.2 ++ [x]).length ≤ _
      rw [List.length_append, List.length_singleton]
      omega
def N_law_reach : List Str := ["_law_yard_here", "_law_begin", "_law_found", "_law_line", "_law_at", "_law_room"]
@[irreducible] def b_law_reach_1 : List Sx := [
  .frz 2,
  .ret (.v 2)]
@[irreducible] def b_law_reach_2 : List Sx := [
  .asg 4 (.pr (.bin .Add false) [.v 4, .int 1])]
def b_law_reach : List Sx := (
  .par [2, 3, 4] [.dk1 true (.v 1) (.pr (.tup false) [.v 1]), .pr (.lst true) [.v 1], .int 0] ::
  .whl (.pr (.cmp .Lt) [.v 4, .pr (.bi .len false) [.v 3]]) (
    .fors (.n 5) .seq [.pr (.call "_law_near" []) [.v 0, .pr .idx [.v 3, .v 4]]] [
      .ite (.pr (.cmp .NotIn) [.v 5, .v 2]) [
        .sub (.v 2) (.v 5) (.pr (.bin .Add false) [.pr .idx [.v 2, .pr .idx [.v 3, .v 4]], .pr (.tup false) [.v 5]]),
        .exp (.me .append false (.v 3) [.v 5])] []] :: b_law_reach_2) :: b_law_reach_1)
def spReach : DL.Spec := pSp (fun i : List Str × List (Str × Str) × Str => [yardD i.1 i.2.1, .str i.2.2]) (fun i => i.2.1.length ≤ 1000) (fun i r => ∃ fd, r = .dct (dk fd) ∧ Rch i.2.1 i.2.2 fd) noE
theorem y_reach {sg : Sg} (hs : sg.fn "_law_reach" 2 = some spReach) {M : MM} {Q : W → MM → Prop} {R : XR} (rooms : List Str) (doors : List (Str × Str)) (b : Str) (hd : doors.length ≤ 1000) (hq : ∀ fd, Rch doors b fd → Q (.d (.dct (dk fd))) M) : lendO (sg.fn "_law_reach" 2) [] [.d (yardD rooms doors), .d (.str b)] M Q R := by
  rw [hs]
  exact use_q (rooms, doors, b) hd (fun r ⟨fd, h1, h2⟩ => by rw [h1]; exact hq fd h2) fun _ _ h => h.elim
theorem s_reach (sg : Sg) (hn : sg.fn "_law_near" 2 = some spNear) (ws M Q R) (h : spReach ws M Q R) : ws.length = 2 ∧ wSs sg b_law_reach (G0 N_law_reach.length ws) M (bodyE true M.length Q R) := by
  obtain ⟨⟨rooms, doors, b⟩, rfl, rfl, hd, hq, _⟩ := h
  refine ⟨rfl, ?_⟩
  dsimp only at hd hq
  have hsz := sizeLine_eq
  generalize hE : bodyE true _ Q R = E
  repeat ((conv => whnf); first | (refine And.intro (by first | omega | exact ok_fn (by assumption) | exact ok_xc (by assumption) | (constructor <;> omega) | (simp only [List.length_map, List.length_range, List.length_append, List.length_cons, List.length_nil] <;> omega) | exact ⟨rfl, by decide, by decide +kernel⟩ | rfl) ?_) | (refine optK_xc (by assumption) ?_) | (refine optK_sub (by assumption) ?_))
  conv => whnf
  refine goWhl_ex (fun k Γ M => ∃ (fd : List (Str × List Str)) (at_ : Nat) (z5 : Option W), Γ = [some (.d (yardD rooms doors)), some (.d (.str b)), some (.ref 0), some (.ref 1), some (.d (.int at_)), z5] ∧ M = [some (.dct (dk fd)), some (.lst ((fd.map (·.1)).map .str))] ∧ Rch doors b fd ∧ k + at_ = 2001 ∧ at_ ≤ fd.length) 2001 _ _ ⟨[(b, [b])], 0, none, rfl, rfl, Rch.start doors b, rfl, by simp⟩ ?_
  rintro k Γ M E' ⟨fd, at_, z5, rfl, rfl, hr, hk, hat⟩ hnx _ _ _ _
  have hfl := hr.len
  conv => whnf
  refine ifB_d (fun c => ?_) (fun c => ?_)
  · have hc : at_ < fd.length := by simpa using c
    obtain ⟨e, he⟩ : ∃ e, fd[at_]? = some e := ⟨_, List.getElem?_eq_getElem hc⟩
    have hat1 : atI ((fd.map (·.1)).map D.str) (at_ : Int) = some (.str e.1) := atI_n (j := at_) (by rw [List.getElem?_map, List.getElem?_map, he]; rfl) (.inl rfl)
    repeat ((conv => whnf); first | (refine And.intro (by first | omega | exact ok_fn (by assumption) | exact ok_xc (by assumption) | (constructor <;> omega) | (simp only [List.length_map, List.length_range, List.length_append, List.length_cons, List.length_nil] <;> omega) | exact ⟨rfl, by decide, by decide +kernel⟩ | rfl) ?_) | (refine optK_xc (by assumption) ?_) | (refine optK_sub (by assumption) ?_))
    conv => whnf
    refine optK_some hat1 ?_
    conv => whnf
    refine x_near hn rooms doors e.1 hd fun l hp => ?_
    conv => whnf
    refine goFor_as D.str (fun rest Γ M => ∃ (fd2 : List (Str × List Str)) (z5 : Option W), Γ = [some (.d (yardD rooms doors)), some (.d (.str b)), some (.ref 0), some (.ref 1), some (.d (.int at_)), z5] ∧ M = [some (.dct (dk fd2)), some (.lst ((fd2.map (·.1)).map .str))] ∧ Rch doors b fd2 ∧ fd2[at_]? = some e ∧ ∀ x ∈ rest, x ∈ others doors e.1) ?_ ?_ l _ _ ⟨fd, _, rfl, rfl, hr, he, fun x hx => hp.mem_iff.mp hx⟩
    · rintro Γ M ⟨fd2, z5, rfl, rfl, hr2, he2, _⟩
      have hl2 := (List.getElem?_eq_some_iff.mp he2).1
      unfold b_law_reach_2
      repeat ((conv => whnf); first | (refine And.intro (by first | omega | exact ok_fn (by assumption) | exact ok_xc (by assumption) | (constructor <;> omega) | (simp only [List.length_map, List.length_range, List.length_append, List.length_cons, List.length_nil] <;> omega) | exact ⟨rfl, by decide, by decide +kernel⟩ | rfl) ?_) | (refine optK_xc (by assumption) ?_) | (refine optK_sub (by assumption) ?_))
      conv => whnf
      refine hnx (k - 1) _ _ (by have := hr2.len; omega) ⟨fd2, at_ + 1, _, rfl, rfl, hr2, by omega, by omega⟩
    · rintro x rest Γ M E2 ⟨fd2, z5, rfl, rfl, hr2, he2, hx⟩ hnx2 _ _ _ _
      have hl2 := (List.getElem?_eq_some_iff.mp he2).1
      have hxo := hx x List.mem_cons_self
      have hfl2 := hr2.len
      have hat2 : atI ((fd2.map (·.1)).map D.str) (at_ : Int) = some (.str e.1) := atI_n (j := at_) (by rw [List.getElem?_map, List.getElem?_map, he2]; rfl) (.inl rfl)
      conv => whnf
      show ifB (!(lookG (dk fd2) (.inr x)).isSome) _ _
      rw [has_dk]
      refine ifB_n (ifB_d (fun c2 => ?_) (fun c2 => ?_))
      · conv => whnf
        exact hnx2 _ _ ⟨fd2, _, rfl, rfl, hr2, he2, fun y hy => hx y (List.mem_cons_of_mem _ hy)⟩
      · have hw := hr2.ln at_ e he2
        conv => whnf
        refine optK_some hat2 ?_
        conv => whnf
        show match lookG (dk fd2) (.inr e.1) with | some d => _ | none => _
        rw [look_in hr2.nd he2]
        conv => whnf
        refine ⟨by simp; omega, ?_⟩
        conv => whnf
        refine ⟨by unfold dk; rw [List.length_map]; omega, ?_⟩
        conv => whnf
        refine ⟨by simp; omega, ?_⟩
        conv => whnf
        have hpt : putG (dk fd2) (.inr x) (.tup (e.2.map D.str ++ [D.str x])) = dk (fd2 ++ [(x, e.2 ++ [x])]) := by
          have := put_dk (w := e.2 ++ [x]) c2
          unfold tS at this
          rw [List.map_append] at this
          exact this
        refine hnx2 _ _ ⟨fd2 ++ [(x, e.2 ++ [x])], _, rfl, ?_, hr2.snoc he2 hxo c2, ?_, fun y hy => hx y (List.mem_cons_of_mem _ hy)⟩
        · show [some (MO.dct (putG (dk fd2) (.inr x) (.tup (e.2.map D.str ++ [D.str x])))), some (MO.lst (((fd2.map (·.1)).map .str) ++ [.str x]))] = _
          rw [hpt, List.map_append, List.map_append]
          rfl
        · rw [List.getElem?_append_left hl2]; exact he2
  · unfold b_law_reach_1
    subst hE
    conv => whnf
    exact hq _ ⟨fd, rfl, hr⟩
end G

/-! G15: walks that come back. -/
namespace G
open PySem PySem.Spec L2 PyProof.Rows DL
theorem cutG_map {α β : Type} (f : α → β) (xs : List α) (a b : Option Int) : cutG (xs.map f) a b = (cutG xs a b).map f := by
  unfold cutG
  rw [List.length_map, List.map_take, List.map_drop]
theorem cutG_init {α : Type} {s : List α} {m : α} : cutG (s ++ [m]) none (some (-1)) = s := by
  have e : HT.sIx (s ++ [m]).length (s ++ [m]).length (some (-1)) = s.length := by
    show (if (-1 : Int) < 0 then ((-1 : Int) + ((s ++ [m]).length : Int)).toNat else min (-1 : Int).toNat (s ++ [m]).length) = _
    rw [if_pos (by omega), List.length_append, List.length_singleton]
    omega
  have e2 : HT.sIx (s ++ [m]).length 0 none = 0 := rfl
  unfold cutG
  rw [e, e2, List.drop_zero, Nat.sub_zero, List.take_left]
theorem cutG_end {α : Type} {s : List α} {m : α} : cutG (s ++ [m]) (some (-1)) none = [m] := by
  have e : HT.sIx (s ++ [m]).length 0 (some (-1)) = s.length := by
    show (if (-1 : Int) < 0 then ((-1 : Int) + ((s ++ [m]).length : Int)).toNat else min (-1 : Int).toNat (s ++ [m]).length) = _
    rw [if_pos (by omega), List.length_append, List.length_singleton]
    omega
  unfold cutG
  rw [e, HT.sIx_none, List.drop_left]
  exact List.take_of_length_le (by simp)
theorem idx_strs {xs : List Str} {x : Str} (h : (xs.any (· == x)) = true) : ∃ j, (xs.map D.str).findIdx? (fun z => eqF z (.str x)) = some j ∧ xs[j]? = some x := by
  have e : (xs.map D.str).findIdx? (fun z => eqF z (.str x)) = xs.findIdx? (· == x) := by rw [List.findIdx?_map]; rfl
  rw [e]
  cases h2 : xs.findIdx? (· == x) with
  | none =>
    rw [List.findIdx?_eq_none_iff] at h2
    obtain ⟨y, h3, h4⟩ := List.any_eq_true.mp h
    rw [h2 y h3] at h4
    cases h4
  | some j =>
    obtain ⟨h3, h4, _⟩ := List.findIdx?_eq_some_iff_getElem.mp h2
    refine ⟨j, rfl, ?_⟩
    rw [List.getElem?_eq_getElem h3, eq_of_beq h4]
theorem Wk.drop {doors : List (Str × Str)} {xs : List Str} (h : Wk doors xs) (j : Nat) : Wk doors (xs.drop j) := fun i a b h1 h2 => by
  rw [List.getElem?_drop] at h1 h2
  exact h (j + i) a b h1 (by rw [← h2]; congr 1)
/-- once round -/
structure Rnd (doors : List (Str × Str)) (s : List Str) (h : Str) : Prop where
  hd : s.head? = some h
  wk : Wk doors (s ++ [h])
  ln : s.length ≤ 99
def N_law_ringed : List Str := ["_law_pen_here", "_law_yard_here", "_law_road", "_law_some", "_law_room"]
@[irreducible] def b_law_ringed_1 : List Sx := [
  .ret (.pr (.tup false) [])]
@[irreducible] def b_law_ringed_2 : List Sx := [
  .exp (.me .append false (.v 2) [.v 4])]
@[irreducible] def b_law_ringed_3 : List Sx := (
  .asg 4 (.pr (.call "_law_pick" []) [.v 0, .v 3]) ::
  .ite (.pr (.cmp .In) [.v 4, .v 2]) [
    .ret (.pr (.bi .tuple false) [.pr (.bin .Add false) [.pr (.slc true false false) [.v 2, .me .index false (.v 2) [.v 4]], .pr (.lst false) [.v 4]]])] [] :: b_law_ringed_2)
def b_law_ringed : List Sx := (
  .asg 2 (.pr (.lst true) [.pr (.call "_law_pick" []) [.v 0, .pr .idx [.v 1, .str "rooms"]]]) ::
  .whl (.pr (.cmp .Lt) [.pr (.bi .len false) [.v 2], .int 99]) (
    .asg 3 (.lc (.n 4) [4] .seq [.pr (.call "_law_near" []) [.v 1, .pr .idx [.v 2, .pr .neg [.int 1]]]] [.pr (.cmp .NotIn) [.v 4, .sl2 false (.v 2) (.pr .neg [.int 2]) (.pr .neg [.int 1])]] (.v 4) false) ::
    .ite (.pr (.cmp .Eq) [.v 3, .pr (.lst false) []]) [
      .ret (.pr (.tup false) [])] [] :: b_law_ringed_3) :: b_law_ringed_1)
def spRinged : DL.Spec := pnSp (fun i : List Str × List (Str × Str) => [yardD i.1 i.2]) (fun _ => 200) (fun i => 1 ≤ i.1.length ∧ i.1.length ≤ 1000 ∧ i.2.length ≤ 1000) (fun i r => r = tS [] ∨ ∃ s h, r = tS (s ++ [h]) ∧ Rnd i.2 s h)
theorem y_ringed {sg : Sg} (hs : sg.fn "_law_ringed" 2 = some spRinged) {M : MM} {Q : W → MM → Prop} {R : XR} (j : Nat) (p : Pen) (N : Int) (rooms : List Str) (doors : List (Str × Str)) (hM : M[j]? = some (some (penMO p))) (h0 : PB N p) (hk : N + 200 < 2 ^ 61) (h1 : 1 ≤ rooms.length) (h2 : rooms.length ≤ 1000) (hd : doors.length ≤ 1000)
    (hq1 : ∀ p', PB (N + 200) p' → Q (.d (tS [])) (M.set j (some (penMO p')))) (hq2 : ∀ p' s h, PB (N + 200) p' → Rnd doors s h → Q (.d (tS (s ++ [h]))) (M.set j (some (penMO p')))) : lendO (sg.fn "_law_ringed" 2) [] [.ref j, .d (yardD rooms doors)] M Q R := by
  rw [hs]
  refine use_n j p N (rooms, doors) hM h0 hk ⟨h1, h2, hd⟩ fun p' r hp hr => ?_
  rcases hr with rfl | ⟨s, h, rfl, hr⟩
  · exact hq1 p' hp
  · exact hq2 p' s h hp hr
theorem s_ringed (sg : Sg) (hn : sg.fn "_law_near" 2 = some spNear) (hk : sg.fn "_law_pick" 2 = some spPick) (ws M Q R) (h : spRinged ws M Q R) : ws.length = 2 ∧ wSs sg b_law_ringed (G0 N_law_ringed.length ws) M (bodyE true M.length Q R) := by
  obtain ⟨p, ⟨rooms, doors⟩, rfl, rfl, h0, hb, ⟨hr1, hr2, hd⟩, hq⟩ := h
  refine ⟨rfl, ?_⟩
  dsimp only at hr1 hr2 hd hq
  have hb : p.at_ + 200 < 2 ^ 61 := hb
  have hq : ∀ p' r, PB (p.at_ + 200) p' → (r = tS [] ∨ ∃ s h, r = tS (s ++ [h]) ∧ Rnd doors s h) → Q (.d r) [some (penMO p')] := hq
  have hsz := sizeLine_eq
  have hp0 : PB p.at_ p := ⟨h0, Int.le_refl _⟩
  generalize hE : bodyE true _ Q R = E
  repeat ((conv => whnf); first | (refine And.intro (by first | omega | exact ok_fn (by assumption) | exact ok_xc (by assumption) | (constructor <;> omega) | (simp only [List.length_map, List.length_range, List.length_append, List.length_cons, List.length_nil] <;> omega) | exact ⟨rfl, by decide, by decide +kernel⟩ | rfl) ?_) | (refine optK_xc (by assumption) ?_) | (refine optK_sub (by assumption) ?_))
  conv => whnf
  refine y_pick hk 0 p _ (.lst (rooms.map .str)) _ rfl hp0 (by omega) (.inl rfl) (by rw [List.length_map]; omega) (by rw [List.length_map]; omega) fun p1 r h1 hr => ?_
  obtain ⟨b, hb, rfl⟩ := List.mem_map.mp hr
  repeat ((conv => whnf); first | (refine And.intro (by first | omega | exact ok_fn (by assumption) | exact ok_xc (by assumption) | (constructor <;> omega) | (simp only [List.length_map, List.length_range, List.length_append, List.length_cons, List.length_nil] <;> omega) | exact ⟨rfl, by decide, by decide +kernel⟩ | rfl) ?_) | (refine optK_xc (by assumption) ?_) | (refine optK_sub (by assumption) ?_))
  conv => whnf
  refine goWhl_ex (fun k Γ M => ∃ (p2 : Pen) (xs : List Str) (z3 z4 : Option W), Γ = [some (.ref 0), some (.d (yardD rooms doors)), some (.ref 1), z3, z4] ∧ M = [some (penMO p2), some (.lst (xs.map .str))] ∧ PB (p.at_ + xs.length) p2 ∧ k + xs.length = 101 ∧ xs ≠ [] ∧ Wk doors xs) 100 _ _ ⟨p1, [b], none, none, rfl, rfl, h1, rfl, by simp, Wk.one _ _⟩ ?_
  rintro k Γ M E' ⟨p2, xs, z3, z4, rfl, rfl, h2, hkx, hne, hwk⟩ hnx _ _ hrt _
  conv => whnf
  refine ifB_d (fun c => ?_) (fun c => ?_)
  · have hc : xs.length < 99 := by rw [List.length_map] at c; omega
    obtain ⟨last, hlast⟩ := last_ex hne
    repeat ((conv => whnf); first | (refine And.intro (by first | omega | exact ok_fn (by assumption) | exact ok_xc (by assumption) | (constructor <;> omega) | (simp only [List.length_map, List.length_range, List.length_append, List.length_cons, List.length_nil] <;> omega) | exact ⟨rfl, by decide, by decide +kernel⟩ | rfl) ?_) | (refine optK_xc (by assumption) ?_) | (refine optK_sub (by assumption) ?_))
    conv => whnf
    refine optK_some (at_last hlast) ?_
    conv => whnf
    refine x_near hn rooms doors last hd fun l hp => ?_
    have hll : l.length ≤ 1000 := by
      rw [hp.length_eq]; unfold others; rw [List.length_map]; exact Nat.le_trans (List.length_filter_le _ _) hd
    repeat ((conv => whnf); first | (refine And.intro (by first | omega | exact ok_fn (by assumption) | exact ok_xc (by assumption) | (constructor <;> omega) | (simp only [List.length_map, List.length_range, List.length_append, List.length_cons, List.length_nil] <;> omega) | exact ⟨rfl, by decide, by decide +kernel⟩ | rfl) ?_) | (refine optK_xc (by assumption) ?_) | (refine optK_sub (by assumption) ?_))
    conv => whnf
    refine goLc_fm0 D.str D.str (fun x => if (cutG xs (some (-2)) (some (-1))).any (· == x) then none else some x) l (fun x _ K hK => ?_) ?_
    · conv => whnf
      rw [cutG_map]
      refine in_strs ?_
      refine ifB_n (ifB_c (fun e => ?_) (fun e => ?_))
      · rw [if_pos e] at hK
        conv => whnf
        exact hK
      · rw [if_neg (by rw [e]; exact Bool.false_ne_true)] at hK
        conv => whnf
        exact hK
    · generalize hm : l.filterMap _ = m
      have hmm : ∀ x ∈ m, x ∈ others doors last := by
        intro x hx
        rw [← hm] at hx
        obtain ⟨y, hy, hyx⟩ := List.mem_filterMap.mp hx
        split at hyx
        · cases hyx
        · cases hyx
          exact hp.mem_iff.mp hy
      have hml : m.length ≤ 1000 := by
        rw [← hm]
        exact Nat.le_trans (List.length_filterMap_le _ _) hll
      conv => whnf
      refine eq_strs_nil ?_
      conv => whnf
      cases m with
      | nil =>
        conv => whnf
        show E'.rt _ _
        rw [hrt]
        subst hE
        conv => whnf
        exact hq _ _ (h2.le (by omega)) (.inl rfl)
      | cons y m =>
        conv => whnf
        unfold b_law_ringed_3
        repeat ((conv => whnf); first | (refine And.intro (by first | omega | exact ok_fn (by assumption) | exact ok_xc (by assumption) | (constructor <;> omega) | (simp only [List.length_map, List.length_range, List.length_append, List.length_cons, List.length_nil] <;> omega) | exact ⟨rfl, by decide, by decide +kernel⟩ | rfl) ?_) | (refine optK_xc (by assumption) ?_) | (refine optK_sub (by assumption) ?_))
        conv => whnf
        refine y_pick hk 0 p2 _ (.lst ((y :: m).map .str)) _ rfl h2 (by omega) (.inl rfl) (by simp) (by rw [List.length_map]; omega) fun p3 r h3 hr => ?_
        obtain ⟨w, hw, rfl⟩ := List.mem_map.mp hr
        have hwo := hmm w hw
        have hwk2 : Wk doors (xs ++ [w]) := hwk.snoc hlast hwo
        conv => whnf
        refine in_strs ?_
        refine ifB_c (fun e => ?_) (fun e => ?_)
        · obtain ⟨j, hj1, hj2⟩ := idx_strs e
          have hjl := (List.getElem?_eq_some_iff.mp hj2).1
          conv => whnf
          show match (xs.map D.str).all flatD with | true => (match List.findIdx? (fun z => eqF z (.str w)) (xs.map D.str) with | some j => _ | none => _) | false => _
          rw [flat_strs]
          show match List.findIdx? (fun z => eqF z (.str w)) (xs.map D.str) with | some j => _ | none => _
          rw [hj1]
          repeat ((conv => whnf); first | (refine And.intro (by first | omega | exact ok_fn (by assumption) | exact ok_xc (by assumption) | (constructor <;> omega) | (simp only [List.length_map, List.length_range, List.length_append, List.length_cons, List.length_nil] <;> omega) | exact ⟨rfl, by decide, by decide +kernel⟩ | rfl) ?_) | (refine optK_xc (by assumption) ?_) | (refine optK_sub (by assumption) ?_))
          conv => whnf
          have ec : cutG (xs.map D.str) (some (j : Int)) none = (xs.drop j).map .str := by
            rw [cutG_from _ (by omega)]
            rw [Int.toNat_natCast, List.map_drop]
          rw [ec]
          refine ⟨by simp; omega, ?_⟩
          conv => whnf
          show E'.rt _ _
          rw [hrt]
          subst hE
          have e5 : (xs.drop j).map D.str ++ [D.str w] = (xs.drop j ++ [w]).map .str := by rw [List.map_append]; rfl
          rw [e5]
          conv => whnf
          refine hq _ _ (h3.le (by omega)) (.inr ⟨xs.drop j, w, rfl, ?_, ?_, ?_⟩)
          · rw [List.head?_drop]; exact hj2
          · have := hwk2.drop j
            rwa [List.drop_append_of_le_length (by omega)] at this
          · rw [List.length_drop]; omega
        · conv => whnf
          unfold b_law_ringed_2
          repeat ((conv => whnf); first | (refine And.intro (by first | omega | exact ok_fn (by assumption) | exact ok_xc (by assumption) | (constructor <;> omega) | (simp only [List.length_map, List.length_range, List.length_append, List.length_cons, List.length_nil] <;> omega) | exact ⟨rfl, by decide, by decide +kernel⟩ | rfl) ?_) | (refine optK_xc (by assumption) ?_) | (refine optK_sub (by assumption) ?_))
          conv => whnf
          refine hnx (k - 1) _ _ (by omega) ⟨p3, xs ++ [w], _, _, rfl, by rw [List.map_append]; rfl, ?_, ?_, by simp, hwk2⟩
          · rw [List.length_append]; exact h3.le (by simp; omega)
          · rw [List.length_append]; simp; omega
  · unfold b_law_ringed_1
    subst hE
    conv => whnf
    exact hq _ _ (h2.le (by omega)) (.inl rfl)
end G

/-! G16: closed walks. -/
namespace G
open PySem PySem.Spec L2 PyProof.Rows DL
theorem Wk.pow {doors : List (Str × Str)} {s : List Str} {h : Str} (hr : s.head? = some h) (hw : Wk doors (s ++ [h])) : ∀ n, Wk doors ((List.replicate n s).flatten ++ [h]) ∧ ((List.replicate n s).flatten ++ [h]).head? = some h
  | 0 => ⟨Wk.one _ _, rfl⟩
  | n + 1 => by
    obtain ⟨h1, h2⟩ := Wk.pow hr hw n
    have e : (List.replicate (n + 1) s).flatten ++ [h] = s ++ ((List.replicate n s).flatten ++ [h]) := by
      rw [List.replicate_succ, List.flatten_cons, List.append_assoc]
    have e2 : s ++ ((List.replicate n s).flatten ++ [h]) = KM.cat (s ++ [h]) ((List.replicate n s).flatten ++ [h]) := by
      unfold KM.cat
      conv => lhs; rw [KM.split_head h2]
      simp
    rw [e]
    refine ⟨?_, ?_⟩
    · rw [e2]
      exact Wk.cat hw h1 (by simp) h2
    · rw [List.head?_append, hr]; rfl
theorem rep_map {α β : Type} (f : α → β) (n : Nat) (s : List α) : (List.replicate n (s.map f)).flatten = ((List.replicate n s).flatten).map f := by
  rw [List.map_flatten, List.map_replicate]
theorem rep_len {α : Type} (n : Nat) (s : List α) : (List.replicate n s).flatten.length = n * s.length := by
  simp [List.length_flatten]
/-- from b and back -/
structure Clo (doors : List (Str × Str)) (b : Str) (xs : List Str) : Prop where
  hd : xs.head? = some b
  lt : xs.getLast? = some b
  wk : Wk doors xs
theorem Clo.one (doors : List (Str × Str)) (b : Str) : Clo doors b [b] := ⟨rfl, rfl, Wk.one _ _⟩
theorem Clo.ne {doors : List (Str × Str)} {b : Str} {xs : List Str} (h : Clo doors b xs) : xs ≠ [] := by intro e; have := h.hd; rw [e] at this; cases this
theorem Clo.rev {doors : List (Str × Str)} {b : Str} {xs : List Str} (h : Clo doors b xs) : Clo doors b xs.reverse := ⟨by rw [List.head?_reverse]; exact h.lt, by rw [List.getLast?_reverse]; exact h.hd, h.wk.rev⟩
theorem cat_last2 {u v : List Str} {m a : Str} (h1 : u.getLast? = some m) (h2 : v.head? = some m) (h3 : v.getLast? = some a) : (KM.cat u v).getLast? = some a := by rw [KM.cat_last h1 h2]; exact h3
theorem cat_head2 {u v : List Str} {m : Str} (h1 : u.head? = some m) : (KM.cat u v).head? = some m := by rw [KM.cat_head (by intro e; rw [e] at h1; cases h1)]; exact h1
theorem Clo.cat {doors : List (Str × Str)} {b : Str} {xs ys : List Str} (h : Clo doors b xs) (h2 : Clo doors b ys) : Clo doors b (KM.cat xs ys) := ⟨cat_head2 h.hd, cat_last2 h.lt h2.hd h2.lt, h.wk.cat h2.wk h.lt h2.hd⟩
theorem Clo.by_ {doors : List (Str × Str)} {b h : Str} {found out road : List Str} (hf : Clo doors b found) (h1 : out.head? = some b) (h2 : out.getLast? = some h) (h3 : Wk doors out) (hr : road = [] ∨ Clo doors h road) : Clo doors b (found ++ out.tail ++ road.tail ++ out.reverse.tail) := by
  have hr1 : out.reverse.head? = some h := by rw [List.head?_reverse]; exact h2
  have hr2 : out.reverse.getLast? = some b := by rw [List.getLast?_reverse]; exact h1
  have a1 : Wk doors (KM.cat found out) := hf.wk.cat h3 hf.lt h1
  have a2 : (KM.cat found out).head? = some b := cat_head2 hf.hd
  have a3 : (KM.cat found out).getLast? = some h := cat_last2 hf.lt h1 h2
  rcases hr with rfl | hr
  · show Clo doors b (KM.cat found out ++ [] ++ out.reverse.tail)
    rw [List.append_nil]
    show Clo doors b (KM.cat (KM.cat found out) out.reverse)
    exact ⟨cat_head2 a2, cat_last2 a3 hr1 hr2, a1.cat h3.rev a3 hr1⟩
  · show Clo doors b (KM.cat (KM.cat (KM.cat found out) road) out.reverse)
    have b3 := cat_last2 a3 hr.hd hr.lt
    exact ⟨cat_head2 (cat_head2 a2), cat_last2 b3 hr1 hr2, (a1.cat hr.wk a3 hr.hd).cat h3.rev b3 hr1⟩
def N_law_closed : List Str := ["_law_pen_here", "_law_yard_here", "_law_begin", "_law_k", "_law_found", "_law_reach_here", "_law_road", "_law_out"]
@[irreducible] def b_law_closed_1 : List Sx := [
  .ret (.v 4)]
@[irreducible] def b_law_closed_2 : List Sx := [
  .asg 4 (.pr (.bin .Add false) [.pr (.bin .Add false) [.pr (.bin .Add false) [.v 4, .pr (.slc true false false) [.v 7, .int 1]], .pr (.slc true false false) [.v 6, .int 1]], .pr (.slc true false false) [.pr (.rev false) [.v 7], .int 1]])]
def b_law_closed : List Sx := (
  .par [4, 5] [.pr (.tup false) [.v 2], .pr (.call "_law_reach" []) [.v 1, .v 2]] ::
  .fors (.n 3) .rng [.pr (.call "_law_draw" []) [.v 0, .int 3]] (
    .par [6, 7] [.pr (.call "_law_ringed" []) [.v 0, .v 1], .pr (.call "_law_strolled" []) [.v 0, .v 1, .v 2, .pr (.call "_law_draw" []) [.v 0, .int 6]]] ::
    .ite (.and (.pr (.cmp .NotEq) [.v 6, .pr (.tup false) []]) (.pr (.cmp .In) [.pr .idx [.v 6, .int 0], .v 5])) [
      .par [7, 6] [.pr .idx [.v 5, .pr .idx [.v 6, .int 0]], .pr (.bin .Add false) [.pr (.bin .Mult false) [.pr (.slc false true false) [.v 6, .pr .neg [.int 1]], .pr (.bin .Add false) [.int 1, .pr (.call "_law_draw" []) [.v 0, .int 3]]], .pr (.slc true false false) [.v 6, .pr .neg [.int 1]]]],
      .asg 6 (.pr .idx [.pr (.lst false) [.v 6, .pr (.rev false) [.v 6]], .pr (.call "_law_draw" []) [.v 0, .int 2]])] [
      .asg 6 (.pr (.tup false) [])] :: b_law_closed_2) :: b_law_closed_1)
def spClosed : DL.Spec := pnSp (fun i : List Str × List (Str × Str) × Str => [yardD i.1 i.2.1, .str i.2.2]) (fun _ => 3000) (fun i => 1 ≤ i.1.length ∧ i.1.length ≤ 1000 ∧ i.2.1.length ≤ 1000) (fun i r => ∃ xs, r = tS xs ∧ Clo i.2.1 i.2.2 xs ∧ xs.length ≤ 9000)
theorem y_closed {sg : Sg} (hs : sg.fn "_law_closed" 3 = some spClosed) {M : MM} {Q : W → MM → Prop} {R : XR} (j : Nat) (p : Pen) (N : Int) (rooms : List Str) (doors : List (Str × Str)) (b : Str) (hM : M[j]? = some (some (penMO p))) (h0 : PB N p) (hk : N + 3000 < 2 ^ 61) (h1 : 1 ≤ rooms.length) (h2 : rooms.length ≤ 1000) (hd : doors.length ≤ 1000)
    (hq : ∀ p' xs, PB (N + 3000) p' → Clo doors b xs → xs.length ≤ 9000 → Q (.d (tS xs)) (M.set j (some (penMO p')))) : lendO (sg.fn "_law_closed" 3) [] [.ref j, .d (yardD rooms doors), .d (.str b)] M Q R := by
  rw [hs]
  refine use_n j p N (rooms, doors, b) hM h0 hk ⟨h1, h2, hd⟩ fun p' r hp ⟨xs, h3, h4, h5⟩ => ?_
  rw [h3]
  exact hq p' xs hp h4 h5
theorem t_closed_2 (sg : Sg) (E : DE) (p : Pen) (rooms : List Str) (doors : List (Str × Str)) (b h : Str) (fd : D) (z3 : Option W) (found road out : List Str) (hf : Clo doors b found) (h1 : out.head? = some b) (h2 : out.getLast? = some h) (h3 : Wk doors out) (hr : road = [] ∨ Clo doors h road) (l1 : found.length ≤ 9000) (l2 : road.length ≤ 300) (l3 : out.length ≤ 2001)
    (hE : ∀ xs, Clo doors b xs → xs.length ≤ found.length + 4300 → E.nx [some (.ref 0), some (.d (yardD rooms doors)), some (.d (.str b)), z3, some (.d (tS xs)), some (.d fd), some (.d (tS road)), some (.d (tS out))] [some (penMO p)]) :
    wSs sg b_law_closed_2 [some (.ref 0), some (.d (yardD rooms doors)), some (.d (.str b)), z3, some (.d (tS found)), some (.d fd), some (.d (tS road)), some (.d (tS out))] [some (penMO p)] E := by
  have hsz := sizeLine_eq
  unfold b_law_closed_2
  conv => whnf
  rw [cutG_from _ (by omega), tl_drop]
  refine ⟨by simp; omega, ?_⟩
  conv => whnf
  rw [cutG_from _ (by omega), tl_drop]
  refine ⟨by simp; omega, ?_⟩
  conv => whnf
  rw [cutG_from _ (by omega), ← List.map_reverse, tl_drop]
  refine ⟨by simp; omega, ?_⟩
  conv => whnf
  rw [← List.map_append, ← List.map_append, ← List.map_append]
  refine hE _ (hf.by_ h1 h2 h3 hr) ?_
  simp
  omega
theorem s_closed (sg : Sg) (hdr : sg.fn "_law_draw" 2 = some spDraw) (hst : sg.fn "_law_strolled" 4 = some spStroll) (hre : sg.fn "_law_reach" 2 = some spReach) (hri : sg.fn "_law_ringed" 2 = some spRinged) (ws M Q R) (h : spClosed ws M Q R) : ws.length = 3 ∧ wSs sg b_law_closed (G0 N_law_closed.length ws) M (bodyE true M.length Q R) := by
  obtain ⟨p, ⟨rooms, doors, b⟩, rfl, rfl, h0, hb, ⟨hr1, hr2, hd⟩, hq⟩ := h
  refine ⟨rfl, ?_⟩
  dsimp only at hr1 hr2 hd hq
  have hb : p.at_ + 3000 < 2 ^ 61 := hb
  have hq : ∀ p' r, PB (p.at_ + 3000) p' → (∃ xs, r = tS xs ∧ Clo doors b xs ∧ xs.length ≤ 9000) → Q (.d r) [some (penMO p')] := hq
  have hsz := sizeLine_eq
  have hp0 : PB p.at_ p := ⟨h0, Int.le_refl _⟩
  generalize hE : bodyE true _ Q R = E
  repeat ((conv => whnf); first | (refine And.intro (by first | omega | exact ok_fn (by assumption) | exact ok_xc (by assumption) | (constructor <;> omega) | (simp only [List.length_map, List.length_range, List.length_append, List.length_cons, List.length_nil] <;> omega) | exact ⟨rfl, by decide, by decide +kernel⟩ | rfl) ?_) | (refine optK_xc (by assumption) ?_) | (refine optK_sub (by assumption) ?_))
  conv => whnf
  refine y_reach hre rooms doors b hd fun fd hfd => ?_
  have hfl := hfd.len
  repeat ((conv => whnf); first | (refine And.intro (by first | omega | exact ok_fn (by assumption) | exact ok_xc (by assumption) | (constructor <;> omega) | (simp only [List.length_map, List.length_range, List.length_append, List.length_cons, List.length_nil] <;> omega) | exact ⟨rfl, by decide, by decide +kernel⟩ | rfl) ?_) | (refine optK_xc (by assumption) ?_) | (refine optK_sub (by assumption) ?_))
  conv => whnf
  refine y_draw hdr 0 p _ 3 rfl hp0 (by omega) (by omega) (by omega) fun p1 n h1 hn1 hn2 => ?_
  repeat ((conv => whnf); first | (refine And.intro (by first | omega | exact ok_fn (by assumption) | exact ok_xc (by assumption) | (constructor <;> omega) | (simp only [List.length_map, List.length_range, List.length_append, List.length_cons, List.length_nil] <;> omega) | exact ⟨rfl, by decide, by decide +kernel⟩ | rfl) ?_) | (refine optK_xc (by assumption) ?_) | (refine optK_sub (by assumption) ?_))
  conv => whnf
  refine goFor_as rg (fun rest Γ M => ∃ (p2 : Pen) (xs : List Str) (z3 z6 z7 : Option W), Γ = [some (.ref 0), some (.d (yardD rooms doors)), some (.d (.str b)), z3, some (.d (tS xs)), some (.d (.dct (dk fd))), z6, z7] ∧ M = [some (penMO p2)] ∧ PB (p.at_ + 1 + 1300 * (2 - rest.length : Nat)) p2 ∧ rest.length ≤ 2 ∧ Clo doors b xs ∧ xs.length + 4300 * rest.length ≤ 8601) ?_ ?_ _ _ _ ⟨p1, [b], none, none, none, rfl, rfl, h1.le (by omega), by simp; omega, Clo.one _ _, by simp; omega⟩
  · rintro Γ M ⟨p2, xs, z3, z6, z7, rfl, rfl, h2, _, hc, hl⟩
    unfold b_law_closed_1
    subst hE
    conv => whnf
    exact hq _ _ (h2.le (by simp; omega)) ⟨xs, rfl, hc, by omega⟩
  · rintro a rest Γ M E' ⟨p2, xs, z3, z6, z7, rfl, rfl, h2, hr, hc, hl⟩ hnext _ _ _ _
    simp only [List.length_cons] at hr hl h2
    have step : ∀ (p5 : Pen) (h : Str) (road out : List Str), PB (p.at_ + 1 + 1300 * (2 - (rest.length + 1) : Nat) + 1300) p5 → out.head? = some b → out.getLast? = some h → Wk doors out → (road = [] ∨ Clo doors h road) → road.length ≤ 300 → out.length ≤ 2001 →
        wSs sg b_law_closed_2 [some (.ref 0), some (.d (yardD rooms doors)), some (.d (.str b)), some (.d (.int (0 + (a : Int)))), some (.d (tS xs)), some (.d (.dct (dk fd))), some (.d (tS road)), some (.d (tS out))] [some (penMO p5)] E' := by
      intro p5 h road out hp e1 e2 e3 e4 e5 e6
      refine t_closed_2 sg E' p5 rooms doors b h _ _ xs road out hc e1 e2 e3 e4 (by omega) e5 e6 fun ys hy hyl => ?_
      exact hnext _ _ ⟨p5, ys, _, _, _, rfl, rfl, hp.le (by omega), by omega, hy, by omega⟩
    repeat ((conv => whnf); first | (refine And.intro (by first | omega | exact ok_fn (by assumption) | exact ok_xc (by assumption) | (constructor <;> omega) | (simp only [List.length_map, List.length_range, List.length_append, List.length_cons, List.length_nil] <;> omega) | exact ⟨rfl, by decide, by decide +kernel⟩ | rfl) ?_) | (refine optK_xc (by assumption) ?_) | (refine optK_sub (by assumption) ?_))
    conv => whnf
    refine y_ringed hri 0 p2 _ rooms doors rfl h2 (by omega) hr1 hr2 hd (fun p3 h3 => ?_) (fun p3 s h h3 hrd => ?_)
    · repeat ((conv => whnf); first | (refine And.intro (by first | omega | exact ok_fn (by assumption) | exact ok_xc (by assumption) | (constructor <;> omega) | (simp only [List.length_map, List.length_range, List.length_append, List.length_cons, List.length_nil] <;> omega) | exact ⟨rfl, by decide, by decide +kernel⟩ | rfl) ?_) | (refine optK_xc (by assumption) ?_) | (refine optK_sub (by assumption) ?_))
      conv => whnf
      refine y_draw hdr 0 p3 _ 6 rfl h3 (by omega) (by omega) (by omega) fun p4 m h4 hm1 hm2 => ?_
      repeat ((conv => whnf); first | (refine And.intro (by first | omega | exact ok_fn (by assumption) | exact ok_xc (by assumption) | (constructor <;> omega) | (simp only [List.length_map, List.length_range, List.length_append, List.length_cons, List.length_nil] <;> omega) | exact ⟨rfl, by decide, by decide +kernel⟩ | rfl) ?_) | (refine optK_xc (by assumption) ?_) | (refine optK_sub (by assumption) ?_))
      conv => whnf
      refine y_stroll hst 0 p4 _ rooms doors b m rfl h4 (by omega) hd hm1 (by omega) fun p5 out h5 hx1 hx2 hx3 => ?_
      obtain ⟨l, hol⟩ := last_ex (xs := out) (by intro e; rw [e] at hx1; cases hx1)
      conv => whnf
      refine eq_tups (xs := []) (ys := []) ?_
      conv => whnf
      refine step p5 l [] out (h5.le (by omega)) hx1 hol hx3 (.inl rfl) (by simp) (by omega)
    · repeat ((conv => whnf); first | (refine And.intro (by first | omega | exact ok_fn (by assumption) | exact ok_xc (by assumption) | (constructor <;> omega) | (simp only [List.length_map, List.length_range, List.length_append, List.length_cons, List.length_nil] <;> omega) | exact ⟨rfl, by decide, by decide +kernel⟩ | rfl) ?_) | (refine optK_xc (by assumption) ?_) | (refine optK_sub (by assumption) ?_))
      conv => whnf
      refine y_draw hdr 0 p3 _ 6 rfl h3 (by omega) (by omega) (by omega) fun p4 m h4 hm1 hm2 => ?_
      repeat ((conv => whnf); first | (refine And.intro (by first | omega | exact ok_fn (by assumption) | exact ok_xc (by assumption) | (constructor <;> omega) | (simp only [List.length_map, List.length_range, List.length_append, List.length_cons, List.length_nil] <;> omega) | exact ⟨rfl, by decide, by decide +kernel⟩ | rfl) ?_) | (refine optK_xc (by assumption) ?_) | (refine optK_sub (by assumption) ?_))
      conv => whnf
      refine y_stroll hst 0 p4 _ rooms doors b m rfl h4 (by omega) hd hm1 (by omega) fun p5 out h5 hx1 hx2 hx3 => ?_
      obtain ⟨l, hol⟩ := last_ex (xs := out) (by intro e; rw [e] at hx1; cases hx1)
      conv => whnf
      refine eq_tups (xs := s ++ [h]) (ys := []) ?_
      rw [decide_eq_false (by simp)]
      have hhd : (s ++ [h]).head? = some h := by rw [List.head?_append, hrd.hd]; rfl
      conv => whnf
      refine optK_some (hd_at hhd) ?_
      conv => whnf
      show ifB (lookG (dk fd) (.inr h)).isSome _ _
      rw [has_dk]
      refine ifB_d (fun c => ?_) (fun c => ?_)
      · obtain ⟨e, hem, rfl⟩ := List.mem_map.mp c
        obtain ⟨i, hi, hie⟩ := List.getElem_of_mem hem
        have hie2 : fd[i]? = some e := by rw [List.getElem?_eq_getElem hi, hie]
        have hlk := look_in hfd.nd hie2
        have hel := hfd.ln i e hie2
        conv => whnf
        refine optK_some (hd_at hhd) ?_
        conv => whnf
        show match lookG (dk fd) (.inr e.1) with | some d => _ | none => _
        rw [hlk]
        repeat ((conv => whnf); first | (refine And.intro (by first | omega | exact ok_fn (by assumption) | exact ok_xc (by assumption) | (constructor <;> omega) | (simp only [List.length_map, List.length_range, List.length_append, List.length_cons, List.length_nil] <;> omega) | exact ⟨rfl, by decide, by decide +kernel⟩ | rfl) ?_) | (refine optK_xc (by assumption) ?_) | (refine optK_sub (by assumption) ?_))
        conv => whnf
        refine y_draw hdr 0 p5 _ 3 rfl h5 (by omega) (by omega) (by omega) fun p6 w h6 hw1 hw2 => ?_
        have hsl := hrd.ln
        conv => whnf
        rw [cutG_map, cutG_init]
        refine ⟨.inl ⟨by omega, by omega, by rw [List.length_map]; omega⟩, ?_⟩
        conv => whnf
        rw [cutG_map, cutG_end, rep_map]
        have hrl : (List.replicate (1 + w).toNat s).flatten.length ≤ 3 * s.length := by
          rw [rep_len]
          exact Nat.mul_le_mul_right _ (by omega)
        refine ⟨by rw [List.length_map, List.length_map, List.length_singleton]; omega, ?_⟩
        rw [← List.map_append]
        have hp := Wk.pow hrd.hd hrd.wk (1 + w).toNat
        generalize hrn : (List.replicate (1 + w).toNat s).flatten ++ [e.1] = rn at hp ⊢
        have hrnl : rn.length ≤ 300 := by rw [← hrn, List.length_append, List.length_singleton]; omega
        have hclo : Clo doors e.1 rn := ⟨hp.2, by rw [← hrn]; simp, hp.1⟩
        repeat ((conv => whnf); first | (refine And.intro (by first | omega | exact ok_fn (by assumption) | exact ok_xc (by assumption) | (constructor <;> omega) | (simp only [List.length_map, List.length_range, List.length_append, List.length_cons, List.length_nil] <;> omega) | exact ⟨rfl, by decide, by decide +kernel⟩ | rfl) ?_) | (refine optK_xc (by assumption) ?_) | (refine optK_sub (by assumption) ?_))
        conv => whnf
        refine y_draw hdr 0 p6 _ 2 rfl h6 (by omega) (by omega) (by omega) fun p7 w2 h7 hw3 hw4 => ?_
        have hw5 : w2 = 0 ∨ w2 = 1 := by omega
        rcases hw5 with rfl | rfl
        · conv => whnf
          refine optK_some rfl ?_
          refine step p7 e.1 rn e.2 (h7.le (by omega)) (hfd.hd e hem) (hfd.lt e hem) (hfd.wk e hem) (.inr hclo) hrnl (by omega)
        · conv => whnf
          refine optK_some rfl ?_
          conv => whnf
          rw [← List.map_reverse]
          refine step p7 e.1 rn.reverse e.2 (h7.le (by omega)) (hfd.hd e hem) (hfd.lt e hem) (hfd.wk e hem) (.inr hclo.rev) (by simp; omega) (by omega)
      · refine step p5 l [] out (h5.le (by omega)) hx1 hol hx3 (.inl rfl) (by simp) (by omega)
end G

/-! G17: after, as the laws count it; words about closed walks. -/
namespace G
open PySem PySem.Spec L2 PyProof.Rows DL
def N_law_shrunk : List Str := ["_law_road", "_law_found", "_law_room"]
@[irreducible] def b_law_shrunk_1 : List Sx := [
  .ret (.pr (.bi .tuple false) [.v 1])]
def b_law_shrunk : List Sx := (
  .asg 1 (.pr (.lst true) []) ::
  .fors (.n 2) .seq [.v 0] [
    .ite (.and (.pr (.cmp .Gt) [.pr (.bi .len false) [.v 1], .int 1]) (.pr (.cmp .Eq) [.pr .idx [.v 1, .pr .neg [.int 2]], .v 2])) [
      .exp (.me .pop false (.v 1) [])] [
      .exp (.me .append false (.v 1) [.v 2])]] :: b_law_shrunk_1)

def N_law_after : List Str := ["_law_one", "_law_other"]
def b_law_after : List Sx := [
  .ret (.pr (.call "_law_shrunk" []) [.pr (.bin .Add false) [.v 0, .pr (.slc true false false) [.v 1, .int 1]]])]

theorem sub1 {f : Str → Option Bool} {T : Str} {b : Bool} (h : f T = some b) : subAny f [T] = some b := by simp [subAny, h]
theorem sub2 {f : Str → Option Bool} {T U : Str} {b c : Bool} (h : f T = some b) (h2 : f U = some c) : subAny f [T, U] = some (b || c) := by simp [subAny, h, h2]
theorem beh_cat (u v : List Str) : beh u v = KM.shr (KM.cat u v) := rfl
def spLShr : DL.Spec := pSp (fun xs : List Str => [tS xs]) (fun xs => xs.length < 16777216) (fun xs r => r = tS (KM.shr xs)) noE
theorem y_lshr {sg : Sg} (hs : sg.fn "_law_shrunk" 1 = some spLShr) {M : MM} {Q : W → MM → Prop} {R : XR} (xs : List Str) (hl : xs.length < 16777216) (hq : Q (.d (tS (KM.shr xs))) M) : lendO (sg.fn "_law_shrunk" 1) [] [.d (tS xs)] M Q R := by
  rw [hs]
  exact use_q xs hl (fun r hr => by rw [hr]; exact hq) fun _ _ h => h.elim
theorem s_lshr (sg : Sg) (ws M Q R) (h : spLShr ws M Q R) : ws.length = 1 ∧ wSs sg b_law_shrunk (G0 N_law_shrunk.length ws) M (bodyE true M.length Q R) := by
  obtain ⟨xs, rfl, rfl, hx, hq, _⟩ := h
  refine ⟨rfl, ?_⟩
  have hsz := sizeLine_eq
  generalize hE : bodyE true _ Q R = E
  conv => whnf
  refine goFor_as D.str (fun rest Γ M => ∃ (acc : List Str) (z : Option W), Γ = [some (.d (.tup (xs.map .str))), some (.ref 0), z] ∧ M = [some (.lst (acc.map .str))] ∧ acc.length + rest.length < 16777216 ∧ rest.foldl KM.push acc = KM.shr xs) ?_ ?_ xs _ _ ⟨[], none, rfl, rfl, by simpa using hx, rfl⟩
  · rintro Γ M ⟨acc, z, rfl, rfl, hl, hs⟩
    unfold b_law_shrunk_1
    subst hE
    conv => whnf
    obtain rfl : acc = KM.shr xs := hs
    exact hq _ rfl
  · rintro y rest Γ M E' ⟨acc, z, rfl, rfl, hl, hs⟩ hnx _ _ _ hxr
    rw [List.length_cons] at hl
    have hlen : ((acc.map D.str).length : Int) = acc.length := by simp
    have fin : ∀ acc', acc'.length + rest.length < 16777216 → acc' = KM.push acc y → E'.nx [some (.d (.tup (xs.map .str))), some (.ref 0), some (.d (.str y))] [some (.lst (acc'.map .str))] := fun acc' h1 h2 => hnx _ _ ⟨acc', _, rfl, rfl, h1, by rw [h2]; exact hs⟩
    conv => whnf
    refine ifB_d (fun h => ?_) (fun h => ?_)
    · have h2 : 2 ≤ acc.length := by omega
      obtain ⟨w, hw⟩ : ∃ w, acc[acc.length - 2]? = some w := ⟨_, List.getElem?_eq_getElem (by omega)⟩
      have hat : atI (acc.map D.str) (-2) = some (.str w) := atI_n (j := acc.length - 2) (by rw [List.getElem?_map, hw]; rfl) (.inr (by simp; omega))
      conv => whnf
      refine optK_some hat ?_
      conv => whnf
      refine ifB_d (fun e => ?_) (fun e => ?_)
      · subst e
        conv => whnf
        have hla : (acc.map D.str)[(acc.map D.str).length - 1]? = some (.str (acc[acc.length - 1]'(by omega))) := by
          rw [List.length_map, List.getElem?_map, List.getElem?_eq_getElem (by omega)]; rfl
        show match (acc.map D.str)[(acc.map D.str).length - 1]? with | some y => _ | none => _
        rw [hla]
        have := fin acc.dropLast (by rw [List.length_dropLast]; omega) (by unfold KM.push; rw [if_pos ⟨h2, hw⟩])
        rw [List.map_dropLast] at this
        exact this
      · repeat ((conv => whnf); first | (refine And.intro (by first | omega | exact ok_fn (by assumption) | exact ok_xc (by assumption) | (constructor <;> omega) | (simp only [List.length_map, List.length_range, List.length_append, List.length_cons, List.length_nil] <;> omega) | exact ⟨rfl, by decide, by decide +kernel⟩ | rfl) ?_) | (refine optK_xc (by assumption) ?_) | (refine optK_sub (by assumption) ?_))
        conv => whnf
        have := fin (acc ++ [y]) (by simp; omega) (by unfold KM.push; rw [if_neg]; rintro ⟨_, e2⟩; rw [hw] at e2; exact e (Option.some.inj e2))
        rw [List.map_append] at this
        exact this
    · repeat ((conv => whnf); first | (refine And.intro (by first | omega | exact ok_fn (by assumption) | exact ok_xc (by assumption) | (constructor <;> omega) | (simp only [List.length_map, List.length_range, List.length_append, List.length_cons, List.length_nil] <;> omega) | exact ⟨rfl, by decide, by decide +kernel⟩ | rfl) ?_) | (refine optK_xc (by assumption) ?_) | (refine optK_sub (by assumption) ?_))
      conv => whnf
      have := fin (acc ++ [y]) (by simp; omega) (by unfold KM.push; rw [if_neg]; rintro ⟨e2, _⟩; omega)
      rw [List.map_append] at this
      exact this
def spAfter : DL.Spec := pSp (fun i : List Str × List Str => [tS i.1, tS i.2]) (fun i => i.1.length + i.2.length < 16777216) (fun i r => r = tS (beh i.1 i.2)) noE
theorem s_after (sg : Sg) (hs : sg.fn "_law_shrunk" 1 = some spLShr) (ws M Q R) (h : spAfter ws M Q R) : ws.length = 2 ∧ wSs sg b_law_after (G0 N_law_after.length ws) M (bodyE true M.length Q R) := by
  obtain ⟨⟨xs, ys⟩, rfl, rfl, hl, hq, _⟩ := h
  refine ⟨rfl, ?_⟩
  dsimp only at hl
  have hsz := sizeLine_eq
  generalize hE : bodyE true _ Q R = E
  repeat ((conv => whnf); first | (refine And.intro (by first | omega | exact ok_fn (by assumption) | exact ok_xc (by assumption) | (constructor <;> omega) | (simp only [List.length_map, List.length_range, List.length_append, List.length_cons, List.length_nil] <;> omega) | exact ⟨rfl, by decide, by decide +kernel⟩ | rfl) ?_) | (refine optK_xc (by assumption) ?_) | (refine optK_sub (by assumption) ?_))
  conv => whnf
  rw [cutG_from _ (by omega), tl_drop]
  refine ⟨by simp; omega, ?_⟩
  rw [← List.map_append]
  conv => whnf
  refine y_lshr hs (xs ++ ys.tail) (by simp; omega) ?_
  subst hE
  conv => whnf
  exact hq _ rfl
theorem y_after {sg : Sg} (hs : sg.fn "_law_after" 2 = some spAfter) {M : MM} {Q : W → MM → Prop} {R : XR} (xs ys : List Str) (hl : xs.length + ys.length < 16777216) (hq : Q (.d (tS (KM.shr (KM.cat xs ys)))) M) : lendO (sg.fn "_law_after" 2) [] [.d (tS xs), .d (tS ys)] M Q R := by
  rw [hs]
  exact use_q (xs, ys) hl (fun r hr => by rw [hr]; exact hq) fun _ _ h => h.elim
theorem eq_bl {a b : Bool} {k : Bool → Prop} (h : k (decide (a = b))) : eqDG (.bl a) (.bl b) k := eqDG_of rfl rfl (by cases a <;> decide) (by cases b <;> decide) (by cases a <;> cases b <;> rfl) h
/-- behind what meets -/
theorem b_ok {sg : Sg} (hbe : sg.fn "behind" 2 = some spBehind) {M : MM} {Q : W → MM → Prop} {R : XR} (xs ys : List Str) (hx : xs ≠ []) (hy : ys ≠ []) (hl : xs.length + ys.length < 16777216) (e : xs.getLast? = ys.head?) (hq : Q (.d (tS (KM.shr (KM.cat xs ys)))) M) :
    lendO (sg.fn "behind" 2) [] [.d (tS xs), .d (tS ys)] M Q R := y_behind hbe xs ys hx hy hl (fun _ => hq) fun h => absurd e h
end G

/-! KM3: stems and rings, plain. -/
namespace KM
variable {α : Type} [DecidableEq α]
/-- where the stem ends -/
structure Cor (w : List α) (a : Nat) : Prop where
  low : ∀ j, j < a → 2 * j + 1 < w.length ∧ w[j + 1]? = w[w.length - 2 - j]?
  stop : ¬ (2 * a + 1 < w.length ∧ w[a + 1]? = w[w.length - 2 - a]?)
theorem Cor.uniq {w : List α} {a b : Nat} (h : Cor w a) (g : Cor w b) : a = b := by
  rcases Nat.lt_trichotomy a b with c | c | c
  · exact absurd (g.low a c) h.stop
  · exact c
  · exact absurd (h.low b c) g.stop
theorem Cor.half {w : List α} {a : Nat} (h : Cor w a) : 2 * a ≤ w.length := by
  cases a with
  | zero => omega
  | succ a => have := (h.low a (Nat.lt_succ_self _)).1; omega
def stem (w : List α) (a : Nat) : List α := w.take (a + 1)
def mid (w : List α) (a : Nat) : List α := (w.drop a).take (w.length - 2 * a)
theorem mid_len (w : List α) (a : Nat) : (mid w a).length = w.length - 2 * a := by
  unfold mid
  rw [List.length_take, List.length_drop]
  omega
theorem mid_get {w : List α} {a i : Nat} (h : i < w.length - 2 * a) : (mid w a)[i]? = w[a + i]? := by
  unfold mid
  rw [List.getElem?_take_of_lt h, List.getElem?_drop]
/-- no room twice side by side -/
def Apt (w : List α) : Prop := ∀ i x, w[i]? = some x → w[i + 1]? = some x → False
theorem some_at {w : List α} {i : Nat} (h : i < w.length) : ∃ x, w[i]? = some x := ⟨_, List.getElem?_eq_getElem h⟩
theorem Cor.sym {w : List α} {a : Nat} (h : Cor w a) (hc : w.head? = w.getLast?) : ∀ j, j ≤ a → w[j]? = w[w.length - 1 - j]?
  | 0, _ => by rw [List.head?_eq_getElem?, List.getLast?_eq_getElem?] at hc; exact hc
  | j + 1, hj => by
    rw [(h.low j (by omega)).2]
    congr 1
    omega
theorem Cor.long {w : List α} {a : Nat} (h : Cor w a) (hn : w ≠ []) (hc : w.head? = w.getLast?) (hr : Red w) (ha : Apt w) : (w.length = 1 ∧ a = 0) ∨ (2 * a + 4 ≤ w.length ∧ w[a + 1]? ≠ w[w.length - 2 - a]?) := by
  have hlen : 0 < w.length := List.length_pos_iff.mpr hn
  have hh := h.half
  have sy := h.sym hc
  by_cases h1 : w.length = 1
  · exact .inl ⟨h1, by omega⟩
  refine .inr ?_
  have c0 : w.length ≠ 2 * a := fun e => by
    obtain ⟨x, hx⟩ := some_at (w := w) (i := a - 1) (by omega)
    have s := sy a (Nat.le_refl _)
    rw [show w.length - 1 - a = a - 1 by omega, hx] at s
    exact ha (a - 1) x hx (by rw [show a - 1 + 1 = a by omega]; exact s)
  have c1 : w.length ≠ 2 * a + 1 := fun e => by
    obtain ⟨x, hx⟩ := some_at (w := w) (i := a - 1) (by omega)
    have s := sy (a - 1) (by omega)
    rw [show w.length - 1 - (a - 1) = a - 1 + 2 by omega, hx] at s
    exact hr (a - 1) x hx s.symm
  have c2 : w.length ≠ 2 * a + 2 := fun e => by
    obtain ⟨x, hx⟩ := some_at (w := w) (i := a) (by omega)
    have s := sy a (Nat.le_refl _)
    rw [show w.length - 1 - a = a + 1 by omega, hx] at s
    exact ha a x hx s.symm
  have c3 : w.length ≠ 2 * a + 3 := fun e => by
    refine h.stop ⟨by omega, ?_⟩
    rw [show w.length - 2 - a = a + 1 by omega]
  refine ⟨by omega, fun e => h.stop ⟨by omega, e⟩⟩
/-- at a place: is it a ring there -/
def isRing (w : List α) (j : Nat) : Prop := 3 < (mid w j).length ∧ (mid w j)[1]? ≠ (mid w j)[(mid w j).length - 2]?
def isStem (w : List α) (j : Nat) : Prop := (stem w j).reverse = w.drop (w.length - 1 - j)
theorem ring_ends {w : List α} {j : Nat} (h : 3 < w.length - 2 * j) : (mid w j)[1]? = w[j + 1]? ∧ (mid w j)[(mid w j).length - 2]? = w[w.length - 2 - j]? := by
  rw [mid_len]
  refine ⟨mid_get (by omega), ?_⟩
  rw [mid_get (by omega)]
  congr 1
  omega
theorem Cor.stem_rev {w : List α} {a : Nat} (h : Cor w a) (hn : a < w.length) (hc : w.head? = w.getLast?) : isStem w a := by
  have sy := h.sym hc
  unfold isStem stem
  refine List.ext_getElem? fun i => ?_
  have hl : (w.take (a + 1)).length = a + 1 := by rw [List.length_take]; omega
  by_cases hi : i < a + 1
  · rw [List.getElem?_reverse (by omega), hl, List.getElem?_take_of_lt (by omega), List.getElem?_drop, sy _ (by omega)]
    congr 1
    omega
  · rw [List.getElem?_eq_none (by rw [List.length_reverse]; omega), List.getElem?_eq_none (by rw [List.length_drop]; omega)]
/-- just one place is so -/
theorem Cor.just {w : List α} {a j : Nat} (h : Cor w a) (hn : w ≠ []) (hc : w.head? = w.getLast?) (hr : Red w) (ha : Apt w) (hj : j < w.length) : (w.length = 1 ∨ (isRing w j ∧ isStem w j)) ↔ j = a := by
  rcases h.long hn hc hr ha with ⟨h1, h2⟩ | ⟨h1, h2⟩
  · exact ⟨fun _ => by omega, fun _ => .inl h1⟩
  · constructor
    · rintro (c | ⟨⟨c1, c2⟩, c3⟩)
      · omega
      · rw [mid_len] at c1
        obtain ⟨e1, e2⟩ := ring_ends c1
        rw [e1, e2] at c2
        rcases Nat.lt_trichotomy j a with c | c | c
        · exact absurd (h.low j c).2 c2
        · exact c
        · refine absurd ?_ h2
          unfold isStem stem at c3
          have hl : (w.take (j + 1)).length = j + 1 := by rw [List.length_take]; omega
          have := congrArg (fun l => l[j - (a + 1)]?) c3
          rw [List.getElem?_reverse (by omega), hl, List.getElem?_take_of_lt (by omega), List.getElem?_drop] at this
          rw [show j + 1 - 1 - (j - (a + 1)) = a + 1 by omega, show w.length - 1 - j + (j - (a + 1)) = w.length - 2 - a by omega] at this
          exact this
    · rintro rfl
      refine .inr ⟨⟨by rw [mid_len]; omega, ?_⟩, h.stem_rev hj hc⟩
      obtain ⟨e1, e2⟩ := ring_ends (w := w) (j := j) (by omega)
      rw [e1, e2]
      exact h2
/-- put together again -/
theorem Cor.whole {w : List α} {a : Nat} (h : Cor w a) (hn : w ≠ []) (hc : w.head? = w.getLast?) (hr : Red w) (ha : Apt w) : stem w a ++ (mid w a).tail ++ (stem w a).reverse.tail = w := by
  have hlen : 0 < w.length := List.length_pos_iff.mpr hn
  have hal : a < w.length := by rcases h.long hn hc hr ha with ⟨h1, h2⟩ | ⟨h1, h2⟩ <;> omega
  have h1 : 1 ≤ w.length - 2 * a := by rcases h.long hn hc hr ha with ⟨h1, h2⟩ | ⟨h1, h2⟩ <;> omega
  have e := h.stem_rev hal hc
  unfold isStem at e
  rw [e, List.tail_drop, show w.length - 1 - a + 1 = w.length - a by omega]
  unfold stem mid
  have e2 : ((w.drop a).take (w.length - 2 * a)).tail = (w.drop (a + 1)).take (w.length - 2 * a - 1) := by
    rw [← List.drop_one, List.drop_take, List.drop_drop]
  rw [e2]
  have e3 : w.drop (w.length - a) = (w.drop (a + 1)).drop (w.length - 2 * a - 1) := by
    rw [List.drop_drop]
    congr 1
    omega
  rw [e3, List.append_assoc, List.take_append_drop, List.take_append_drop]
theorem Red.mid {w : List α} (h : Red w) (a : Nat) : Red (mid w a) := fun i x h1 h2 => by
  have hl := (List.getElem?_eq_some_iff.mp h2).1
  rw [mid_len] at hl
  rw [mid_get (by omega)] at h1
  rw [mid_get (by omega)] at h2
  exact h (a + i) x h1 h2
theorem Apt.mid {w : List α} (h : Apt w) (a : Nat) : Apt (mid w a) := fun i x h1 h2 => by
  have hl := (List.getElem?_eq_some_iff.mp h2).1
  rw [mid_len] at hl
  rw [mid_get (by omega)] at h1
  rw [mid_get (by omega)] at h2
  exact h (a + i) x h1 h2
/-- the ring is its own core -/
theorem Cor.ring {w : List α} {a : Nat} (h : Cor w a) (hn : w ≠ []) (hc : w.head? = w.getLast?) (hr : Red w) (ha : Apt w) : mid w a ≠ [] ∧ (mid w a).head? = (mid w a).getLast? ∧ Cor (mid w a) 0 := by
  have hlen : 0 < w.length := List.length_pos_iff.mpr hn
  have h1 : 1 ≤ w.length - 2 * a := by rcases h.long hn hc hr ha with ⟨h1, h2⟩ | ⟨h1, h2⟩ <;> omega
  refine ⟨?_, ?_, ?_⟩
  · intro e
    have := mid_len w a
    rw [e] at this
    simp at this
    omega
  · rw [List.head?_eq_getElem?, List.getLast?_eq_getElem?, mid_len, mid_get (by omega), mid_get (by omega)]
    have := h.sym hc a (Nat.le_refl _)
    rw [Nat.add_zero, this]
    congr 1
    omega
  · refine ⟨fun j hj => by omega, fun ⟨c1, c2⟩ => ?_⟩
    rw [mid_len] at c1
    rcases h.long hn hc hr ha with ⟨h3, h4⟩ | ⟨h3, h4⟩
    · omega
    · obtain ⟨e1, e2⟩ := ring_ends (w := w) (j := a) (by omega)
      rw [Nat.sub_zero] at c2
      rw [Nat.zero_add] at c2
      rw [e1, e2] at c2
      exact h4 c2
theorem mid_zero (w : List α) : mid w 0 = w := by unfold mid; simp
end KM

/-! G18: closed or not; stems and rings told. -/
namespace G
open PySem PySem.Spec L2 PyProof.Rows DL
theorem mayB_ne {doors : List (Str × Str)} {a b : Str} (h : mayB doors a b = true) : a ≠ b := by
  rintro rfl
  unfold mayB at h
  simp at h
theorem yd_apart {rooms : List Str} {doors : List (Str × Str)} (h : Yd rooms doors) : ∀ e ∈ doors, e.1 ≠ e.2 := by
  obtain ⟨ps, rfl, _⟩ := h
  have key : ∀ (ps : List (Int × Int)) (acc : List (Str × Str)), (∀ e ∈ acc, e.1 ≠ e.2) → ∀ e ∈ ps.foldl (addD rooms) acc, e.1 ≠ e.2 := by
    intro ps
    induction ps with
    | nil => exact fun acc h => h
    | cons p ps ih =>
      intro acc h
      refine ih _ ?_
      unfold addD
      split
      · rename_i c
        intro e he
        rcases List.mem_append.mp he with he | he
        · exact h e he
        · rw [List.mem_singleton.mp he]
          exact mayB_ne c
      · exact h
  exact key ps [] fun e h => nomatch h
theorem wk_apt {doors : List (Str × Str)} (hd : ∀ e ∈ doors, e.1 ≠ e.2) {xs : List Str} (h : Wk doors xs) : KM.Apt xs := by
  intro i x h1 h2
  obtain ⟨e, he, c⟩ := mem_others.mp (h i x x h1 h2)
  rcases c with ⟨c1, c2⟩ | ⟨c1, c2, c3⟩
  · exact hd e he (by rw [c1, c2])
  · exact c1 c3
theorem Wk.pre {doors : List (Str × Str)} {xs ys : List Str} (h : Wk doors (xs ++ ys)) : Wk doors xs := fun i a b h1 h2 => by
  have := (List.getElem?_eq_some_iff.mp h2).1
  exact h i a b (by rw [List.getElem?_append_left (by omega)]; exact h1) (by rw [List.getElem?_append_left (by omega)]; exact h2)
theorem Wk.push {doors : List (Str × Str)} {acc : List Str} {x : Str} (h : Wk doors acc) (hx : ∀ l, acc.getLast? = some l → x ∈ others doors l) : Wk doors (KM.push acc x) := by
  unfold KM.push
  split
  · rename_i c
    have hne : acc ≠ [] := by rintro rfl; simp at c
    rw [← List.dropLast_concat_getLast hne] at h
    exact h.pre
  · cases acc with
    | nil => exact Wk.one _ _
    | cons y r =>
      have e := List.getLast?_eq_some_getLast (l := y :: r) (by simp)
      exact h.snoc e (hx _ e)
theorem Wk.fold {doors : List (Str × Str)} : ∀ (xs acc : List Str), Wk doors acc → (∀ l, acc.getLast? = some l → Wk doors (l :: xs)) → Wk doors xs → Wk doors (xs.foldl KM.push acc)
  | [], acc, h, _, _ => h
  | x :: xs, acc, h, h2, h3 => by
    refine Wk.fold xs _ (h.push fun l hl => h2 l hl 0 l x rfl rfl) (fun l hl => ?_) (h3.drop 1)
    rw [KM.push_last] at hl
    cases hl
    exact h3
theorem Wk.shr {doors : List (Str × Str)} {xs : List Str} (h : Wk doors xs) : Wk doors (KM.shr xs) := Wk.fold xs [] (fun i a b h1 h2 => by simp at h1) (fun l hl => by simp at hl) h
def cl (xs : List Str) : Prop := xs.head? = xs.getLast?
instance (xs : List Str) : Decidable (cl xs) := by unfold cl; infer_instance
theorem clo_cl {doors : List (Str × Str)} {b : Str} {xs : List Str} (h : Clo doors b xs) : cl xs := by
  unfold cl; rw [h.hd, h.lt]
theorem cl_shr {xs : List Str} (h : cl xs) : cl (KM.shr xs) := by
  unfold cl; rw [KM.shr_head, KM.shr_last]; exact h
theorem hd_ne {xs : List Str} {a b : Str} (h1 : xs.head? = some a) (h2 : xs.getLast? = some b) (h : ¬ a = b) : ¬ cl xs := by
  unfold cl; rw [h1, h2]; exact fun e => h (Option.some.inj e)
def N_need_closed : List Str := ["walk"]
def b_need_closed : List Sx := [
  .ite (.pr (.cmp .NotEq) [.pr .idx [.v 0, .int 0], .pr .idx [.v 0, .pr .neg [.int 1]]]) [
    .rse "NotClosed" []] []]
def spNeed : DL.Spec := pSp (fun xs : List Str => [tS xs]) (fun xs => xs ≠ []) (fun xs r => cl xs ∧ r = .non) (fun xs c fs => ¬ cl xs ∧ c = "NotClosed" ∧ fs = [])
theorem y_need {sg : Sg} (hs : sg.fn "need_closed" 1 = some spNeed) {M : MM} {Q : W → MM → Prop} {R : XR} (xs : List Str) (hx : xs ≠ []) (hq : cl xs → Q (.d .non) M) (hr : ¬ cl xs → R "NotClosed" [] M) : lendO (sg.fn "need_closed" 1) [] [.d (tS xs)] M Q R := by
  rw [hs]
  exact use_q xs hx (fun r ⟨h1, h2⟩ => by rw [h2]; exact hq h1) fun c fs ⟨h1, h2, h3⟩ => by rw [h2, h3]; exact hr h1
theorem s_need (sg : Sg) (hN : sg.xc "NotClosed" = some []) (ws M Q R) (h : spNeed ws M Q R) : ws.length = 1 ∧ wSs sg b_need_closed (G0 N_need_closed.length ws) M (bodyE true M.length Q R) := by
  obtain ⟨xs, rfl, rfl, hx, hq, hr⟩ := h
  refine ⟨rfl, ?_⟩
  obtain ⟨a, ha⟩ := head_ex hx
  obtain ⟨b, hb⟩ := last_ex hx
  generalize hE : bodyE true _ Q R = E
  conv => whnf
  refine optK_some (hd_at ha) ?_
  conv => whnf
  refine optK_some (at_last hb) ?_
  conv => whnf
  refine ifB_n (ifB_d (fun e => ?_) (fun e => ?_))
  · subst hE
    conv => whnf
    exact hq _ ⟨by unfold cl; rw [ha, hb, e], rfl⟩
  · repeat ((conv => whnf); first | (refine And.intro (by first | omega | exact ok_fn (by assumption) | exact ok_xc (by assumption) | (constructor <;> omega) | (simp only [List.length_map, List.length_range, List.length_append, List.length_cons, List.length_nil] <;> omega) | exact ⟨rfl, by decide, by decide +kernel⟩ | rfl) ?_) | (refine optK_xc (by assumption) ?_) | (refine optK_sub (by assumption) ?_))
    conv => whnf
    refine optK_some rfl ?_
    subst hE
    conv => whnf
    exact hr _ _ ⟨hd_ne ha hb e, rfl, rfl⟩
theorem cutG_mid {xs : List Str} {j : Nat} (hj : j < xs.length ∨ j = 0) : cutG (xs.map D.str) (some (j : Int)) (some ((xs.length : Int) - j)) = (KM.mid xs j).map .str := by
  rw [cutG_map]
  congr 1
  have e1 : HT.sIx xs.length 0 (some (j : Int)) = j := by
    show (if (j : Int) < 0 then ((j : Int) + (xs.length : Int)).toNat else min (j : Int).toNat xs.length) = _
    rw [if_neg (by omega), Int.toNat_natCast]
    omega
  have e2 : HT.sIx xs.length xs.length (some ((xs.length : Int) - j)) = xs.length - j := by
    show (if (xs.length : Int) - j < 0 then ((xs.length : Int) - j + (xs.length : Int)).toNat else min ((xs.length : Int) - j).toNat xs.length) = _
    rw [if_neg (by omega)]
    omega
  unfold cutG KM.mid
  rw [e1, e2]
  congr 1
  omega
theorem cutG_stem {xs : List Str} {j : Nat} {i : Int} (hi : i = (j : Int) + 1) : cutG (xs.map D.str) none (some i) = (KM.stem xs j).map .str := by
  rw [cutG_to _ (by omega), ← List.map_take]
  unfold KM.stem
  congr 2
  omega
def N_core : List Str := ["walk", "small", "at"]
@[irreducible] def b_core_1 : List Sx := [
  .ret (.pr (.tup false) [.pr (.slc false true false) [.v 1, .pr (.bin .Add false) [.v 2, .int 1]], .sl2 false (.v 1) (.v 2) (.pr (.bin .Sub false) [.pr (.bi .len false) [.v 1], .v 2])])]
def b_core : List Sx := (
  .exp (.pr (.call "need_closed" []) [.v 0]) ::
  .par [1, 2] [.pr (.call "shrunk" []) [.v 0], .int 0] ::
  .whl (.and (.pr (.cmp .Gt) [.pr (.bin .Sub false) [.pr (.bi .len false) [.v 1], .pr (.bin .Mult false) [.int 2, .v 2]], .int 1]) (.pr (.cmp .Eq) [.pr .idx [.v 1, .pr (.bin .Add false) [.v 2, .int 1]], .pr .idx [.v 1, .pr (.bin .Sub false) [.pr (.bin .Sub false) [.pr (.bi .len false) [.v 1], .int 2], .v 2]]])) [
    .aug 2 .Add (.int 1)] :: b_core_1)
abbrev coreD (w : List Str) (a : Nat) : D := .tup [tS (KM.stem w a), tS (KM.mid w a)]
def spCore : DL.Spec := pSp (fun xs : List Str => [tS xs]) (fun xs => xs ≠ [] ∧ xs.length < 16777216) (fun xs r => cl xs ∧ ∃ a, KM.Cor (KM.shr xs) a ∧ r = coreD (KM.shr xs) a) (fun xs c fs => ¬ cl xs ∧ c = "NotClosed" ∧ fs = [])
theorem y_core {sg : Sg} (hs : sg.fn "core" 1 = some spCore) {M : MM} {Q : W → MM → Prop} {R : XR} (xs : List Str) (hx : xs ≠ []) (hl : xs.length < 16777216) (hq : ∀ a, cl xs → KM.Cor (KM.shr xs) a → Q (.d (coreD (KM.shr xs) a)) M) (hr : ¬ cl xs → R "NotClosed" [] M) : lendO (sg.fn "core" 1) [] [.d (tS xs)] M Q R := by
  rw [hs]
  exact use_q xs ⟨hx, hl⟩ (fun r ⟨h1, a, h2, h3⟩ => by rw [h3]; exact hq a h1 h2) fun c fs ⟨h1, h2, h3⟩ => by rw [h2, h3]; exact hr h1
theorem s_core (sg : Sg) (hne : sg.fn "need_closed" 1 = some spNeed) (hsh : sg.fn "shrunk" 1 = some spShrunk) (ws M Q R) (h : spCore ws M Q R) : ws.length = 1 ∧ wSs sg b_core (G0 N_core.length ws) M (bodyE true M.length Q R) := by
  obtain ⟨xs, rfl, rfl, ⟨hx, hl⟩, hq, hr⟩ := h
  refine ⟨rfl, ?_⟩
  have hsz := sizeLine_eq
  generalize hE : bodyE true _ Q R = E
  repeat ((conv => whnf); first | (refine And.intro (by first | omega | exact ok_fn (by assumption) | exact ok_xc (by assumption) | (constructor <;> omega) | (simp only [List.length_map, List.length_range, List.length_append, List.length_cons, List.length_nil] <;> omega) | exact ⟨rfl, by decide, by decide +kernel⟩ | rfl) ?_) | (refine optK_xc (by assumption) ?_) | (refine optK_sub (by assumption) ?_))
  conv => whnf
  refine y_need hne xs hx (fun c => ?_) (fun c => ?_)
  · repeat ((conv => whnf); first | (refine And.intro (by first | omega | exact ok_fn (by assumption) | exact ok_xc (by assumption) | (constructor <;> omega) | (simp only [List.length_map, List.length_range, List.length_append, List.length_cons, List.length_nil] <;> omega) | exact ⟨rfl, by decide, by decide +kernel⟩ | rfl) ?_) | (refine optK_xc (by assumption) ?_) | (refine optK_sub (by assumption) ?_))
    conv => whnf
    refine y_shrunk hsh xs hl ?_
    have hle := KM.shr_le xs
    have hq : ∀ a, KM.Cor (KM.shr xs) a → Q (.d (coreD (KM.shr xs) a)) [] := fun a h => hq _ ⟨c, a, h, rfl⟩
    generalize KM.shr xs = w at hq hle ⊢
    repeat ((conv => whnf); first | (refine And.intro (by first | omega | exact ok_fn (by assumption) | exact ok_xc (by assumption) | (constructor <;> omega) | (simp only [List.length_map, List.length_range, List.length_append, List.length_cons, List.length_nil] <;> omega) | exact ⟨rfl, by decide, by decide +kernel⟩ | rfl) ?_) | (refine optK_xc (by assumption) ?_) | (refine optK_sub (by assumption) ?_))
    conv => whnf
    refine goWhl_ex (fun k Γ M => ∃ a : Nat, Γ = [some (.d (tS xs)), some (.d (tS w)), some (.d (.int a))] ∧ M = [] ∧ k + a = w.length + 1 ∧ 2 * a ≤ w.length ∧ ∀ j, j < a → 2 * j + 1 < w.length ∧ w[j + 1]? = w[w.length - 2 - j]?) (w.length + 1) _ _ ⟨0, rfl, rfl, rfl, by omega, fun j h => by omega⟩ ?_
    rintro k Γ M E' ⟨a, rfl, rfl, hk, ha, hlow⟩ hnx _ _ _ _
    have hwl : ((w.map D.str).length : Int) = w.length := by simp
    have out : ¬ (2 * a + 1 < w.length ∧ w[a + 1]? = w[w.length - 2 - a]?) → wSs sg b_core_1 [some (.d (tS xs)), some (.d (tS w)), some (.d (.int a))] [] E := by
      intro hst
      unfold b_core_1
      conv => whnf
      rw [cutG_stem rfl]
      rw [hwl, cutG_mid (by omega)]
      subst hE
      conv => whnf
      exact hq a ⟨hlow, hst⟩
    conv => whnf
    refine ⟨cmul_l (by omega) (by omega), ?_⟩
    conv => whnf
    refine ifB_d (fun c2 => ?_) (fun c2 => ?_)
    · have h2 : 2 * a + 1 < w.length := by omega
      obtain ⟨x, hx1⟩ := KM.some_at (w := w) (i := a + 1) (by omega)
      obtain ⟨y, hy1⟩ := KM.some_at (w := w) (i := w.length - 2 - a) (by omega)
      conv => whnf
      refine optK_some (atI_n (j := a + 1) (x := .str x) (by rw [List.getElem?_map, hx1]; rfl) (.inl (by omega))) ?_
      conv => whnf
      refine optK_some (atI_n (j := w.length - 2 - a) (x := .str y) (by rw [List.getElem?_map, hy1]; rfl) (.inl (by omega))) ?_
      conv => whnf
      refine ifB_d (fun e => ?_) (fun e => ?_)
      · conv => whnf
        refine hnx (k - 1) _ _ (by omega) ⟨a + 1, rfl, rfl, by omega, by omega, fun j hj => ?_⟩
        by_cases hja : j = a
        · subst hja; exact ⟨h2, by rw [hx1, hy1, e]⟩
        · exact hlow j (by omega)
      · exact out fun z => e (by have := z.2; rw [hx1, hy1] at this; exact Option.some.inj this)
    · exact out fun z => c2 (by omega)
  · subst hE
    conv => whnf
    exact hr _ _ ⟨c, rfl, rfl⟩
end G

/-! G19: walks stay in the house; what repr tells of walks. -/
namespace G
open PySem PySem.Spec L2 PyProof.Rows DL
theorem rm_mem {rooms : List Str} {i : Int} (h : 0 ≤ i) (h2 : i < rooms.length) : rm rooms i ∈ rooms := by
  unfold rm
  rw [List.getD_eq_getElem?_getD, List.getElem?_eq_getElem (by omega)]
  exact List.getElem_mem _
theorem yd_rooms {rooms : List Str} {doors : List (Str × Str)} (h : Yd rooms doors) : ∀ e ∈ doors, e.1 ∈ rooms ∧ e.2 ∈ rooms := by
  obtain ⟨ps, rfl, hin⟩ := h
  have key : ∀ (ps : List (Int × Int)) (acc : List (Str × Str)), (∀ e ∈ ps, 0 ≤ e.1 ∧ e.1 < rooms.length ∧ 0 ≤ e.2 ∧ e.2 < rooms.length) → (∀ e ∈ acc, e.1 ∈ rooms ∧ e.2 ∈ rooms) → ∀ e ∈ ps.foldl (addD rooms) acc, e.1 ∈ rooms ∧ e.2 ∈ rooms := by
    intro ps
    induction ps with
    | nil => exact fun acc _ h => h
    | cons p ps ih =>
      intro acc hp h
      refine ih _ (fun e he => hp e (List.mem_cons_of_mem _ he)) ?_
      obtain ⟨a1, a2, a3, a4⟩ := hp p List.mem_cons_self
      unfold addD
      split
      · intro e he
        rcases List.mem_append.mp he with he | he
        · exact h e he
        · rw [List.mem_singleton.mp he]
          exact ⟨rm_mem a1 a2, rm_mem a3 a4⟩
      · exact h
  exact key ps [] hin fun e h => nomatch h
theorem others_rooms {rooms : List Str} {doors : List (Str × Str)} (h : Yd rooms doors) {a b : Str} (hb : b ∈ others doors a) : b ∈ rooms := by
  obtain ⟨e, he, c⟩ := mem_others.mp hb
  rcases c with ⟨_, rfl⟩ | ⟨_, _, rfl⟩
  · exact (yd_rooms h e he).2
  · exact (yd_rooms h e he).1
theorem wk_rooms {rooms : List Str} {doors : List (Str × Str)} (h : Yd rooms doors) {xs : List Str} {b : Str} (hw : Wk doors xs) (hb : xs.head? = some b) (hm : b ∈ rooms) : ∀ x ∈ xs, x ∈ rooms := by
  intro x hx
  obtain ⟨i, hi, rfl⟩ := List.getElem_of_mem hx
  cases i with
  | zero =>
    rw [List.head?_eq_getElem?, List.getElem?_eq_getElem hi] at hb
    rw [Option.some.inj hb]
    exact hm
  | succ i => exact others_rooms h (hw i _ _ (List.getElem?_eq_getElem (by omega)) (List.getElem?_eq_getElem hi))
theorem push_mem {acc : List Str} {x y : Str} (h : y ∈ KM.push acc x) : y ∈ acc ∨ y = x := by
  unfold KM.push at h
  split at h
  · exact .inl (List.dropLast_subset _ h)
  · exact (List.mem_append.mp h).imp id fun e => List.mem_singleton.mp e
theorem fold_mem : ∀ (xs acc : List Str) {y : Str}, y ∈ xs.foldl KM.push acc → y ∈ acc ∨ y ∈ xs
  | [], acc, y, h => .inl h
  | x :: xs, acc, y, h => by
    rcases fold_mem xs _ h with h | h
    · rcases push_mem h with h | rfl
      · exact .inl h
      · exact .inr List.mem_cons_self
    · exact .inr (List.mem_cons_of_mem _ h)
theorem shr_mem {xs : List Str} {y : Str} (h : y ∈ KM.shr xs) : y ∈ xs := (fold_mem xs [] h).elim (fun h => nomatch h) id
/-! what repr tells -/
theorem nm_repr {x : Str} (h : Nm x) : (reprText x).length ≤ 82 := by
  have := StrLaws.reprText_len x fun c hc => Nat.lt_of_le_of_lt (h.1 c hc).2 (by decide)
  have := h.2.2
  omega
theorem sum_le {l : List Nat} {k : Nat} (h : ∀ x ∈ l, x ≤ k) : l.sum ≤ k * l.length := by
  induction l with
  | nil => simp
  | cons x l ih =>
    have := ih fun y hy => h y (List.mem_cons_of_mem _ hy)
    have := h x List.mem_cons_self
    rw [List.sum_cons, List.length_cons, Nat.mul_succ]
    omega
theorem show_tups {xs : List Str} (h : ∀ x ∈ xs, Nm x) : (PyData.tuple (xs.map .str)).shown.length ≤ 84 * xs.length + 3 := by
  simp only [PyData.shown]
  rw [PyData.shownAll_strs]
  have h1 := tupleText_len_le (xs.map reprText)
  rw [List.length_map, List.map_map] at h1
  have h2 : ((xs.map ((fun t : Str => t.length) ∘ reprText))).sum ≤ 82 * xs.length := by
    have := sum_le (l := xs.map ((fun t : Str => t.length) ∘ reprText)) (k := 82) fun y hy => by
      obtain ⟨x, hx, rfl⟩ := List.mem_map.mp hy
      exact nm_repr (h x hx)
    rwa [List.length_map] at this
  omega
theorem able_strs (xs : List Str) : PyData.showableAll (xs.map .str) = true := PyData.showableAll_strs xs
theorem py_core (w : List Str) (a : Nat) : toPy (coreD w a) = some (.tuple [.tuple ((KM.stem w a).map .str), .tuple ((KM.mid w a).map .str)]) := by
  simp only [coreD, toPy, toPys, toPys_strs]
theorem show_pair {xs ys : List Str} (h1 : ∀ x ∈ xs, Nm x) (h2 : ∀ x ∈ ys, Nm x) (hl : xs.length + ys.length ≤ 100000) : ShowOk (.tuple [.tuple (xs.map .str), .tuple (ys.map .str)]) := by
  have hsz := sizeLine_eq
  unfold ShowOk
  refine ⟨?_, ?_, ?_⟩
  · simp only [PyData.showable, PyData.showableAll, able_strs, Bool.and_self]
  · have e1 := dep_tups xs
    have e2 := dep_tups ys
    have d1 : (PyData.tuple (xs.map PyData.str)).depth ≤ 2 := by simp only [PyData.depth, dep_strs0]; omega
    have d2 : (PyData.tuple (ys.map PyData.str)).depth ≤ 2 := by simp only [PyData.depth, dep_strs0]; omega
    show (PyData.tuple [_, _]).depth ≤ 64
    rw [PyData.depth]
    simp only [PyData.depthAll]
    omega
  · have s1 := show_tups h1
    have s2 := show_tups h2
    have e : (PyData.tuple [.tuple (xs.map PyData.str), .tuple (ys.map PyData.str)]).shown = tupleText [(PyData.tuple (xs.map PyData.str)).shown, (PyData.tuple (ys.map PyData.str)).shown] := by
      conv => lhs; rw [PyData.shown]
      rw [PyData.shownAll_cons, PyData.shownAll_cons, PyData.shownAll_nil]
    rw [e]
    have h3 := tupleText_len_le [(PyData.tuple (xs.map PyData.str)).shown, (PyData.tuple (ys.map PyData.str)).shown]
    simp only [List.map_cons, List.map_nil, List.sum_cons, List.sum_nil, List.length_cons, List.length_nil] at h3
    omega
end G

/-! KM4: endless rows; closed walks as a walk out, a stretch of an endless row, the walk back. -/
namespace KM
variable {α : Type} [DecidableEq α]
/-- a stretch of an endless row -/
def seg (c : Int → α) (k : Int) (n : Nat) : List α := (List.range (n + 1)).map fun (i : Nat) => c (k + (i : Int))
section
variable {c : Int → α} {k : Int} {n : Nat}
theorem seg_len : (seg c k n).length = n + 1 := by unfold seg; simp
theorem seg_get {i : Nat} (h : i ≤ n) : (seg c k n)[i]? = some (c (k + i)) := by
  unfold seg
  rw [List.getElem?_map, List.getElem?_range (by omega)]
  rfl
theorem seg_some {i : Nat} {x : α} (h : (seg c k n)[i]? = some x) : i ≤ n ∧ x = c (k + i) := by
  have hl := (List.getElem?_eq_some_iff.mp h).1
  rw [seg_len] at hl
  rw [seg_get (by omega)] at h
  exact ⟨by omega, (Option.some.inj h).symm⟩
theorem seg_ne : seg c k n ≠ [] := by
  intro e
  have := seg_len (c := c) (k := k) (n := n)
  rw [e] at this
  simp at this
theorem seg_head : (seg c k n).head? = some (c k) := by
  rw [List.head?_eq_getElem?, seg_get (by omega)]
  simp
theorem seg_last : (seg c k n).getLast? = some (c (k + n)) := by
  rw [List.getLast?_eq_getElem?, seg_len, seg_get (by omega)]
  simp
theorem seg_cons : seg c k (n + 1) = c k :: seg c (k + 1) n := by
  refine List.ext_getElem? fun i => ?_
  cases i with
  | zero => rw [seg_get (by omega)]; simp
  | succ i =>
    rw [List.getElem?_cons_succ]
    by_cases h : i ≤ n
    · rw [seg_get (by omega), seg_get h]
      congr 2
      omega
    · rw [List.getElem?_eq_none (by rw [seg_len]; omega), List.getElem?_eq_none (by rw [seg_len]; omega)]
theorem seg_snoc : seg c k (n + 1) = seg c k n ++ [c (k + n + 1)] := by
  unfold seg
  rw [List.range_succ (n := n + 1), List.map_append]
  congr 1
  simp only [List.map_cons, List.map_nil]
  congr 2
  omega
theorem seg_zero : seg c k 0 = [c k] := by unfold seg; simp
theorem seg_cat {m : Nat} : cat (seg c k m) (seg c (k + m) n) = seg c k (m + n) := by
  induction n with
  | zero => unfold cat; rw [seg_zero]; simp
  | succ n ih =>
    rw [← Nat.add_assoc, seg_snoc, seg_snoc, ← ih]
    unfold cat
    rw [List.tail_append_of_ne_nil seg_ne, List.append_assoc]
    congr 4
    omega
theorem seg_rev : (seg c k n).reverse = seg (fun i => c (-i)) (-(k + n)) n := by
  refine List.ext_getElem? fun i => ?_
  by_cases h : i ≤ n
  · rw [List.getElem?_reverse (by rw [seg_len]; omega), seg_len, seg_get (by omega), seg_get h]
    congr 2
    omega
  · rw [List.getElem?_eq_none (by rw [List.length_reverse, seg_len]; omega), List.getElem?_eq_none (by rw [seg_len]; omega)]
theorem seg_congr {c' : Int → α} {k' : Int} (h : ∀ i : Nat, i ≤ n → c (k + i) = c' (k' + i)) : seg c k n = seg c' k' n := by
  refine List.ext_getElem? fun i => ?_
  by_cases hi : i ≤ n
  · rw [seg_get hi, seg_get hi, h i hi]
  · rw [List.getElem?_eq_none (by rw [seg_len]; omega), List.getElem?_eq_none (by rw [seg_len]; omega)]
end
/-- each n places the same -/
def Per (c : Int → α) (n : Int) : Prop := ∀ i, c (i + n) = c i
theorem Per.neg {c : Int → α} {n : Int} (h : Per c n) : Per c (-n) := fun i => by
  have := h (i + -n)
  rw [show i + -n + n = i by omega] at this
  exact this.symm
theorem Per.add {c : Int → α} {m n : Int} (h : Per c m) (g : Per c n) : Per c (m + n) := fun i => by
  rw [← Int.add_assoc, g, h]
theorem Per.sub {c : Int → α} {m n : Int} (h : Per c m) (g : Per c n) : Per c (m - n) := by
  rw [Int.sub_eq_add_neg]; exact h.add g.neg
theorem Per.mulN {c : Int → α} {n : Int} (h : Per c n) : ∀ m : Nat, Per c (m * n)
  | 0 => fun i => by simp
  | m + 1 => by
    have := (h.mulN m).add h
    rw [show ((m + 1 : Nat) : Int) * n = (m : Int) * n + n by rw [Int.natCast_add, Int.add_mul]; simp]
    exact this
theorem Per.mul {c : Int → α} {n : Int} (h : Per c n) (m : Int) : Per c (m * n) := by
  rcases Int.eq_nat_or_neg m with ⟨k, rfl | rfl⟩
  · exact h.mulN k
  · rw [Int.neg_mul]; exact (h.mulN k).neg
theorem Per.mod {c : Int → α} {m n : Int} (h : Per c m) (g : Per c n) : Per c (m % n) := by
  have e : m % n = m - (m / n) * n := by rw [Int.emod_def, Int.mul_comm]
  rw [e]
  exact h.sub (g.mul _)
theorem Per.seg {c : Int → α} {n : Int} (h : Per c n) (k : Int) (m : Nat) : seg c (k + n) m = seg c k m := seg_congr fun i _ => by
  rw [show k + n + (i : Int) = k + i + n by omega, h]
/-- an endless row that goes round in n steps, nowhere straight back -/
structure Cyc (c : Int → α) (n : Nat) : Prop where
  pos : 0 < n
  per : Per c n
  red : ∀ i, c i ≠ c (i + 2)
theorem seg_red {c : Int → α} (h : ∀ i, c i ≠ c (i + 2)) (k : Int) (n : Nat) : Red (seg c k n) := fun i x h1 h2 => by
  obtain ⟨_, e1⟩ := seg_some h1
  obtain ⟨_, e2⟩ := seg_some h2
  refine h (k + i) ?_
  rw [← e1, e2]
  congr 1
  omega
theorem Cyc.mul {c : Int → α} {n : Nat} (h : Cyc c n) {m : Nat} (hm : 0 < m) : Cyc c (m * n) := ⟨Nat.mul_pos hm h.pos, by rw [Int.natCast_mul]; exact h.per.mulN m, h.red⟩
theorem Cyc.rev {c : Int → α} {n : Nat} (h : Cyc c n) : Cyc (fun i => c (-i)) n := ⟨h.pos, fun i => by
  show c (-(i + n)) = c (-i)
  rw [Int.neg_add]
  exact h.per.neg (-i), fun i e => h.red (-(i + 2)) (by show c _ = c _; rw [show -(i + 2) + 2 = -i by omega]; exact e.symm)⟩
theorem red_cat {u v : List α} {x : α} (hu : Red u) (hv : Red v) (h1 : u.getLast? = some x) (h2 : v.head? = some x) (hj : ∀ y z, 2 ≤ u.length → u[u.length - 2]? = some y → v[1]? = some z → y ≠ z) : Red (cat u v) := by
  have hne : u ≠ [] := by intro e; rw [e] at h1; cases h1
  have hul : 0 < u.length := List.length_pos_iff.mpr hne
  have ev := split_head h2
  have get : ∀ i, u.length - 1 ≤ i → (cat u v)[i]? = v[i - (u.length - 1)]? := fun i hi => by
    unfold cat
    by_cases c : i < u.length
    · rw [List.getElem?_append_left c]
      have e : i = u.length - 1 := by omega
      rw [e, Nat.sub_self, ← List.getLast?_eq_getElem?, ← List.head?_eq_getElem?, h1, h2]
    · rw [List.getElem?_append_right (by omega), List.getElem?_tail]
      congr 1
      omega
  have getl : ∀ i, i < u.length → (cat u v)[i]? = u[i]? := fun i hi => by
    unfold cat; rw [List.getElem?_append_left hi]
  intro i y e1 e2
  by_cases c1 : i + 2 < u.length
  · rw [getl _ (by omega)] at e1
    rw [getl _ c1] at e2
    exact hu i y e1 e2
  · by_cases c2 : u.length - 1 ≤ i
    · rw [get _ c2] at e1
      rw [get _ (by omega), show i + 2 - (u.length - 1) = i - (u.length - 1) + 2 by omega] at e2
      exact hv _ y e1 e2
    · have c3 : i = u.length - 2 := by omega
      rw [getl _ (by omega), c3] at e1
      rw [get _ (by omega), show i + 2 - (u.length - 1) = 1 by omega] at e2
      exact hj y y (by omega) e1 e2 rfl
theorem cat_len {u v : List α} (hv : v ≠ []) : (cat u v).length + 1 = u.length + v.length := by
  unfold cat
  have := List.length_pos_iff.mpr hv
  rw [List.length_append, List.length_tail]
  omega
/-- out, along the row, back -/
def lead (u : List α) (r : List α) : List α := cat (cat u r) u.reverse
theorem shr_lt {u : List α} (h : ¬ Red u) : (shr u).length < u.length := by
  obtain ⟨i, x, e1, e2⟩ := not_red h
  have hl := (List.getElem?_eq_some_iff.mp e2).1
  have e := shr_outAt (xs := u) (i := i + 1) (x := x) (by omega) (by simpa using e1) (by simpa using e2)
  have h1 := shr_le (outAt u (i + 1))
  have h2 := outAt_len (xs := u) (i := i + 1) (by omega)
  rw [← e]
  omega
theorem rev_head {u : List α} {x : α} (h : u.getLast? = some x) : u.reverse.head? = some x := by rw [List.head?_reverse]; exact h
theorem rev_last {u : List α} {x : α} (h : u.head? = some x) : u.reverse.getLast? = some x := by rw [List.getLast?_reverse]; exact h
theorem shr_lead {u r : List α} {x : α} (h1 : u.getLast? = some x) (h2 : r.head? = some x) (h3 : r.getLast? = some x) : shr (lead (shr u) r) = shr (lead u r) := by
  unfold lead
  have e1 : (cat u r).getLast? = some x := by rw [cat_last h1 h2]; exact h3
  have e2 : (cat (shr u) r).getLast? = some x := by rw [cat_last (by rw [shr_last]; exact h1) h2]; exact h3
  rw [← shr_rev, shr_cat_r e2 (rev_head h1), ← shr_cat_l (cat (shr u) r), shr_cat_l u r, shr_cat_l]
theorem lead_fwd {c : Int → α} {n : Nat} (hp : Per c n) (hn : 0 < n) (k : Int) (u : List α) : shr (lead (u ++ [c (k + 1), c k]) (seg c k n)) = shr (lead (u ++ [c (k + 1)]) (seg c (k + 1) n)) := by
  obtain ⟨m, rfl⟩ : ∃ m, n = m + 1 := ⟨n - 1, by omega⟩
  unfold lead cat
  rw [seg_cons, seg_snoc]
  have e : c (k + 1 + (m : Int) + 1) = c (k + 1) := by
    have := hp (k + 1)
    rw [← this]
    congr 1
    omega
  rw [e]
  cases m with
  | zero =>
    have e3 : c (k + 1) = c k := hp k
    have := shr_out u (u.reverse) (c (k+1)) (c (k+1))
    rw [seg_zero]
    simp only [List.tail_cons, List.reverse_append, List.reverse_cons, List.reverse_nil, List.nil_append, List.append_assoc, List.cons_append, List.singleton_append, e3]
    rw [e3] at this
    have t2 := shr_out u (c k :: u.reverse) (c k) (c k)
    exact t2
  | succ m =>
    rw [seg_cons, List.tail_cons, List.tail_append_of_ne_nil (by simp)]
    simp only [List.tail_cons, List.reverse_append, List.reverse_cons, List.reverse_nil, List.nil_append, List.append_assoc, List.cons_append, List.singleton_append]
    exact shr_out u _ (c (k + 1)) (c k)
theorem lead_bwd {c : Int → α} {n : Nat} (hp : Per c n) (hn : 0 < n) (k : Int) (u : List α) : shr (lead (u ++ [c (k - 1), c k]) (seg c k n)) = shr (lead (u ++ [c (k - 1)]) (seg c (k - 1) n)) := by
  obtain ⟨m, rfl⟩ : ∃ m, n = m + 1 := ⟨n - 1, by omega⟩
  unfold lead cat
  rw [seg_cons (k := k - 1), show k - 1 + 1 = k by omega, seg_snoc]
  have e : c (k + (m : Int) + 1) = c k := by
    have := hp k
    rw [← this]
    congr 1
    omega
  have e2 : (seg c k m).getLast? = some (c (k - 1)) := by
    rw [seg_last]
    have := hp (k - 1)
    rw [← this]
    congr 2
    omega
  rw [e]
  obtain ⟨s, hs⟩ := split_last e2
  have hh := split_head (seg_head (c := c) (k := k) (n := m))
  rw [List.tail_append_of_ne_nil seg_ne]
  have a1 : u ++ [c (k - 1), c k] ++ ((seg c k m).tail ++ [c k]) ++ (u ++ [c (k - 1), c k]).reverse.tail = (u ++ [c (k - 1)] ++ s) ++ c (k - 1) :: c k :: c (k - 1) :: u.reverse := by
    have : c k :: (seg c k m).tail = s ++ [c (k - 1)] := by rw [← hh, hs]
    simp only [List.reverse_append, List.reverse_cons, List.reverse_nil, List.nil_append, List.append_assoc, List.cons_append, List.singleton_append, List.tail_cons]
    have t := congrArg (fun l => u ++ c (k - 1) :: (l ++ c k :: c (k - 1) :: u.reverse)) this
    simpa using t
  have a2 : u ++ [c (k - 1)] ++ (c (k - 1) :: seg c k m).tail ++ (u ++ [c (k - 1)]).reverse.tail = (u ++ [c (k - 1)] ++ s) ++ c (k - 1) :: u.reverse := by
    rw [hs]
    simp
  rw [a1, a2, shr_out]
/-- led to where nothing goes straight back -/
theorem lead_norm {c : Int → α} {n : Nat} (h : Cyc c n) : ∀ (N : Nat) (u : List α) (k : Int), u.length ≤ N → u.getLast? = some (c k) → ∃ u' k', u'.getLast? = some (c k') ∧ u'.head? = u.head? ∧ Red (lead u' (seg c k' n)) ∧ ∀ m : Nat, 0 < m → Per c m → shr (lead u (seg c k m)) = shr (lead u' (seg c k' m))
  | 0, u, k, hl, hu => by
    have : u = [] := List.length_eq_zero_iff.mp (by omega)
    subst this
    cases hu
  | N + 1, u, k, hl, hu => by
    have hper : ∀ m : Nat, Per c m → (seg c k m).getLast? = some (c k) := fun m hm => by rw [seg_last, hm]
    by_cases hr : Red u
    · obtain ⟨s, rfl⟩ := split_last hu
      by_cases hs : s = []
      · subst hs
        refine ⟨[c k], k, rfl, rfl, ?_, fun m _ _ => rfl⟩
        have : lead [c k] (seg c k n) = seg c k n := by
          unfold lead cat
          have := split_head (seg_head (c := c) (k := k) (n := n))
          simp [← this]
        rw [this]
        exact seg_red h.red _ _
      · obtain ⟨s', y, rfl⟩ : ∃ s' y, s = s' ++ [y] := ⟨s.dropLast, s.getLast hs, (List.dropLast_concat_getLast hs).symm⟩
        have hl2 : s'.length + 1 ≤ N := by simp at hl; omega
        by_cases c1 : y = c (k + 1)
        · subst c1
          obtain ⟨u', k', g1, g2, g3, g4⟩ := lead_norm h N (s' ++ [c (k + 1)]) (k + 1) (by simpa using hl2) (by simp)
          refine ⟨u', k', g1, by rw [g2]; cases s' <;> rfl, g3, fun m hm hp => ?_⟩
          rw [← g4 m hm hp, ← lead_fwd hp hm]
          simp
        · by_cases c2 : y = c (k - 1)
          · subst c2
            obtain ⟨u', k', g1, g2, g3, g4⟩ := lead_norm h N (s' ++ [c (k - 1)]) (k - 1) (by simpa using hl2) (by simp)
            refine ⟨u', k', g1, by rw [g2]; cases s' <;> rfl, g3, fun m hm hp => ?_⟩
            rw [← g4 m hm hp, ← lead_bwd hp hm]
            simp
          · refine ⟨_, k, hu, rfl, ?_, fun m _ _ => rfl⟩
            have hy : (s' ++ [y] ++ [c k])[(s' ++ [y] ++ [c k]).length - 2]? = some y := by
              rw [List.getElem?_append_left (by simp), List.length_append, List.length_append]
              simp
            have hn := h.pos
            have e1 : Red (cat (s' ++ [y] ++ [c k]) (seg c k n)) := by
              refine red_cat hr (seg_red h.red _ _) hu seg_head fun a b _ h1 h2 => ?_
              rw [hy] at h1
              obtain ⟨_, e⟩ := seg_some h2
              cases h1
              rw [e]
              exact c1
            refine red_cat e1 (red_rev hr) (by rw [cat_last hu seg_head]; exact hper n h.per) (rev_head hu) fun a b _ h1 h2 => ?_
            have e2 : (s' ++ [y] ++ [c k]).reverse[1]? = some y := by simp
            rw [e2] at h2
            cases h2
            have e3 := cat_len (u := s' ++ [y] ++ [c k]) (seg_ne (c := c) (k := k) (n := n))
            rw [seg_len] at e3
            have e4 : (cat (s' ++ [y] ++ [c k]) (seg c k n)).length - 2 = (s' ++ [y] ++ [c k]).length - 1 + (n - 1) := by
              simp at e3 ⊢
              omega
            rw [e4] at h1
            have e5 : a = c (k - 1) := by
              unfold cat at h1
              by_cases h0 : n = 1
              · subst h0
                rw [List.getElem?_append_left (by simp), show 1 - 1 = 0 from rfl, Nat.add_zero, ← List.getLast?_eq_getElem?, hu] at h1
                rw [← Option.some.inj h1]
                have := h.per (k - 1)
                rw [← this]
                congr 1
                omega
              · rw [List.getElem?_append_right (by simp; omega), List.getElem?_tail] at h1
                obtain ⟨_, e⟩ := seg_some h1
                rw [e]
                have := h.per (k - 1)
                rw [← this]
                congr 1
                simp
                omega
            rw [e5]
            exact fun e => c2 e.symm
    · have hlt := shr_lt hr
      obtain ⟨u', k', g1, g2, g3, g4⟩ := lead_norm h N (shr u) k (by omega) (by rw [shr_last]; exact hu)
      refine ⟨u', k', g1, by rw [g2, shr_head], g3, fun m hm hp => ?_⟩
      rw [← g4 m hm hp, shr_lead hu seg_head (hper m hp)]
end KM

/-! KM5: the core of a closed walk as a stretch of an endless row; roots. -/
namespace KM
variable {α : Type} [DecidableEq α]
section
variable {c : Int → α} {n : Nat} {u : List α} {k : Int}
theorem lead_len (hu : u ≠ []) : (lead u (seg c k n)).length + 1 = 2 * u.length + n := by
  unfold lead
  have h1 := cat_len (u := cat u (seg c k n)) (v := u.reverse) (by simpa using hu)
  have h2 := cat_len (u := u) (seg_ne (c := c) (k := k) (n := n))
  rw [seg_len] at h2
  rw [List.length_reverse] at h1
  omega
theorem lead_get_l {j : Nat} (h : j < u.length) : (lead u (seg c k n))[j]? = u[j]? := by
  unfold lead cat
  rw [List.append_assoc, List.getElem?_append_left h]
theorem lead_get_m (hu : u.getLast? = some (c k)) {i : Nat} (h : i ≤ n) : (lead u (seg c k n))[u.length - 1 + i]? = some (c (k + i)) := by
  have hne : u ≠ [] := by intro e; rw [e] at hu; cases hu
  have hl : 0 < u.length := List.length_pos_iff.mpr hne
  cases i with
  | zero =>
    rw [Nat.add_zero, lead_get_l (by omega), ← List.getLast?_eq_getElem?, hu]
    simp
  | succ i =>
    unfold lead cat
    rw [List.append_assoc, List.getElem?_append_right (by omega), List.getElem?_append_left (by rw [List.length_tail, seg_len]; omega), List.getElem?_tail]
    rw [show u.length - 1 + (i + 1) - u.length + 1 = i + 1 by omega, seg_get h]
theorem lead_get_r (hp : Per c n) (hu : u.getLast? = some (c k)) {j : Nat} (h : j < u.length) : (lead u (seg c k n))[2 * u.length + n - 2 - j]? = u[j]? := by
  have hne : u ≠ [] := by intro e; rw [e] at hu; cases hu
  by_cases e : j = u.length - 1
  · subst e
    rw [show 2 * u.length + n - 2 - (u.length - 1) = u.length - 1 + n by omega, lead_get_m hu (Nat.le_refl _), hp, ← List.getLast?_eq_getElem?, hu]
  · have e1 : (cat u (seg c k n)).length = u.length + n := by
      have := cat_len (u := u) (seg_ne (c := c) (k := k) (n := n))
      rw [seg_len] at this
      omega
    unfold lead
    show (cat u (seg c k n) ++ u.reverse.tail)[2 * u.length + n - 2 - j]? = u[j]?
    rw [List.getElem?_append_right (by omega), e1, List.getElem?_tail, List.getElem?_reverse (by omega)]
    congr 1
    omega
/-- the core of a row led out and back -/
theorem lead_core (h : Cyc c n) (hu : u.getLast? = some (c k)) : Cor (lead u (seg c k n)) (u.length - 1) ∧ stem (lead u (seg c k n)) (u.length - 1) = u ∧ mid (lead u (seg c k n)) (u.length - 1) = seg c k n := by
  have hne : u ≠ [] := by intro e; rw [e] at hu; cases hu
  have hl : 0 < u.length := List.length_pos_iff.mpr hne
  have hlen := lead_len (c := c) (k := k) (n := n) hne
  have hn := h.pos
  refine ⟨⟨fun j hj => ⟨by omega, ?_⟩, fun ⟨h1, h2⟩ => ?_⟩, ?_, ?_⟩
  · rw [lead_get_l (by omega), show (lead u (seg c k n)).length - 2 - j = 2 * u.length + n - 2 - (j + 1) by omega, lead_get_r h.per hu (by omega)]
  · rw [lead_get_m hu (i := 1) (by omega), show (lead u (seg c k n)).length - 2 - (u.length - 1) = u.length - 1 + (n - 1) by omega, lead_get_m hu (by omega)] at h2
    have := Option.some.inj h2
    refine h.red (k - 1) ?_
    have e1 := h.per (k - 1)
    rw [← e1, show k - 1 + (n : Int) = k + ((n - 1 : Nat) : Int) by omega, ← this]
    congr 1
    omega
  · unfold stem
    rw [show u.length - 1 + 1 = u.length by omega]
    unfold lead cat
    rw [List.append_assoc, List.take_left']
    rfl
  · refine List.ext_getElem? fun i => ?_
    by_cases hi : i ≤ n
    · rw [mid_get (by omega), lead_get_m hu hi, seg_get hi]
    · rw [List.getElem?_eq_none (by rw [mid_len]; omega), List.getElem?_eq_none (by rw [seg_len]; omega)]
end
/-- a walk that is, but for what goes straight back, out, n steps along the row, and back -/
def Of (xs : List α) (c : Int → α) (n : Nat) : Prop := ∃ (u : List α) (k : Int), u.head? = xs.head? ∧ u.getLast? = some (c k) ∧ shr xs = shr (lead u (seg c k n))
/-- told by its core -/
theorem Of.core {xs : List α} {c : Int → α} {n : Nat} (h : Of xs c n) (hc : Cyc c n) {a : Nat} (ha : Cor (shr xs) a) : ∃ k, mid (shr xs) a = seg c k n ∧ (stem (shr xs) a).getLast? = some (c k) ∧ (stem (shr xs) a).head? = xs.head? ∧ ∀ (u : List α) (k' : Int), u.getLast? = some (c k') → shr xs = shr (lead u (seg c k' n)) → ∀ m : Nat, 0 < m → Per c m → shr (lead u (seg c k' m)) = shr (lead (stem (shr xs) a) (seg c k m)) := by
  obtain ⟨u, k, h1, h2, h3⟩ := h
  obtain ⟨u', k', g1, g2, g3, g4⟩ := lead_norm hc _ u k (Nat.le_refl _) h2
  have e := g4 n hc.pos hc.per
  rw [shr_of_red g3] at e
  rw [e] at h3
  obtain ⟨c1, c2, c3⟩ := lead_core hc g1
  rw [h3] at ha ⊢
  obtain rfl := c1.uniq ha
  rw [c2, c3]
  refine ⟨k', rfl, g1, by rw [g2, h1], fun v j hv hx m hm hp => ?_⟩
  obtain ⟨v', j', f1, f2, f3, f4⟩ := lead_norm hc _ v j (Nat.le_refl _) hv
  have e2 := f4 n hc.pos hc.per
  rw [shr_of_red f3] at e2
  rw [f4 m hm hp]
  obtain ⟨d1, d2, d3⟩ := lead_core hc f1
  have e3 : lead u' (seg c k' n) = lead v' (seg c j' n) := hx.trans e2
  rw [e3] at c1 c2 c3
  have ea := c1.uniq d1
  rw [ea] at c2 c3
  rw [d2] at c2
  rw [d3] at c3
  subst c2
  -- the rows along which both go are one
  have same : ∀ i : Nat, c (j' + i) = c (k' + i) := fun i => by
    have hn := hc.pos
    have e4 : ((seg c j' n)[i % n]?) = ((seg c k' n)[i % n]?) := by rw [c3]
    have hlt := Nat.mod_lt i hn
    rw [seg_get (by omega), seg_get (by omega)] at e4
    have e5 := Option.some.inj e4
    have sh : ∀ z : Int, c (z + i) = c (z + ((i % n : Nat) : Int)) := fun z => by
      have := hc.per.mulN (i / n) (z + ((i % n : Nat) : Int))
      rw [← this]
      congr 1
      have := Nat.div_add_mod i n
      have e6 : ((i : Int)) = (n : Int) * ((i / n : Nat) : Int) + ((i % n : Nat) : Int) := by exact_mod_cast this.symm
      rw [e6, Int.mul_comm]
      omega
    rw [sh, sh, e5]
  rw [seg_congr (c' := c) (k' := k') fun i _ => same i]
/-- a closed walk that isn't nothing goes along such a row -/
theorem of_cor {w : List α} {a : Nat} (ha : Cor w a) (hn : w ≠ []) (hc : w.head? = w.getLast?) (hr : Red w) (hap : Apt w) (hl : w.length ≠ 1) : ∃ (c : Int → α) (n : Nat), Cyc c n ∧ 3 ≤ n ∧ mid w a = seg c 0 n ∧ (stem w a).getLast? = some (c 0) ∧ (stem w a).head? = w.head? ∧ w = lead (stem w a) (seg c 0 n) := by
  rcases ha.long hn hc hr hap with ⟨h1, _⟩ | ⟨h1, h2⟩
  · exact absurd h1 hl
  obtain ⟨q1, q2, q3⟩ := ha.ring hn hc hr hap
  have hml := mid_len w a
  obtain ⟨e1, e2⟩ := ring_ends (w := w) (j := a) (by omega)
  rw [← e1, ← e2] at h2
  have hR := hr.mid a
  have hw := ha.whole hn hc hr hap
  have hst : (stem w a).getLast? = (mid w a).head? := by
    unfold stem
    rw [List.getLast?_eq_getElem?, List.length_take, List.head?_eq_getElem?, mid_get (by omega), List.getElem?_take_of_lt (by omega)]
    congr 1
    omega
  have hsh : (stem w a).head? = w.head? := by
    unfold stem
    rw [List.head?_take, if_neg (by omega)]
  generalize hr' : mid w a = r at *
  obtain ⟨n, hn1⟩ : ∃ n, r.length = n + 1 := ⟨r.length - 1, by omega⟩
  have hn3 : 3 ≤ n := by omega
  obtain ⟨x0, hx0⟩ := some_at (w := r) (i := 0) (by omega)
  have hc0 : r[n]? = some x0 := by rw [List.head?_eq_getElem?, List.getLast?_eq_getElem?, hn1] at q2; rw [← hx0, q2]; rfl
  let c : Int → α := fun i => r.getD (i % (n : Int)).toNat x0
  have hmod : ∀ i : Int, 0 ≤ i % (n : Int) ∧ i % (n : Int) < n := fun i => ⟨Int.emod_nonneg _ (by omega), Int.emod_lt_of_pos _ (by omega)⟩
  have cget : ∀ i : Int, r[(i % (n : Int)).toNat]? = some (c i) := fun i => by
    have := hmod i
    show _ = some (r.getD _ x0)
    rw [List.getD_eq_getElem?_getD, List.getElem?_eq_getElem (by omega)]
    rfl
  have csm : ∀ i : Nat, i ≤ n → r[i]? = some (c i) := fun i hi => by
    by_cases e : i = n
    · subst e
      rw [hc0, ← cget, Int.emod_self]
      exact hx0.symm
    · rw [← cget, Int.emod_eq_of_lt (by omega) (by omega)]
      rfl
  have per : Per c n := fun i => by
    show r.getD _ _ = r.getD _ _
    rw [Int.add_emod_right]
  have red : ∀ i, c i ≠ c (i + 2) := fun i e => by
    have hm := hmod i
    have key : ∀ d : Nat, c (i + d) = c (i % n + d) := fun d => by
      show r.getD _ _ = r.getD _ _
      rw [Int.emod_add_emod]
    obtain ⟨j, hj⟩ : ∃ j : Nat, i % (n : Int) = j := ⟨(i % (n : Int)).toNat, by omega⟩
    have k0 := key 0
    have k2 := key 2
    rw [hj] at k0 k2 hm
    have e' : c (j : Int) = c ((j : Int) + 2) := by
      have : c (i + 0) = c (i + 2) := by rw [Int.add_zero]; exact e
      have k0' : c (i + 0) = c ((j : Int) + 0) := k0
      rw [Int.add_zero (j : Int)] at k0'
      exact k0'.symm.trans (this.trans k2)
    by_cases c1 : j + 2 ≤ n
    · have a1 := csm j (by omega)
      have a2 := csm (j + 2) c1
      rw [e'] at a1
      exact hR j _ a1 (by rw [a2]; rfl)
    · have ej : j = n - 1 := by omega
      have a1 := csm (n - 1) (by omega)
      have a2 := csm 1 (by omega)
      have a3 : c ((j : Int) + 2) = c 1 := by
        have := per 1
        rw [← this]
        congr 1
        omega
      refine h2 ?_
      rw [hn1, show n + 1 - 2 = n - 1 by omega, a1, a2, ← ej, e', a3]
      rfl
  have er : r = seg c 0 n := by
    refine List.ext_getElem? fun i => ?_
    by_cases hi : i ≤ n
    · rw [csm i hi, seg_get hi, Int.zero_add]
    · rw [List.getElem?_eq_none (by omega), List.getElem?_eq_none (by rw [seg_len]; omega)]
  refine ⟨c, n, ⟨by omega, per, red⟩, hn3, er, ?_, hsh, ?_⟩
  · rw [hst, er, seg_head]
  · rw [← er]
    exact hw.symm
end KM

/-! KM6: closed walks led, begun elsewhere, turned about, so many times; least parts. -/
namespace KM
variable {α : Type} [DecidableEq α]
theorem shr_cat_congr {x x' y y' : List α} {a : α} (h1 : shr x = shr x') (h2 : shr y = shr y') (hx : x.getLast? = some a) (hy : y.head? = some a) : shr (cat x y) = shr (cat x' y') := by
  have hx' : x'.getLast? = some a := by rw [← shr_last, ← h1, shr_last]; exact hx
  have hy' : y'.head? = some a := by rw [← shr_head, ← h2, shr_head]; exact hy
  rw [← shr_cat_l x y, ← shr_cat_l x' y', h1]
  rw [← shr_cat_r (u := shr x') (by rw [shr_last]; exact hx') hy, ← shr_cat_r (u := shr x') (by rw [shr_last]; exact hx') hy', h2]
theorem lead_head {u r : List α} (h : u ≠ []) : (lead u r).head? = u.head? := by
  unfold lead
  rw [cat_head (cat_ne h), cat_head h]
theorem lead_last {u r : List α} {x : α} (h1 : u.getLast? = some x) (h2 : r.head? = some x) (h3 : r.getLast? = some x) : (lead u r).getLast? = u.head? := by
  unfold lead
  rw [cat_last (a := x) (by rw [cat_last h1 h2]; exact h3) (rev_head h1), List.getLast?_reverse]
/-- led by a walk -/
theorem lead_cat {p u r : List α} {a x : α} (hp : p.getLast? = some a) (hu : u.head? = some a) (h1 : u.getLast? = some x) (h2 : r.head? = some x) (h3 : r.getLast? = some x) : lead (cat p u) r = cat (cat p (lead u r)) p.reverse := by
  have hune : u ≠ [] := by intro e; rw [e] at hu; cases hu
  unfold lead
  rw [cat_rev hp hu, cat_assoc (u := p) hune, ← cat_assoc (v := u.reverse) (by simpa using hune)]
  rw [cat_assoc (u := p) (v := cat u r) (cat_ne hune)]
theorem Of.led {xs : List α} {c : Int → α} {n : Nat} (h : Of xs c n) {p : List α} {a : α} (hp : p.getLast? = some a) (hx : xs.head? = some a) (hl : xs.getLast? = some a) (hper : Per c n) : Of (cat (cat p xs) p.reverse) c n := by
  obtain ⟨u, k, h1, h2, h3⟩ := h
  have hu : u.head? = some a := by rw [h1, hx]
  have hpn : p ≠ [] := by intro e; rw [e] at hp; cases hp
  have hs : (seg c k n).getLast? = some (c k) := by rw [seg_last, hper]
  refine ⟨cat p u, k, ?_, by rw [cat_last hp hu]; exact h2, ?_⟩
  · rw [cat_head hpn, cat_head (cat_ne hpn), cat_head hpn]
  · rw [lead_cat hp hu h2 seg_head hs]
    refine shr_cat_congr ?_ rfl (a := a) ?_ (rev_head hp)
    · exact shr_cat_congr rfl h3 hp hx
    · rw [cat_last hp hx]; exact hl
/-- begun at another place -/
theorem shr_turn {xs : List α} {i : Nat} (hi : i < xs.length) (hc : xs.head? = xs.getLast?) : shr (cat (xs.drop i) (xs.take (i + 1))) = shr (cat (cat (xs.take (i + 1)).reverse xs) (xs.take (i + 1))) := by
  obtain ⟨x, hx⟩ := some_at hi
  have h1 : (xs.take (i + 1)).getLast? = some x := by
    rw [List.getLast?_eq_getElem?, List.length_take, List.getElem?_take_of_lt (by omega), ← hx]
    congr 1
    omega
  have h2 : (xs.drop i).head? = some x := by rw [List.head?_drop]; exact hx
  have hne : xs ≠ [] := by intro e; rw [e] at hi; simp at hi
  have h3 : (xs.drop i).getLast? = (xs.take (i + 1)).head? := by
    rw [List.getLast?_drop, if_neg (by omega), List.head?_take, if_neg (by omega)]
    exact hc.symm
  have e : xs = cat (xs.take (i + 1)) (xs.drop i) := by
    unfold cat
    rw [List.tail_drop, List.take_append_drop]
  have hb : shr (cat (xs.take (i + 1)).reverse (xs.take (i + 1))) = [x] := by
    have := shr_back (u := (xs.take (i + 1)).reverse) (rev_head h1)
    rwa [List.reverse_reverse] at this
  have htn : xs.take (i + 1) ≠ [] := by intro e; rw [e] at h1; cases h1
  have hdn : xs.drop i ≠ [] := by intro e; rw [e] at h2; cases h2
  obtain ⟨y, hy⟩ : ∃ y, xs.getLast? = some y := ⟨_, List.getLast?_eq_some_getLast hne⟩
  have hd : (xs.drop i).getLast? = some y := by rw [List.getLast?_drop, if_neg (by omega)]; exact hy
  have ht : (xs.take (i + 1)).head? = some y := by rw [← h3]; exact hd
  have hxh : xs.head? = some y := by rw [hc]; exact hy
  refine shr_cat_congr ?_ rfl hd ht
  have e5 : cat (xs.take (i + 1)).reverse xs = cat (cat (xs.take (i + 1)).reverse (xs.take (i + 1))) (xs.drop i) := by rw [cat_assoc htn, ← e]
  rw [e5]
  have e0 : cat [x] (xs.drop i) = xs.drop i := by
    unfold cat
    exact (split_head h2).symm
  conv => lhs; rw [← e0]
  refine shr_cat_congr ?_ rfl (a := x) (by simp) h2
  rw [hb]
  rfl
theorem Of.turn {xs : List α} {c : Int → α} {n : Nat} (h : Of xs c n) {i : Nat} (hi : i < xs.length) (hc : xs.head? = xs.getLast?) (hper : Per c n) : Of (cat (xs.drop i) (xs.take (i + 1))) c n := by
  obtain ⟨x, hx⟩ := some_at hi
  have hne : xs ≠ [] := by intro e; rw [e] at hi; simp at hi
  obtain ⟨y, hy⟩ : ∃ y, xs.getLast? = some y := ⟨_, List.getLast?_eq_some_getLast hne⟩
  have hp : (xs.take (i + 1)).reverse.getLast? = some y := by
    rw [List.getLast?_reverse, List.head?_take, if_neg (by omega), hc, hy]
  obtain ⟨u, k, h1, h2, h3⟩ := h.led hp (by rw [hc]; exact hy) hy hper
  rw [List.reverse_reverse] at h1 h3
  refine ⟨u, k, ?_, h2, ?_⟩
  · rw [h1]
    have h4 : (xs.drop i) ≠ [] := by intro e; have := congrArg List.length e; simp at this; omega
    have h5 : (xs.take (i + 1)).reverse ≠ [] := by intro e; rw [e] at hp; cases hp
    rw [cat_head (cat_ne h5), cat_head h5, cat_head h4, List.head?_reverse, List.head?_drop, List.getLast?_eq_getElem?, List.length_take, List.getElem?_take_of_lt (by omega)]
    congr 1
    omega
  · rw [← h3]
    exact shr_turn hi hc
theorem Of.rev {xs : List α} {c : Int → α} {n : Nat} (h : Of xs c n) (hc : xs.head? = xs.getLast?) (hper : Per c n) : Of xs.reverse (fun i => c (-i)) n := by
  obtain ⟨u, k, h1, h2, h3⟩ := h
  have hs : (seg c k n).getLast? = some (c k) := by rw [seg_last, hper]
  refine ⟨u, -k, by rw [h1, List.head?_reverse, hc], by simpa using h2, ?_⟩
  rw [shr_rev, h3, ← shr_rev]
  congr 1
  unfold lead
  have e1 : (cat u (seg c k n)).getLast? = some (c k) := by rw [cat_last h2 seg_head]; exact hs
  have hune : u ≠ [] := by intro e; rw [e] at h2; cases h2
  rw [cat_rev e1 (rev_head h2), List.reverse_reverse, cat_rev h2 seg_head, seg_rev]
  have e2 : seg (fun i => c (-i)) (-(k + n)) n = seg (fun i => c (-i)) (-k) n := seg_congr fun i _ => by
    show c (-(-(k + n) + i)) = c (-(-k + i))
    rw [← hper (-(-k + (i : Int)))]
    congr 1
    omega
  rw [e2, cat_assoc]
  intro e
  exact seg_ne e
/-- one more time -/
theorem lead_more {c : Int → α} {n m : Nat} {u : List α} {k : Int} (hu : u.getLast? = some (c k)) (hm : Per c m) : shr (cat (lead u (seg c k m)) (lead u (seg c k n))) = shr (lead u (seg c k (m + n))) := by
  obtain ⟨b, hb⟩ : ∃ b, u.head? = some b := by
    cases u with
    | nil => cases hu
    | cons b r => exact ⟨b, rfl⟩
  have hune : u ≠ [] := by intro e; rw [e] at hu; cases hu
  have hs : (seg c k m).getLast? = some (c k) := by rw [seg_last, hm]
  have e1 : (cat u (seg c k m)).getLast? = some (c k) := by rw [cat_last hu seg_head]; exact hs
  have hback : shr (cat u.reverse u) = [c k] := by
    have := shr_back (u := u.reverse) (rev_head hu)
    rwa [List.reverse_reverse] at this
  have hrev : u.reverse ≠ [] := by simpa using hune
  unfold lead
  rw [cat_assoc (v := u.reverse) hrev, ← cat_assoc (u := u.reverse) (v := cat u (seg c k n)) (cat_ne hune), ← cat_assoc (u := u.reverse) (v := u) hune]
  rw [← cat_assoc (cat_ne (cat_ne hrev)), ← seg_cat (m := m) (n := n)]
  have e2 : seg c (k + m) n = seg c k n := hm.seg k n
  rw [e2]
  have hlast : (cat u.reverse u).getLast? = some (c k) := by rw [cat_last (rev_last hb) hb]; exact hu
  have hfirst : (cat u.reverse u).head? = some (c k) := by rw [cat_head hrev]; exact rev_head hu
  have hl2 : (cat (cat u.reverse u) (seg c k n)).getLast? = (seg c k n).getLast? := cat_last hlast seg_head
  have hf2 : (cat (cat u.reverse u) (seg c k n)).head? = some (c k) := by rw [cat_head (cat_ne hrev)]; exact hfirst
  have hsn : seg c k n ≠ [] := seg_ne
  have e3 : shr (cat (cat u (seg c k m)) (cat (cat u.reverse u) (seg c k n))) = shr (cat u (cat (seg c k m) (seg c k n))) := by
    rw [← cat_assoc (u := u) (v := seg c k m) seg_ne]
    refine shr_cat_congr rfl ?_ e1 hf2
    have e0 : cat [c k] (seg c k n) = seg c k n := by
      unfold cat
      exact (split_head seg_head).symm
    conv => rhs; rw [← e0]
    refine shr_cat_congr ?_ rfl hlast seg_head
    rw [hback]
    rfl
  rw [← shr_cat_l, e3, shr_cat_l]
/-! ### least parts -/
/-- the least after which it goes round -/
structure LP (c : Int → α) (p : Nat) : Prop where
  pos : 0 < p
  per : Per c p
  least : ∀ q : Nat, 0 < q → Per c q → p ≤ q
theorem LP.dvd {c : Int → α} {p q : Nat} (h : LP c p) (hq : Per c q) : p ∣ q := by
  rcases Nat.eq_zero_or_pos (q % p) with e | e
  · exact Nat.dvd_of_mod_eq_zero e
  · have := h.least (q % p) e (by have := hq.mod h.per; rwa [← Int.natCast_emod] at this)
    have := Nat.mod_lt q h.pos
    omega
theorem LP.ex {c : Int → α} : ∀ {n : Nat}, 0 < n → Per c n → ∃ p, LP c p := by
  intro n
  induction n using Nat.strongRecOn with
  | _ n ih =>
    intro h0 hp
    by_cases h : ∃ q, q < n ∧ 0 < q ∧ Per c q
    · obtain ⟨q, h1, h2, h3⟩ := h
      exact ih q h1 h2 h3
    · exact ⟨n, h0, hp, fun q hq hper => Nat.le_of_not_lt fun hl => h ⟨q, hl, hq, hper⟩⟩
theorem LP.uniq {c : Int → α} {p q : Nat} (h : LP c p) (g : LP c q) : p = q := Nat.le_antisymm (h.least q g.pos g.per) (g.least p h.pos h.per)
theorem LP.rev {c : Int → α} {p : Nat} (h : LP c p) : LP (fun i => c (-i)) p := by
  have flip : ∀ {d : Int → α} {q : Nat}, Per d q → Per (fun i => d (-i)) q := fun {d q} hd i => by
    show d (-(i + q)) = d (-i)
    rw [Int.neg_add]
    exact hd.neg (-i)
  refine ⟨h.pos, flip h.per, fun q hq hp => h.least q hq fun i => ?_⟩
  have := flip hp i
  simpa using this
theorem LP.cyc {c : Int → α} {p n : Nat} (h : LP c p) (hc : Cyc c n) : Cyc c p := ⟨h.pos, h.per, hc.red⟩
theorem flat_rep {l : List α} : ∀ {q i : Nat}, i < q * l.length → (List.replicate q l).flatten[i]? = l[i % l.length]?
  | 0, i, h => by simp at h
  | q + 1, i, h => by
    rw [List.replicate_succ, List.flatten_cons]
    by_cases c : i < l.length
    · rw [List.getElem?_append_left c, Nat.mod_eq_of_lt c]
    · rw [Nat.succ_mul] at h
      rw [List.getElem?_append_right (by omega), flat_rep (q := q) (by omega), ← Nat.mod_eq_sub_mod (by omega)]
theorem flat_len {l : List α} {q : Nat} : (List.replicate q l).flatten.length = q * l.length := by
  simp
/-- is a ring so many times its part -/
theorem part_iff {c : Int → α} {n : Nat} (hp : Per c n) {k : Int} {p : Nat} (h0 : 0 < p) (hd : n % p = 0) (hn : 0 < n) : (seg c k n).dropLast = (List.replicate (n / p) ((seg c k n).take p)).flatten ↔ Per c p := by
  have hpn : p ≤ n := Nat.le_of_dvd hn (Nat.dvd_of_mod_eq_zero hd)
  have hq : n / p * p = n := Nat.div_mul_cancel (Nat.dvd_of_mod_eq_zero hd)
  have hl : ((seg c k n).take p).length = p := by rw [List.length_take, seg_len]; omega
  have hget : ∀ i, i < n → (seg c k n).dropLast[i]? = some (c (k + i)) := fun i hi => by
    rw [List.getElem?_dropLast, seg_len, if_pos (by omega), seg_get (by omega)]
  have hget2 : ∀ i, i < n → (List.replicate (n / p) ((seg c k n).take p)).flatten[i]? = some (c (k + ((i % p : Nat) : Int))) := fun i hi => by
    have := Nat.mod_lt i h0
    rw [flat_rep (by rw [hl, hq]; exact hi), hl, List.getElem?_take_of_lt this, seg_get (by omega)]
  constructor
  · intro e
    have e1 : ∀ i : Nat, i < n → c (k + i) = c (k + ((i % p : Nat) : Int)) := fun i hi => by
      have := congrArg (fun l => l[i]?) e
      simp only [hget i hi, hget2 i hi] at this
      exact Option.some.inj this
    -- so at each place
    have e2 : ∀ i : Nat, c (k + i) = c (k + ((i % p : Nat) : Int)) := fun i => by
      have hlt := Nat.mod_lt i hn
      have a := e1 (i % n) hlt
      rw [Nat.mod_mod_of_dvd i (Nat.dvd_of_mod_eq_zero hd)] at a
      rw [← a]
      have := hp.mulN (i / n) (k + ((i % n : Nat) : Int))
      rw [← this]
      congr 1
      have := Nat.div_add_mod i n
      have e6 : ((i : Int)) = (n : Int) * ((i / n : Nat) : Int) + ((i % n : Nat) : Int) := by exact_mod_cast this.symm
      rw [e6, Int.mul_comm]
      omega
    intro z
    -- z from k on, by n's
    obtain ⟨i, hi⟩ : ∃ i : Nat, c z = c (k + i) ∧ c (z + p) = c (k + ((i + p : Nat) : Int)) := by
      refine ⟨((z - k) % n).toNat, ?_⟩
      have h1 := Int.emod_nonneg (z - k) (b := (n : Int)) (by omega)
      have h2 : z - k = (n : Int) * ((z - k) / n) + (z - k) % n := (Int.mul_ediv_add_emod _ _).symm
      have h3 := hp.mul ((z - k) / n)
      constructor
      · rw [← h3 (k + _)]
        congr 1
        rw [Int.mul_comm] at h2
        omega
      · rw [← h3 (k + _)]
        congr 1
        rw [Int.mul_comm] at h2
        omega
    rw [hi.1, hi.2, e2 (i + p), Nat.add_mod_right, ← e2]
  · intro hper
    refine List.ext_getElem? fun i => ?_
    by_cases hi : i < n
    · rw [hget i hi, hget2 i hi]
      have := hper.mulN (i / p) (k + ((i % p : Nat) : Int))
      rw [← this]
      congr 2
      have := Nat.div_add_mod i p
      have e6 : ((i : Int)) = (p : Int) * ((i / p : Nat) : Int) + ((i % p : Nat) : Int) := by exact_mod_cast this.symm
      rw [e6, Int.mul_comm]
      omega
    · rw [List.getElem?_eq_none (by rw [List.length_dropLast, seg_len]; omega), List.getElem?_eq_none (by rw [flat_len, hl, hq]; omega)]
/-- a turn of a ring -/
theorem turn_seg {c : Int → α} {n : Nat} (hp : Per c n) {k : Int} {i : Nat} (hi : i < n) : ((seg c k n).drop i).dropLast ++ (seg c k n).take (i + 1) = seg c (k + i) n := by
  have e : seg c k n = cat (seg c k i) (seg c (k + i) (n - i)) := by rw [seg_cat]; congr 1; omega
  have e1 : (seg c k n).drop i = seg c (k + i) (n - i) := by
    refine List.ext_getElem? fun j => ?_
    rw [List.getElem?_drop]
    by_cases h : j ≤ n - i
    · rw [seg_get h, seg_get (by omega)]
      congr 2
      omega
    · rw [List.getElem?_eq_none (by rw [seg_len]; omega), List.getElem?_eq_none (by rw [seg_len]; omega)]
  have e2 : (seg c k n).take (i + 1) = seg c k i := by
    refine List.ext_getElem? fun j => ?_
    by_cases h : j ≤ i
    · rw [List.getElem?_take_of_lt (by omega), seg_get h, seg_get (by omega)]
    · rw [List.getElem?_eq_none (by rw [List.length_take, seg_len]; omega), List.getElem?_eq_none (by rw [seg_len]; omega)]
  rw [e1, e2]
  have e3 : seg c (k + i) n = cat (seg c (k + i) (n - i)) (seg c (k + i + ((n - i : Nat) : Int)) i) := by rw [seg_cat]; congr 1; omega
  have e4 : seg c (k + i + ((n - i : Nat) : Int)) i = seg c k i := by
    rw [← hp.seg k i]
    congr 1
    omega
  rw [e3, e4]
  unfold cat
  have hl : (seg c (k + i) (n - i)).getLast? = some (c k) := by
    rw [seg_last, ← hp k]
    congr 2
    omega
  obtain ⟨s, hs⟩ := split_last hl
  rw [hs, List.dropLast_concat, List.append_assoc]
  congr 1
  exact split_head seg_head
end KM

/-! KM7: all turns of a ring; the least of rows. -/
namespace KM
variable {α : Type} [DecidableEq α]
def turn (r : List α) (i : Nat) : List α := (r.drop i).dropLast ++ r.take (i + 1)
def turnsL (r : List α) : List (List α) := (List.range (r.length - 1)).map (turn r)
theorem mem_turns {c : Int → α} {n : Nat} (h : Per c n) (hn : 0 < n) {k : Int} {x : List α} : x ∈ turnsL (seg c k n) ↔ ∃ z : Int, x = seg c z n := by
  unfold turnsL
  rw [List.mem_map, seg_len]
  constructor
  · rintro ⟨i, hi, rfl⟩
    rw [List.mem_range] at hi
    exact ⟨_, turn_seg h (by omega)⟩
  · rintro ⟨z, rfl⟩
    have h1 := Int.emod_nonneg (z - k) (b := (n : Int)) (by omega)
    have h2 := Int.emod_lt_of_pos (z - k) (b := (n : Int)) (by omega)
    refine ⟨((z - k) % n).toNat, by rw [List.mem_range]; omega, ?_⟩
    unfold turn
    rw [turn_seg h (by omega)]
    have h3 : z - k = (n : Int) * ((z - k) / n) + (z - k) % n := (Int.mul_ediv_add_emod _ _).symm
    have h4 := h.mul ((z - k) / n)
    rw [← h4.seg]
    congr 1
    rw [Int.mul_comm] at h3
    omega
/-- a ring in the middle, one step in -/
theorem mid_step {w : List α} {j : Nat} (h : 2 * j + 1 < w.length) : ((mid w j).drop 1).dropLast = mid w (j + 1) := by
  refine List.ext_getElem? fun i => ?_
  by_cases hi : i < w.length - 2 * (j + 1)
  · rw [List.getElem?_dropLast, List.length_drop, mid_len, if_pos (by omega), List.getElem?_drop, mid_get (by omega), mid_get hi]
    congr 1
    omega
  · rw [List.getElem?_eq_none (by rw [List.length_dropLast, List.length_drop, mid_len]; omega), List.getElem?_eq_none (by rw [mid_len]; omega)]
/-! the least of rows, by a strict order that is told by a key -/
section
variable {β : Type} [LT β] [DecidableLT β] (key : List α → β)
def pick2 (a y : List α) : List α := if key y < key a then y else a
def leastOf : List (List α) → List α
  | [] => []
  | x :: r => r.foldl (pick2 key) x
end
/-- a strict order of rows -/
structure Ord {β : Type} [LT β] (key : List α → β) : Prop where
  irr : ∀ x, ¬ key x < key x
  tr : ∀ x y z, key x < key y → key y < key z → key x < key z
  tot : ∀ x y, ¬ key x < key y → ¬ key y < key x → x = y
section
variable {β : Type} [LT β] [DecidableLT β] {key : List α → β}
def Least (key : List α → β) (rows : List (List α)) (m : List α) : Prop := m ∈ rows ∧ ∀ y ∈ rows, ¬ key y < key m
theorem Least.uniq (o : Ord key) {rows rows' : List (List α)} {m m' : List α} (h : Least key rows m) (g : Least key rows' m') (e : ∀ x, x ∈ rows ↔ x ∈ rows') : m = m' :=
  o.tot _ _ (g.2 _ ((e _).mp h.1)) (h.2 _ ((e _).mpr g.1))
theorem fold_least (o : Ord key) : ∀ (r : List (List α)) (x : List α), Least key (x :: r) (r.foldl (pick2 key) x)
  | [], x => ⟨List.mem_cons_self, fun y hy => by rw [List.mem_singleton.mp hy]; exact o.irr x⟩
  | y :: r, x => by
    obtain ⟨h1, h2⟩ := fold_least o r (pick2 key x y)
    rw [List.foldl_cons]
    have hp : pick2 key x y ∈ x :: y :: r := by
      unfold pick2
      split
      · exact List.mem_cons_of_mem _ List.mem_cons_self
      · exact List.mem_cons_self
    refine ⟨(List.mem_cons.mp h1).elim (fun e => by rw [e]; exact hp) fun h => List.mem_cons_of_mem _ (List.mem_cons_of_mem _ h), fun z hz hlt => ?_⟩
    have h3 := h2 _ List.mem_cons_self
    generalize r.foldl (pick2 key) (pick2 key x y) = m at *
    have below : ∀ w, key w < key m → ¬ key w < key (pick2 key x y) → False := fun w hw hn => by
      by_cases e : key (pick2 key x y) < key w
      · exact h3 (o.tr _ _ _ e hw)
      · have := o.tot _ _ e hn
        rw [← this] at hw
        exact h3 hw
    rcases List.mem_cons.mp hz with rfl | hz
    · refine below z hlt fun h => ?_
      unfold pick2 at h
      split at h
      · rename_i c; exact o.irr _ (o.tr _ _ _ h c)
      · exact o.irr _ h
    · rcases List.mem_cons.mp hz with rfl | hz
      · refine below z hlt fun h => ?_
        unfold pick2 at h
        split at h
        · exact o.irr _ h
        · rename_i c; exact c h
      · exact h2 z (List.mem_cons_of_mem _ hz) hlt
theorem leastOf_least (o : Ord key) {rows : List (List α)} (h : rows ≠ []) : Least key rows (leastOf key rows) := by
  cases rows with
  | nil => exact absurd rfl h
  | cons x r => exact fold_least o r x
/-- the name of a ring -/
def ringName (key : List α → β) (r : List α) : List α := if 1 < r.length then leastOf key (turnsL r) else []
theorem ringName_seg (o : Ord key) {c : Int → α} {n : Nat} (h : Per c n) (hn : 0 < n) (k k' : Int) : ringName key (seg c k n) = ringName key (seg c k' n) := by
  have ne : ∀ k : Int, turnsL (seg c k n) ≠ [] := fun k e => by
    have := (mem_turns h hn (k := k) (x := seg c 0 n)).mpr ⟨0, rfl⟩
    rw [e] at this
    cases this
  unfold ringName
  rw [seg_len, seg_len, if_pos (by omega), if_pos (by omega)]
  exact (leastOf_least o (ne k)).uniq o (leastOf_least o (ne k')) fun x => by rw [mem_turns h hn, mem_turns h hn]
/-- a closed walk that is nothing, led, is nothing -/
theorem led_nothing {xs p : List α} {a : α} (hx : shr xs = [a]) (hp : p.getLast? = some a) : ∃ b, shr (cat (cat p xs) p.reverse) = [b] := by
  have h1 : xs.head? = some a := by rw [← shr_head, hx]; rfl
  have h2 : xs.getLast? = some a := by rw [← shr_last, hx]; rfl
  obtain ⟨b, hb⟩ : ∃ b, p.head? = some b := by
    cases p with
    | nil => cases hp
    | cons b r => exact ⟨b, rfl⟩
  refine ⟨b, ?_⟩
  have e1 : shr (cat p xs) = shr (cat p [a]) := shr_cat_congr rfl (by rw [hx]; rfl) hp h1
  rw [shr_cat_congr (x' := p) (y' := p.reverse) (a := a) ?_ rfl (by rw [cat_last hp h1]; exact h2) (rev_head hp)]
  · exact shr_back hb
  · rw [e1]
    congr 1
    unfold cat
    simp
/-- the name stays, led by any walk -/
theorem name_led (o : Ord key) {xs ys p : List α} {x : α} {a b : Nat} (hne : xs ≠ []) (hc : xs.head? = xs.getLast?) (hap : Apt (shr xs)) (hp : p.getLast? = some x) (hx : xs.head? = some x) (hy : shr ys = shr (cat (cat p xs) p.reverse)) (ha : Cor (shr xs) a) (hb : Cor (shr ys) b) : ringName key (mid (shr xs) a) = ringName key (mid (shr ys) b) := by
  have hcs : (shr xs).head? = (shr xs).getLast? := by rw [shr_head, shr_last]; exact hc
  by_cases hl : (shr xs).length = 1
  · obtain ⟨z, hz⟩ := List.length_eq_one_iff.mp hl
    have hzx : z = x := by
      have : (shr xs).head? = some x := by rw [shr_head]; exact hx
      rw [hz] at this
      exact Option.some.inj this
    subst hzx
    obtain ⟨q, hq⟩ := led_nothing hz hp
    rw [← hy] at hq
    unfold ringName
    rw [mid_len, mid_len, hz, hq, if_neg (by simp), if_neg (by simp)]
  · obtain ⟨c, n, h1, h2, h3, h4, h5, h6⟩ := of_cor ha (shr_ne hne) hcs (shr_red xs) hap hl
    have O : Of xs c n := ⟨stem (shr xs) a, 0, by rw [h5, shr_head], h4, by rw [← h6, shr_shr]⟩
    have O2 : Of ys c n := by
      obtain ⟨u, k, g1, g2, g3⟩ := O.led hp hx (by rw [← hc]; exact hx) h1.per
      exact ⟨u, k, by rw [g1, ← shr_head, ← hy, shr_head], g2, by rw [hy]; exact g3⟩
    obtain ⟨k, e1, _⟩ := O2.core h1 hb
    rw [h3, e1]
    exact ringName_seg o h1.per (by omega) 0 k
end
end KM

/-! G20: all turns, names of closed walks. -/
namespace G
open PySem PySem.Spec L2 PyProof.Rows DL
def N_turns : List Str := ["ring", "at"]
def b_turns : List Sx := [
  .ret (.lc (.n 1) [1] .rng [.pr (.bin .Sub false) [.pr (.bi .len false) [.v 0], .int 1]] [] (.pr (.bin .Add false) [.sl2 false (.v 0) (.v 1) (.pr .neg [.int 1]), .pr (.slc false true false) [.v 0, .pr (.bin .Add false) [.v 1, .int 1]]]) false)]

def N_named : List Str := ["walk", "stem", "ring"]
def b_named : List Sx := [
  .asgT [1, 2] (.pr (.call "core" []) [.v 0]),
  .ret (.ife (.pr (.cmp .Gt) [.pr (.bi .len false) [.v 2], .int 1]) (.pr (.bi .min false) [.pr (.call "turns" []) [.v 2]]) (.pr (.tup false) []))]

def N_law_named : List Str := ["_law_road", "_law_found", "_law_some", "_law_k"]
@[irreducible] def b_law_named_1 : List Sx := [
  .asg 2 (.lc (.n 3) [3] .rng [.pr (.bin .Sub false) [.pr (.bi .len false) [.v 1], .int 1]] [] (.pr (.bin .Add false) [.sl2 false (.v 1) (.v 3) (.pr .neg [.int 1]), .pr (.slc false true false) [.v 1, .pr (.bin .Add false) [.v 3, .int 1]]]) false),
  .ret (.ife (.pr (.cmp .NotEq) [.v 2, .pr (.lst false) []]) (.pr (.bi .min false) [.v 2]) (.pr (.tup false) []))]
def b_law_named : List Sx := (
  .asg 1 (.pr (.call "_law_shrunk" []) [.v 0]) ::
  .whl (.and (.pr (.cmp .Gt) [.pr (.bi .len false) [.v 1], .int 1]) (.pr (.cmp .Eq) [.pr .idx [.v 1, .int 1], .pr .idx [.v 1, .pr .neg [.int 2]]])) [
    .asg 1 (.sl2 false (.v 1) (.int 1) (.pr .neg [.int 1]))] :: b_law_named_1)

/-! the order of rows of texts -/
def skey (xs : List Str) : List (List Nat) := xs.map fun s => s.cps.toList
theorem cps_inj {a b : Str} (h : a.cps.toList = b.cps.toList) : a = b := by
  cases a; cases b
  congr 1
  exact Array.toList_inj.mp h
theorem skey_inj : ∀ {xs ys : List Str}, skey xs = skey ys → xs = ys
  | [], [], _ => rfl
  | [], _ :: _, h => by simp [skey] at h
  | _ :: _, [], h => by simp [skey] at h
  | x :: xs, y :: ys, h => by
    simp only [skey, List.map_cons, List.cons.injEq] at h
    rw [cps_inj h.1, skey_inj h.2]
theorem skey_ord : KM.Ord skey where
  irr := fun x => List.lt_irrefl _
  tr := fun x y z h g => List.lt_trans h g
  tot := fun x y h g => skey_inj (List.le_antisymm (List.not_lt.mp g) (List.not_lt.mp h))
theorem rowLt_strs : ∀ xs ys : List Str, PySem.W.rowLt (xs.map .str) (ys.map .str) = decide (skey xs < skey ys)
  | [], [] => by
    have e : PySem.W.rowLt [] [] = false := lex_irrefl _
    simp [e, skey]
  | [], y :: ys => by
    have e : PySem.W.rowLt [] (PyData.str y :: ys.map .str) = true := by
      unfold PySem.W.rowLt
      rw [PySem.W.toks_all_cons]
      simp only [PySem.W.keyToksAll]
      rw [lex_diff (O := itemOrd) (by simp)]
      rfl
    simpa [skey] using e
  | x :: xs, [] => by
    have e : PySem.W.rowLt (PyData.str x :: xs.map .str) [] = false := by
      unfold PySem.W.rowLt
      rw [PySem.W.toks_all_cons]
      simp only [PySem.W.keyToksAll]
      rw [lex_diff (O := itemOrd) (by simp)]
      rfl
    simpa [skey] using e
  | x :: xs, y :: ys => by
    have e : PySem.W.rowLt (PyData.str x :: xs.map .str) (PyData.str y :: ys.map .str) = if x = y then PySem.W.rowLt (xs.map .str) (ys.map .str) else decide (x.cps.toList < y.cps.toList) := by
      unfold PySem.W.rowLt
      rw [PySem.W.dataLt_cons (by simp [PySem.W.alike]), PySem.W.dataLt_str]
      simp only [PyData.eqv, beq_iff_eq]
    show PySem.W.rowLt (PyData.str x :: xs.map .str) (PyData.str y :: ys.map .str) = _
    rw [e]
    show _ = decide (x.cps.toList :: skey xs < y.cps.toList :: skey ys)
    by_cases h : x = y
    · rw [if_pos h, rowLt_strs xs ys]
      simp [h, List.cons_lt_cons_iff]
    · have h' : x.cps.toList ≠ y.cps.toList := fun e => h (cps_inj e)
      rw [if_neg h]
      simp [h', List.cons_lt_cons_iff]
theorem lt_tups (xs ys : List Str) : PySem.W.dataLt (.tuple (xs.map .str)) (.tuple (ys.map .str)) = decide (skey xs < skey ys) := by
  rw [PySem.W.dataLt_tuple]
  exact rowLt_strs xs ys
theorem pyT_tS (xs : List Str) : pyT (tS xs) = .tuple (xs.map .str) := by unfold pyT; rw [toPy_tups]
theorem pyT_rows (rows : List (List Str)) : (rows.map tS).map pyT = rows.map fun xs => .tuple (xs.map .str) := by
  rw [List.map_map]
  exact List.map_congr_left fun xs _ => pyT_tS xs
theorem alike_strs : ∀ xs ys : List Str, PySem.W.alikeAll (xs.map .str) (ys.map .str) = true
  | [], _ => by simp [PySem.W.alikeAll]
  | _ :: _, [] => by simp [PySem.W.alikeAll]
  | x :: xs, y :: ys => by
    show PySem.W.alikeAll (.str x :: xs.map .str) (.str y :: ys.map .str) = true
    rw [PySem.W.alikeAll, alike_strs xs ys]
    simp [PySem.W.alike]
theorem minOk_rows (rows : List (List Str)) : MinOk (rows.map tS) where
  py := fun x hx => by
    obtain ⟨xs, _, rfl⟩ := List.mem_map.mp hx
    rw [toPy_tups]; rfl
  alike := by
    rw [pyT_rows]
    refine ⟨fun x hx y hy => ?_, fun x hx => ?_⟩
    · obtain ⟨xs, _, rfl⟩ := List.mem_map.mp hx
      obtain ⟨ys, _, rfl⟩ := List.mem_map.mp hy
      simp only [PySem.W.alike, alike_strs]
    · obtain ⟨xs, _, rfl⟩ := List.mem_map.mp hx
      intro h; cases h
  depth := by
    rw [pyT_rows]
    have key : ∀ rows : List (List Str), PyData.depthAll (rows.map fun xs => PyData.tuple (xs.map .str)) ≤ 2 := by
      intro rows
      induction rows with
      | nil => simp [PyData.depthAll]
      | cons r rows ih =>
        rw [List.map_cons, PyData.depthAll]
        have : (PyData.tuple (r.map PyData.str)).depth ≤ 2 := by simp only [PyData.depth, dep_strs0]; omega
        omega
    have := key rows
    omega
theorem best_rows {rows : List (List Str)} (h : rows ≠ []) : bestMin (rows.map tS) = some (tS (KM.leastOf skey rows)) := by
  match rows, h with
  | r :: rows, _ =>
    have e2 := PySem.W.argBest_fold PySem.W.dataLt PyData.none (.tuple (r.map .str)) (rows.map fun xs => .tuple (xs.map .str)) rows.length (by rw [List.length_map]; exact Nat.le_refl _)
    have e3 : ltD ((r :: rows).map tS) = fun i j => PySem.W.dataLt ((PyData.tuple (r.map .str) :: rows.map fun xs => .tuple (xs.map .str)).getD i .none) ((PyData.tuple (r.map .str) :: rows.map fun xs => .tuple (xs.map .str)).getD j .none) := by
      funext i j
      unfold ltD
      rw [pyT_rows]
      rfl
    unfold bestMin
    rw [e3, List.length_map, List.length_cons, Nat.add_sub_cancel]
    generalize hi : argBest _ rows.length = i at e2 ⊢
    obtain ⟨h1, h2⟩ := e2
    rw [List.getElem?_map]
    have hlt : i < (r :: rows).length := by rw [List.length_cons]; omega
    rw [List.getElem?_eq_getElem hlt]
    simp only [Option.map_some]
    congr 2
    have fold : ∀ (l : List (List Str)) (a : List Str), (l.map fun xs => PyData.tuple (xs.map .str)).foldl (fun a y => if PySem.W.dataLt y a = true then y else a) (.tuple (a.map .str)) = .tuple ((l.foldl (KM.pick2 skey) a).map .str) := by
      intro l
      induction l with
      | nil => intro a; rfl
      | cons b l ih =>
        intro a
        rw [List.map_cons, List.foldl_cons, List.foldl_cons, lt_tups]
        unfold KM.pick2
        by_cases c : skey b < skey a
        · rw [if_pos (by simpa using c), if_pos c]
          exact ih b
        · rw [if_neg (by simpa using c), if_neg c]
          exact ih a
    have e4 : (rows.map fun xs => PyData.tuple (xs.map .str)).take rows.length = rows.map fun xs => PyData.tuple (xs.map .str) := List.take_of_length_le (by rw [List.length_map]; exact Nat.le_refl _)
    rw [e4, fold] at h2
    have e5 : (PyData.tuple (r.map .str) :: rows.map fun xs => PyData.tuple (xs.map .str)) = (r :: rows).map fun xs => PyData.tuple (xs.map .str) := rfl
    rw [e5, List.getD_eq_getElem?_getD, List.getElem?_map, List.getElem?_eq_getElem hlt] at h2
    simp only [Option.map_some, Option.getD_some, PyData.tuple.injEq] at h2
    show _ = rows.foldl (KM.pick2 skey) r
    have inj : ∀ {a b : List Str}, a.map PyData.str = b.map PyData.str → a = b := by
      intro a b e
      have := congrArg (List.map fun p : PyData => match p with | .str s => s | _ => Str.empty) e
      simpa [List.map_map, Function.comp_def] using this
    exact inj h2
theorem eqv_rows_nil (rows : List (List Str)) : (PyData.list (rows.map fun xs => PyData.tuple (xs.map .str))).eqv (PyData.list []) = rows.isEmpty := by cases rows <;> rfl
theorem toPys_rows : ∀ rows : List (List Str), toPys (rows.map tS) = some (rows.map fun xs => PyData.tuple (xs.map .str))
  | [] => rfl
  | r :: rows => by simp only [List.map_cons, toPys, toPy_tups, toPys_rows rows]
theorem dep_rows (rows : List (List Str)) : (PyData.list (rows.map fun xs => PyData.tuple (xs.map .str))).depth ≤ 64 := by
  have := (minOk_rows rows).depth
  rw [pyT_rows] at this
  have key : ∀ rows : List (List Str), PyData.depthAll (rows.map fun xs => PyData.tuple (xs.map .str)) ≤ 2 := by
    intro rows
    induction rows with
    | nil => simp [PyData.depthAll]
    | cons r rows ih =>
      rw [List.map_cons, PyData.depthAll]
      have : (PyData.tuple (r.map PyData.str)).depth ≤ 2 := by simp only [PyData.depth, dep_strs0]; omega
      omega
  have := key rows
  rw [PyData.depth]
  omega
theorem eq_rows_nil {rows : List (List Str)} {k : Bool → Prop} (h : k rows.isEmpty) : eqDG (.lst (rows.map tS)) (.lst []) k := eqDG_of (by simp only [toPy, toPys_rows]) rfl (dep_rows rows) dep_nil (eqv_rows_nil rows) h
/-! all turns -/
theorem cutG_last {xs : List Str} {i : Nat} (h : i < xs.length) : cutG (xs.map D.str) (some (0 + (i : Int))) (some (-1)) = ((xs.drop i).dropLast).map .str := by
  rw [cutG_map]
  congr 1
  have e1 : HT.sIx xs.length 0 (some (0 + (i : Int))) = i := by
    show (if 0 + (i : Int) < 0 then (0 + (i : Int) + (xs.length : Int)).toNat else min (0 + (i : Int)).toNat xs.length) = _
    rw [if_neg (by omega)]
    omega
  have e2 : HT.sIx xs.length xs.length (some (-1)) = xs.length - 1 := by
    show (if (-1 : Int) < 0 then ((-1 : Int) + (xs.length : Int)).toNat else min (-1 : Int).toNat xs.length) = _
    rw [if_pos (by omega)]
    omega
  unfold cutG
  rw [e1, e2, List.dropLast_eq_take, List.length_drop]
  congr 1
  omega
def rowsD (rows : List (List Str)) : D := .lst (rows.map tS)
def spTurns : DL.Spec := pSp (fun r : List Str => [tS r]) (fun r => r.length < 16777216) (fun r x => x = rowsD (KM.turnsL r)) noE
theorem y_turns {sg : Sg} (hs : sg.fn "turns" 1 = some spTurns) {M : MM} {Q : W → MM → Prop} {R : XR} (r : List Str) (hl : r.length < 16777216) (hq : Q (.d (rowsD (KM.turnsL r))) M) : lendO (sg.fn "turns" 1) [] [.d (tS r)] M Q R := by
  rw [hs]
  exact use_q r hl (fun x hx => by rw [hx]; exact hq) fun _ _ h => h.elim
theorem s_turns (sg : Sg) (ws M Q R) (h : spTurns ws M Q R) : ws.length = 1 ∧ wSs sg b_turns (G0 N_turns.length ws) M (bodyE true M.length Q R) := by
  obtain ⟨r, rfl, rfl, hl, hq, _⟩ := h
  refine ⟨rfl, ?_⟩
  have hsz := sizeLine_eq
  dsimp only at hl hq
  have hrl : ((r.map D.str).length : Int) = r.length := by simp
  generalize hE : bodyE true _ Q R = E
  repeat ((conv => whnf); first | (refine And.intro (by first | omega | exact ok_fn (by assumption) | exact ok_xc (by assumption) | (constructor <;> omega) | (simp only [List.length_map, List.length_range, List.length_append, List.length_cons, List.length_nil] <;> omega) | exact ⟨rfl, by decide, by decide +kernel⟩ | rfl) ?_) | (refine optK_xc (by assumption) ?_) | (refine optK_sub (by assumption) ?_))
  conv => whnf
  have e0 : ((((r.map D.str).length : Int) - 1)).toNat = r.length - 1 := by omega
  rw [e0]
  refine goLc_map0 rg tS (KM.turn r) (List.range (r.length - 1)) (fun i hi K hK => ?_) ?_
  · have hi := List.mem_range.mp hi
    unfold rg
    conv => whnf
    rw [cutG_last (by omega), cutG_to _ (by omega), ← List.map_take]
    have e1 : (0 + (i : Int) + 1).toNat = i + 1 := by omega
    rw [e1]
    refine ⟨by simp; omega, ?_⟩
    rw [← List.map_append]
    exact hK
  · subst hE
    exact hq _ rfl
/-! names -/
abbrev nameR (r : List Str) : List Str := KM.ringName skey r
theorem turns_nil {r : List Str} : (KM.turnsL r).isEmpty = !decide (1 < r.length) := by
  unfold KM.turnsL
  cases h : r.length - 1 with
  | zero => rw [decide_eq_false (by omega)]; rfl
  | succ m => rw [decide_eq_true (by omega), List.range_succ_eq_map]; rfl
def spNamed : DL.Spec := pSp (fun xs : List Str => [tS xs]) (fun xs => xs ≠ [] ∧ xs.length < 16777216) (fun xs r => cl xs ∧ ∃ a, KM.Cor (KM.shr xs) a ∧ r = tS (nameR (KM.mid (KM.shr xs) a))) (fun xs c fs => ¬ cl xs ∧ c = "NotClosed" ∧ fs = [])
theorem y_named {sg : Sg} (hs : sg.fn "named" 1 = some spNamed) {M : MM} {Q : W → MM → Prop} {R : XR} (xs : List Str) (hx : xs ≠ []) (hl : xs.length < 16777216) (hq : ∀ a, cl xs → KM.Cor (KM.shr xs) a → Q (.d (tS (nameR (KM.mid (KM.shr xs) a)))) M) (hr : ¬ cl xs → R "NotClosed" [] M) : lendO (sg.fn "named" 1) [] [.d (tS xs)] M Q R := by
  rw [hs]
  exact use_q xs ⟨hx, hl⟩ (fun r ⟨h1, a, h2, h3⟩ => by rw [h3]; exact hq a h1 h2) fun c fs ⟨h1, h2, h3⟩ => by rw [h2, h3]; exact hr h1
theorem s_named (sg : Sg) (hco : sg.fn "core" 1 = some spCore) (htu : sg.fn "turns" 1 = some spTurns) (ws M Q R) (h : spNamed ws M Q R) : ws.length = 1 ∧ wSs sg b_named (G0 N_named.length ws) M (bodyE true M.length Q R) := by
  obtain ⟨xs, rfl, rfl, ⟨hx, hl⟩, hq, hr⟩ := h
  refine ⟨rfl, ?_⟩
  have hsz := sizeLine_eq
  dsimp only at hx hl hq hr
  generalize hE : bodyE true _ Q R = E
  repeat ((conv => whnf); first | (refine And.intro (by first | omega | exact ok_fn (by assumption) | exact ok_xc (by assumption) | (constructor <;> omega) | (simp only [List.length_map, List.length_range, List.length_append, List.length_cons, List.length_nil] <;> omega) | exact ⟨rfl, by decide, by decide +kernel⟩ | rfl) ?_) | (refine optK_xc (by assumption) ?_) | (refine optK_sub (by assumption) ?_))
  conv => whnf
  refine y_core hco xs hx hl (fun a h1 h2 => ?_) (fun c => ?_)
  · have hml := KM.mid_len (KM.shr xs) a
    have hle := KM.shr_le xs
    have hq := fun r => hq r
    conv => whnf
    refine ifB_d (fun c => ?_) (fun c => ?_)
    · rw [List.length_map] at c
      repeat ((conv => whnf); first | (refine And.intro (by first | omega | exact ok_fn (by assumption) | exact ok_xc (by assumption) | (constructor <;> omega) | (simp only [List.length_map, List.length_range, List.length_append, List.length_cons, List.length_nil] <;> omega) | exact ⟨rfl, by decide, by decide +kernel⟩ | rfl) ?_) | (refine optK_xc (by assumption) ?_) | (refine optK_sub (by assumption) ?_))
      conv => whnf
      refine y_turns htu _ (by omega) ?_
      conv => whnf
      refine ⟨minOk_rows _, ?_⟩
      have hne : KM.turnsL (KM.mid (KM.shr xs) a) ≠ [] := fun e => by
        have := turns_nil (r := KM.mid (KM.shr xs) a)
        rw [e, decide_eq_true (by omega)] at this
        cases this
      refine optK_some (best_rows hne) ?_
      subst hE
      conv => whnf
      refine hq _ ⟨h1, a, h2, ?_⟩
      unfold nameR KM.ringName
      rw [if_pos (by omega)]
    · rw [List.length_map] at c
      subst hE
      conv => whnf
      refine hq _ ⟨h1, a, h2, ?_⟩
      unfold nameR KM.ringName
      rw [if_neg (by omega)]
      rfl
  · subst hE
    conv => whnf
    exact hr _ _ ⟨c, rfl, rfl⟩
def spLNamed : DL.Spec := pSp (fun xs : List Str => [tS xs]) (fun xs => xs ≠ [] ∧ xs.length < 16777216) (fun xs r => ∃ a, KM.Cor (KM.shr xs) a ∧ r = tS (nameR (KM.mid (KM.shr xs) a))) noE
theorem y_lnamed {sg : Sg} (hs : sg.fn "_law_named" 1 = some spLNamed) {M : MM} {Q : W → MM → Prop} {R : XR} (xs : List Str) (hx : xs ≠ []) (hl : xs.length < 16777216) (hq : ∀ a, KM.Cor (KM.shr xs) a → Q (.d (tS (nameR (KM.mid (KM.shr xs) a)))) M) : lendO (sg.fn "_law_named" 1) [] [.d (tS xs)] M Q R := by
  rw [hs]
  exact use_q xs ⟨hx, hl⟩ (fun r ⟨a, h2, h3⟩ => by rw [h3]; exact hq a h2) fun _ _ h => h.elim
theorem s_lnamed (sg : Sg) (hsh : sg.fn "_law_shrunk" 1 = some spLShr) (ws M Q R) (h : spLNamed ws M Q R) : ws.length = 1 ∧ wSs sg b_law_named (G0 N_law_named.length ws) M (bodyE true M.length Q R) := by
  obtain ⟨xs, rfl, rfl, ⟨hx, hl⟩, hq, _⟩ := h
  refine ⟨rfl, ?_⟩
  have hsz := sizeLine_eq
  dsimp only at hx hl hq
  generalize hE : bodyE true _ Q R = E
  repeat ((conv => whnf); first | (refine And.intro (by first | omega | exact ok_fn (by assumption) | exact ok_xc (by assumption) | (constructor <;> omega) | (simp only [List.length_map, List.length_range, List.length_append, List.length_cons, List.length_nil] <;> omega) | exact ⟨rfl, by decide, by decide +kernel⟩ | rfl) ?_) | (refine optK_xc (by assumption) ?_) | (refine optK_sub (by assumption) ?_))
  conv => whnf
  refine y_lshr hsh xs (by omega) ?_
  have hle := KM.shr_le xs
  have hq : ∀ a, KM.Cor (KM.shr xs) a → Q (.d (tS (nameR (KM.mid (KM.shr xs) a)))) [] := fun a h => hq _ ⟨a, h, rfl⟩
  have hwn : KM.shr xs ≠ [] := KM.shr_ne hx
  generalize KM.shr xs = w at hq hle hwn ⊢
  repeat ((conv => whnf); first | (refine And.intro (by first | omega | exact ok_fn (by assumption) | exact ok_xc (by assumption) | (constructor <;> omega) | (simp only [List.length_map, List.length_range, List.length_append, List.length_cons, List.length_nil] <;> omega) | exact ⟨rfl, by decide, by decide +kernel⟩ | rfl) ?_) | (refine optK_xc (by assumption) ?_) | (refine optK_sub (by assumption) ?_))
  conv => whnf
  have hlen : 0 < w.length := List.length_pos_iff.mpr hwn
  refine goWhl_ex (fun k Γ M => ∃ a : Nat, Γ = [some (.d (tS xs)), some (.d (tS (KM.mid w a))), none, none] ∧ M = [] ∧ k + a = w.length + 1 ∧ 2 * a ≤ w.length ∧ ∀ j, j < a → 2 * j + 1 < w.length ∧ w[j + 1]? = w[w.length - 2 - j]?) (w.length + 1) _ _ ⟨0, by rw [KM.mid_zero]; rfl, rfl, rfl, by omega, fun j h => by omega⟩ ?_
  rintro k Γ M E' ⟨a, rfl, rfl, hk, ha, hlow⟩ hnx _ _ _ _
  have hml := KM.mid_len w a
  have hwl : (((KM.mid w a).map D.str).length : Int) = w.length - 2 * a := by rw [List.length_map, hml]; omega
  have out : ¬ (2 * a + 1 < w.length ∧ w[a + 1]? = w[w.length - 2 - a]?) → wSs sg b_law_named_1 [some (.d (tS xs)), some (.d (tS (KM.mid w a))), none, none] [] E := by
    intro hst
    have hcor : KM.Cor w a := ⟨hlow, hst⟩
    unfold b_law_named_1
    repeat ((conv => whnf); first | (refine And.intro (by first | omega | exact ok_fn (by assumption) | exact ok_xc (by assumption) | (constructor <;> omega) | (simp only [List.length_map, List.length_range, List.length_append, List.length_cons, List.length_nil] <;> omega) | exact ⟨rfl, by decide, by decide +kernel⟩ | rfl) ?_) | (refine optK_xc (by assumption) ?_) | (refine optK_sub (by assumption) ?_))
    conv => whnf
    have e0 : (((((KM.mid w a).map D.str).length : Int) - 1)).toNat = (KM.mid w a).length - 1 := by rw [List.length_map]; omega
    rw [e0]
    refine goLc_map0 rg tS (KM.turn (KM.mid w a)) (List.range ((KM.mid w a).length - 1)) (fun i hi K hK => ?_) ?_
    · have hi := List.mem_range.mp hi
      unfold rg
      conv => whnf
      rw [cutG_last (by omega), cutG_to _ (by omega), ← List.map_take]
      have e1 : (0 + (i : Int) + 1).toNat = i + 1 := by omega
      rw [e1]
      refine ⟨by simp; omega, ?_⟩
      rw [← List.map_append]
      exact hK
    · conv => whnf
      refine eq_rows_nil ?_
      have e9 := turns_nil (r := KM.mid w a)
      unfold KM.turnsL at e9
      rw [e9, Bool.not_not]
      refine ifB_d (fun c => ?_) (fun c => ?_)
      · conv => whnf
        refine ⟨minOk_rows _, ?_⟩
        have hne : (List.range ((KM.mid w a).length - 1)).map (KM.turn (KM.mid w a)) ≠ [] := fun e => by
          rw [e, decide_eq_true c] at e9
          cases e9
        refine optK_some (best_rows hne) ?_
        subst hE
        conv => whnf
        have := hq a hcor
        unfold nameR KM.ringName at this
        rw [if_pos c] at this
        exact this
      · subst hE
        conv => whnf
        have := hq a hcor
        unfold nameR KM.ringName at this
        rw [if_neg c] at this
        exact this
  conv => whnf
  refine ifB_d (fun c2 => ?_) (fun c2 => ?_)
  · have h2 : 2 * a + 1 < w.length := by omega
    obtain ⟨x, hx1⟩ := KM.some_at (w := w) (i := a + 1) (by omega)
    obtain ⟨y, hy1⟩ := KM.some_at (w := w) (i := w.length - 2 - a) (by omega)
    have m1 : (KM.mid w a)[1]? = some x := by rw [KM.mid_get (by omega), hx1]
    have m2 : (KM.mid w a)[(KM.mid w a).length - 2]? = some y := by
      rw [KM.mid_get (by omega), ← hy1]
      congr 1
      omega
    conv => whnf
    refine optK_some (atI_n (j := 1) (x := .str x) (by rw [List.getElem?_map, m1]; rfl) (.inl (by omega))) ?_
    conv => whnf
    refine optK_some (atI_n (j := (KM.mid w a).length - 2) (x := .str y) (by rw [List.getElem?_map, m2]; rfl) (.inr (by rw [List.length_map]; omega))) ?_
    conv => whnf
    refine ifB_d (fun e => ?_) (fun e => ?_)
    · conv => whnf
      have e4 : cutG ((KM.mid w a).map D.str) (some 1) (some (-1)) = (KM.mid w (a + 1)).map .str := by
        rw [← KM.mid_step h2]
        exact cutG_last (i := 1) (by omega)
      rw [e4]
      refine hnx (k - 1) _ _ (by omega) ⟨a + 1, rfl, rfl, by omega, by omega, fun j hj => ?_⟩
      by_cases hja : j = a
      · subst hja; exact ⟨h2, by rw [hx1, hy1, e]⟩
      · exact hlow j (by omega)
    · exact out fun z => e (by have := z.2; rw [hx1, hy1] at this; exact Option.some.inj this)
  · exact out fun z => c2 (by omega)
end G

/-! G21: slices of walks begun elsewhere; names told by repr. -/
namespace G
open PySem PySem.Spec L2 PyProof.Rows DL
theorem cutG_in {xs : List Str} {i : Int} (h : 0 ≤ i) : cutG (xs.map D.str) (some 1) (some i) = (xs.take i.toNat).tail.map .str := by
  rw [cutG_map]
  congr 1
  have e1 : HT.sIx xs.length 0 (some 1) = min 1 xs.length := by
    show (if (1 : Int) < 0 then ((1 : Int) + (xs.length : Int)).toNat else min (1 : Int).toNat xs.length) = _
    rw [if_neg (by omega)]
    rfl
  have e2 : HT.sIx xs.length xs.length (some i) = min i.toNat xs.length := by
    show (if i < 0 then (i + (xs.length : Int)).toNat else min i.toNat xs.length) = _
    rw [if_neg (by omega)]
  unfold cutG
  rw [e1, e2, ← List.drop_one, List.drop_take]
  rcases Nat.eq_zero_or_pos xs.length with c | c
  · have : xs = [] := List.length_eq_zero_iff.mp c
    subst this
    simp
  · rw [Nat.min_eq_left (by omega : 1 ≤ xs.length)]
    refine List.ext_getElem? fun j => ?_
    by_cases hj : j < min i.toNat xs.length - 1
    · rw [List.getElem?_take_of_lt hj, List.getElem?_take_of_lt (by omega)]
    · rw [List.getElem?_eq_none (by rw [List.length_take]; omega), List.getElem?_eq_none (by rw [List.length_take, List.length_drop]; omega)]
theorem show_tup {xs : List Str} (h1 : ∀ x ∈ xs, Nm x) (hl : xs.length ≤ 100000) : ShowOk (.tuple (xs.map .str)) := by
  have hsz := sizeLine_eq
  unfold ShowOk
  refine ⟨?_, dep_tups xs, ?_⟩
  · simp only [PyData.showable, able_strs]
  · have := show_tups h1
    omega
theorem mem_turn {r : List Str} {i : Nat} {x : Str} (h : x ∈ KM.turn r i) : x ∈ r := by
  unfold KM.turn at h
  rcases List.mem_append.mp h with h | h
  · exact List.mem_of_mem_drop (List.dropLast_subset _ h)
  · exact List.mem_of_mem_take h
theorem turns_ne {r : List Str} (h : 1 < r.length) : KM.turnsL r ≠ [] := fun e => by
  have := turns_nil (r := r)
  rw [e, decide_eq_true h] at this
  cases this
theorem mem_name {r : List Str} {x : Str} (h : x ∈ nameR r) : x ∈ r := by
  unfold nameR KM.ringName at h
  split at h
  · rename_i c
    have := (KM.leastOf_least skey_ord (turns_ne c)).1
    generalize KM.leastOf skey (KM.turnsL r) = m at this h
    unfold KM.turnsL at this
    obtain ⟨i, _, rfl⟩ := List.mem_map.mp this
    exact mem_turn h
  · cases h
theorem name_len (r : List Str) : (nameR r).length ≤ r.length + 1 := by
  unfold nameR KM.ringName
  split
  · rename_i c
    have := (KM.leastOf_least skey_ord (turns_ne c)).1
    generalize KM.leastOf skey (KM.turnsL r) = m at this ⊢
    unfold KM.turnsL at this
    obtain ⟨i, hi, rfl⟩ := List.mem_map.mp this
    have := List.mem_range.mp hi
    unfold KM.turn
    rw [List.length_append, List.length_dropLast, List.length_drop, List.length_take]
    omega
  · simp
theorem mem_mid {w : List Str} {a : Nat} {x : Str} (h : x ∈ KM.mid w a) : x ∈ w := by
  unfold KM.mid at h
  exact List.mem_of_mem_drop (List.mem_of_mem_take h)
theorem cl_last {xs : List Str} {b : Str} (hc : cl xs) (h : xs.head? = some b) : xs.getLast? = some b := by rw [← hc]; exact h
theorem cl_turn {xs : List Str} {i : Nat} (hi : i < xs.length) (hc : cl xs) : cl (KM.cat (xs.drop i) (xs.take (i + 1))) := by
  obtain ⟨x, hx⟩ := KM.some_at hi
  have hne : xs ≠ [] := by intro e; rw [e] at hi; simp at hi
  have h4 : xs.drop i ≠ [] := by intro e; have := congrArg List.length e; simp at this; omega
  obtain ⟨y, hy⟩ := last_ex hne
  have h1 : (xs.drop i).getLast? = some y := by rw [List.getLast?_drop, if_neg (by omega)]; exact hy
  have h2 : (xs.take (i + 1)).head? = some y := by rw [List.head?_take, if_neg (by omega), hc]; exact hy
  unfold cl
  rw [KM.cat_head h4, KM.cat_last h1 h2, List.head?_drop, hx, List.getLast?_eq_getElem?, List.length_take, List.getElem?_take_of_lt (by omega), ← hx]
  congr 1
  omega
theorem cl_led {xs p : List Str} {b : Str} (hc : cl xs) (hx : xs.head? = some b) (hp : p.getLast? = some b) : cl (KM.cat (KM.cat p xs) p.reverse) := by
  have hpn : p ≠ [] := by intro e; rw [e] at hp; cases hp
  unfold cl
  rw [KM.cat_head (KM.cat_ne hpn), KM.cat_head hpn, KM.cat_last (a := b) (by rw [KM.cat_last hp hx]; exact cl_last hc hx) (KM.rev_head hp), List.getLast?_reverse]
end G

/-! KM8: roots, as a relation; what they do under powers, leads, turning about. -/
namespace KM
variable {α : Type} [DecidableEq α]
theorem seg_eq_at {c c' : Int → α} {n n' : Nat} {k k' : Int} (h : seg c k n = seg c' k' n') (hp : Per c n) (hp' : Per c' n') : n = n' ∧ ∀ i : Int, 0 < n → c (k + i) = c' (k' + i) := by
  have e : n = n' := by
    have := congrArg List.length h
    rw [seg_len, seg_len] at this
    omega
  subst e
  refine ⟨rfl, fun i hn => ?_⟩
  have h1 := Int.emod_nonneg i (b := (n : Int)) (by omega)
  have h2 := Int.emod_lt_of_pos i (b := (n : Int)) (by omega)
  have sh : ∀ (d : Int → α), Per d n → ∀ z : Int, d (z + i) = d (z + ((i % n).toNat : Nat)) := fun d hd z => by
    have := hd.mul (i / n) (z + ((i % n).toNat : Nat))
    rw [← this]
    congr 1
    have h3 := (Int.mul_ediv_add_emod i (n : Int))
    rw [Int.mul_comm] at h3
    omega
  rw [sh c hp, sh c' hp']
  have : (seg c k n)[(i % n).toNat]? = (seg c' k' n)[(i % n).toNat]? := by rw [h]
  rw [seg_get (by omega), seg_get (by omega)] at this
  exact Option.some.inj this
theorem Per.shift {c c' : Int → α} {k k' q : Int} (h : ∀ i : Int, c (k + i) = c' (k' + i)) (hp : Per c q) : Per c' q := fun z => by
  have h1 := h (z - k')
  have h2 := h (z - k' + q)
  rw [show k' + (z - k') = z by omega] at h1
  rw [show k' + (z - k' + q) = z + q by omega] at h2
  rw [← h1, ← h2, show k + (z - k' + q) = k + (z - k') + q by omega, hp]
theorem LP.shift {c c' : Int → α} {k k' : Int} (h : ∀ i : Int, c (k + i) = c' (k' + i)) {p : Nat} (hp : LP c p) : LP c' p :=
  ⟨hp.pos, hp.per.shift h, fun q hq hper => hp.least q hq (hper.shift fun i => (h i).symm)⟩
/-- the root of a closed walk, and how many times it is that -/
def Root (xs r : List α) (t : Nat) : Prop := ∃ (c : Int → α) (n p : Nat) (u : List α) (k : Int), Cyc c n ∧ LP c p ∧ u.head? = xs.head? ∧ u.getLast? = some (c k) ∧ shr xs = shr (lead u (seg c k n)) ∧ r = shr (lead u (seg c k p)) ∧ t = n / p
theorem Root.mul {c : Int → α} {n p : Nat} (h : Cyc c n) (hp : LP c p) : n / p * p = n := Nat.div_mul_cancel (hp.dvd h.per)
/-- told by a core -/
theorem Root.core {xs r : List α} {t : Nat} (h : Root xs r t) {a : Nat} (ha : Cor (shr xs) a) : ∃ (c : Int → α) (n p : Nat) (k : Int), Cyc c n ∧ LP c p ∧ (stem (shr xs) a).getLast? = some (c k) ∧ (stem (shr xs) a).head? = xs.head? ∧ mid (shr xs) a = seg c k n ∧ r = shr (lead (stem (shr xs) a) (seg c k p)) ∧ t = n / p := by
  obtain ⟨c, n, p, u, k, h1, h2, h3, h4, h5, h6, h7⟩ := h
  obtain ⟨k0, e1, e2, e3, e4⟩ := Of.core ⟨u, k, h3, h4, h5⟩ h1 ha
  exact ⟨c, n, p, k0, h1, h2, e2, e3, e1, by rw [h6]; exact e4 u k h4 h5 p h2.pos h2.per, h7⟩
theorem Root.ex_cor {xs r : List α} {t : Nat} (h : Root xs r t) : ∃ a, Cor (shr xs) a := by
  obtain ⟨c, n, p, u, k, h1, h2, h3, h4, h5, h6, h7⟩ := h
  obtain ⟨u', k', g1, g2, g3, g4⟩ := lead_norm h1 _ u k (Nat.le_refl _) h4
  have e := g4 n h1.pos h1.per
  rw [shr_of_red g3] at e
  rw [h5, e]
  exact ⟨_, (lead_core h1 g1).1⟩
theorem Root.uniq {xs r r' : List α} {t t' : Nat} (h : Root xs r t) (g : Root xs r' t') : r = r' ∧ t = t' := by
  obtain ⟨a, ha⟩ := h.ex_cor
  obtain ⟨c, n, p, k, h1, h2, h3, h4, h5, h6, h7⟩ := h.core ha
  obtain ⟨c', n', p', k', g1, g2, g3, g4, g5, g6, g7⟩ := g.core ha
  have e : seg c k n = seg c' k' n' := by rw [← h5, g5]
  obtain ⟨en, ea⟩ := seg_eq_at e h1.per g1.per
  subst en
  have ea : ∀ i : Int, c (k + i) = c' (k' + i) := fun i => ea i h1.pos
  have ep := (h2.shift ea).uniq g2
  subst ep
  refine ⟨?_, by rw [h7, g7]⟩
  rw [h6, g6, seg_congr (c' := c') (k' := k') fun i _ => ea i]
theorem Root.congr {xs ys r : List α} {t : Nat} (h : Root xs r t) (e : shr xs = shr ys) : Root ys r t := by
  obtain ⟨c, n, p, u, k, h1, h2, h3, h4, h5, h6, h7⟩ := h
  exact ⟨c, n, p, u, k, h1, h2, by rw [h3, ← shr_head, e, shr_head], h4, by rw [← e, h5], h6, h7⟩
theorem lead_ne {u r : List α} (h : u ≠ []) : lead u r ≠ [] := cat_ne (cat_ne h)
theorem last_ne {u : List α} {x : α} (h : u.getLast? = some x) : u ≠ [] := by intro e; rw [e] at h; cases h
/-- the root is its own root -/
theorem Root.self {xs r : List α} {t : Nat} (h : Root xs r t) : Root r r 1 := by
  obtain ⟨c, n, p, u, k, h1, h2, h3, h4, h5, h6, h7⟩ := h
  refine ⟨c, p, p, u, k, h2.cyc h1, h2, ?_, h4, ?_, h6, ?_⟩
  · rw [h6, shr_head, lead_head (last_ne h4)]
  · rw [h6, shr_shr]
  · rw [Nat.div_self h2.pos]
theorem Root.head {xs r : List α} {t : Nat} (h : Root xs r t) : r.head? = xs.head? := by
  obtain ⟨c, n, p, u, k, h1, h2, h3, h4, h5, h6, h7⟩ := h
  rw [h6, shr_head, lead_head (last_ne h4), h3]
theorem Root.last {xs r : List α} {t : Nat} (h : Root xs r t) : r.getLast? = xs.head? := by
  obtain ⟨c, n, p, u, k, h1, h2, h3, h4, h5, h6, h7⟩ := h
  rw [h6, shr_last, lead_last h4 seg_head (by rw [seg_last, h2.per]), h3]
theorem Root.red {xs r : List α} {t : Nat} (h : Root xs r t) : Red r := by
  obtain ⟨c, n, p, u, k, h1, h2, h3, h4, h5, h6, h7⟩ := h
  rw [h6]
  exact shr_red _
theorem Root.pos {xs r : List α} {t : Nat} (h : Root xs r t) : 0 < t := by
  obtain ⟨c, n, p, u, k, h1, h2, h3, h4, h5, h6, h7⟩ := h
  rw [h7]
  exact Nat.div_pos (Nat.le_of_dvd h1.pos (h2.dvd h1.per)) h2.pos
/-- so many times -/
def pw (w : List α) : Nat → List α
  | 0 => w.take 1
  | m + 1 => shr (cat (pw w m) w)
theorem pw_lead {c : Int → α} {n : Nat} {u : List α} {k : Int} (hu : u.getLast? = some (c k)) (hp : Per c n) {w : List α} (hw : shr w = shr (lead u (seg c k n))) : ∀ m : Nat, shr (pw w m) = shr (lead u (seg c k (m * n)))
  | 0 => by
    obtain ⟨b, hb⟩ : ∃ b, u.head? = some b := by
      cases u with
      | nil => cases hu
      | cons b r => exact ⟨b, rfl⟩
    have h1 : w.head? = some b := by rw [← shr_head, hw, shr_head, lead_head (last_ne hu), hb]
    have e1 : pw w 0 = [b] := by
      unfold pw
      rw [split_head h1]
      rfl
    rw [e1, Nat.zero_mul]
    unfold lead
    have e2 : cat u (seg c k 0) = u := by rw [seg_zero]; unfold cat; simp
    rw [e2, shr_back hb]
    rfl
  | m + 1 => by
    have ih := pw_lead hu hp hw m
    have hm : Per c ((m * n : Nat) : Int) := by rw [Int.natCast_mul]; exact hp.mulN m
    have hl : (lead u (seg c k (m * n))).getLast? = u.head? := lead_last hu seg_head (by rw [seg_last, hm])
    obtain ⟨b, hb⟩ : ∃ b, u.head? = some b := by
      cases u with
      | nil => cases hu
      | cons b r => exact ⟨b, rfl⟩
    have hwh : w.head? = some b := by rw [← shr_head, hw, shr_head, lead_head (last_ne hu), hb]
    show shr (shr (cat (pw w m) w)) = _
    rw [shr_shr, shr_cat_congr (a := b) ih hw (by rw [← shr_last, ih, shr_last, hl, hb]) hwh, lead_more hu hm, Nat.succ_mul]
theorem pw_one {w : List α} {b : α} (h : w.head? = some b) : pw w 1 = shr w := by
  show shr (cat (pw w 0) w) = shr w
  have e1 : pw w 0 = [b] := by unfold pw; rw [split_head h]; rfl
  rw [e1]
  congr 1
  unfold cat
  exact (split_head h).symm
theorem pw_shr (w : List α) : ∀ m : Nat, w ≠ [] → shr (pw w m) = pw w m
  | 0, h => by
    cases w with
    | nil => exact absurd rfl h
    | cons x r => simp [pw, shr, push]
  | m + 1, _ => shr_shr _
theorem pw_ne {w : List α} (h : w ≠ []) : ∀ m : Nat, pw w m ≠ []
  | 0 => by
    cases w with
    | nil => exact absurd rfl h
    | cons x r => simp [pw]
  | m + 1 => shr_ne (cat_ne (pw_ne h m))
theorem pw_head {w : List α} (h : w ≠ []) : ∀ m : Nat, (pw w m).head? = w.head?
  | 0 => by
    cases w with
    | nil => exact absurd rfl h
    | cons x r => simp [pw]
  | m + 1 => by
    show (shr _).head? = _
    rw [shr_head, cat_head (pw_ne h m), pw_head h m]
theorem pw_last {w : List α} (h : w ≠ []) (hc : w.head? = w.getLast?) : ∀ m : Nat, (pw w m).getLast? = w.head?
  | 0 => by
    cases w with
    | nil => exact absurd rfl h
    | cons x r => simp [pw]
  | m + 1 => by
    obtain ⟨a, ha⟩ : ∃ a, w.head? = some a := by
      cases w with
      | nil => exact absurd rfl h
      | cons x r => exact ⟨x, rfl⟩
    have := pw_last h hc m
    show (shr _).getLast? = _
    rw [shr_last, cat_last (this.trans ha) ha, ← hc]
/-- the walk is its root so many times -/
theorem Root.whole {xs r : List α} {t : Nat} (h : Root xs r t) (m : Nat) : ∃ (c : Int → α) (p : Nat) (u : List α) (k : Int), Cyc c p ∧ LP c p ∧ u.getLast? = some (c k) ∧ shr (pw r m) = shr (lead u (seg c k (m * p))) ∧ (m = t → shr (pw r m) = shr xs) := by
  obtain ⟨c, n, p, u, k, h1, h2, h3, h4, h5, h6, h7⟩ := h
  have e := pw_lead (w := r) h4 h2.per (by rw [h6, shr_shr]) m
  refine ⟨c, p, u, k, h2.cyc h1, h2, h4, e, fun em => ?_⟩
  rw [e, em, h7, Root.mul h1 h2, h5]
/-- of powers -/
theorem Root.pow {xs r : List α} {t : Nat} (h : Root xs r t) {m : Nat} (hm : 0 < m) {ys : List α} (hy : shr ys = shr (pw xs m)) : Root ys r (m * t) := by
  obtain ⟨c, n, p, u, k, h1, h2, h3, h4, h5, h6, h7⟩ := h
  have e := pw_lead h4 h1.per h5 m
  refine ⟨c, m * n, p, u, k, h1.mul hm, h2, ?_, h4, by rw [hy, e], h6, ?_⟩
  · rw [← shr_head ys, hy, e, shr_head, lead_head (last_ne h4)]
  · rw [h7]
    conv => rhs; rw [← Root.mul h1 h2, ← Nat.mul_assoc, Nat.mul_div_cancel _ h2.pos]
/-- turned about -/
theorem lead_rev {c : Int → α} {n : Nat} {u : List α} {k : Int} (hu : u.getLast? = some (c k)) (hp : Per c n) : (lead u (seg c k n)).reverse = lead u (seg (fun i => c (-i)) (-k) n) := by
  have hs : (seg c k n).getLast? = some (c k) := by rw [seg_last, hp]
  unfold lead
  have e1 : (cat u (seg c k n)).getLast? = some (c k) := by rw [cat_last hu seg_head]; exact hs
  rw [cat_rev e1 (rev_head hu), List.reverse_reverse, cat_rev hu seg_head, seg_rev]
  have e2 : seg (fun i => c (-i)) (-(k + n)) n = seg (fun i => c (-i)) (-k) n := seg_congr fun i _ => by
    show c (-(-(k + n) + i)) = c (-(-k + i))
    rw [← hp (-(-k + (i : Int)))]
    congr 1
    omega
  rw [e2, cat_assoc seg_ne]
theorem Root.rev {xs r : List α} {t : Nat} (h : Root xs r t) (hc : xs.head? = xs.getLast?) : Root xs.reverse r.reverse t := by
  obtain ⟨c, n, p, u, k, h1, h2, h3, h4, h5, h6, h7⟩ := h
  refine ⟨fun i => c (-i), n, p, u, -k, h1.rev, h2.rev, ?_, by simpa using h4, ?_, ?_, h7⟩
  · rw [h3, List.head?_reverse, hc]
  · rw [shr_rev, h5, ← shr_rev, lead_rev h4 h1.per]
  · rw [h6, ← shr_rev, lead_rev h4 h2.per]
/-- led -/
theorem Root.led {xs r : List α} {t : Nat} (h : Root xs r t) {q : List α} {a : α} (hq : q.getLast? = some a) (hx : xs.head? = some a) (hl : xs.getLast? = some a) {ys : List α} (hy : shr ys = shr (cat (cat q xs) q.reverse)) : Root ys (shr (cat (cat q r) q.reverse)) t := by
  have hr1 := h.head
  have hr2 := h.last
  obtain ⟨c, n, p, u, k, h1, h2, h3, h4, h5, h6, h7⟩ := h
  have hu : u.head? = some a := by rw [h3, hx]
  have hs : ∀ m : Nat, Per c m → (seg c k m).getLast? = some (c k) := fun m hm => by rw [seg_last, hm]
  have hqn := last_ne hq
  refine ⟨c, n, p, cat q u, k, h1, h2, ?_, by rw [cat_last hq hu]; exact h4, ?_, ?_, h7⟩
  · rw [cat_head hqn, ← shr_head ys, hy, shr_head, cat_head (cat_ne hqn), cat_head hqn]
  · rw [hy, lead_cat hq hu h4 seg_head (hs n h1.per)]
    refine shr_cat_congr (shr_cat_congr rfl h5 hq hx) rfl (a := a) ?_ (rev_head hq)
    rw [cat_last hq hx]
    exact hl
  · rw [lead_cat hq hu h4 seg_head (hs p h2.per)]
    refine shr_cat_congr (shr_cat_congr rfl (by rw [h6, shr_shr]) hq (hr1.trans hx)) rfl (a := a) ?_ (rev_head hq)
    rw [cat_last hq (hr1.trans hx)]
    exact hr2.trans hx
/-- there is one -/
theorem Root.ex {xs : List α} (hne : xs ≠ []) (hc : xs.head? = xs.getLast?) (hap : Apt (shr xs)) (hl : (shr xs).length ≠ 1) {a : Nat} (ha : Cor (shr xs) a) : ∃ (c : Int → α) (n p : Nat), Cyc c n ∧ LP c p ∧ mid (shr xs) a = seg c 0 n ∧ (stem (shr xs) a).getLast? = some (c 0) ∧ Root xs (shr (lead (stem (shr xs) a) (seg c 0 p))) (n / p) := by
  obtain ⟨c, n, h1, h2, h3, h4, h5, h6⟩ := of_cor ha (shr_ne hne) (by rw [shr_head, shr_last]; exact hc) (shr_red xs) hap hl
  obtain ⟨p, hp⟩ := LP.ex h1.pos h1.per
  exact ⟨c, n, p, h1, hp, h3, h4, c, n, p, stem (shr xs) a, 0, h1, hp, by rw [h5, shr_head], h4, by rw [← h6, shr_shr], rfl, rfl⟩
theorem Root.nz {xs r : List α} {t : Nat} (h : Root xs r t) : (shr xs).length ≠ 1 := by
  obtain ⟨a, ha⟩ := h.ex_cor
  obtain ⟨c, n, p, k, h1, h2, h3, h4, h5, h6, h7⟩ := h.core ha
  have := mid_len (shr xs) a
  rw [h5, seg_len] at this
  have := h1.pos
  omega
/-- two powers that are one have one root -/
theorem Root.same {xs ys r r' : List α} {t t' m m' : Nat} (h : Root xs r t) (g : Root ys r' t') (hm : 0 < m) (hm' : 0 < m') (e : shr (pw xs m) = shr (pw ys m')) : r = r' :=
  ((h.pow hm (ys := pw ys m') e.symm).uniq (g.pow hm' rfl)).1
end KM

/-! G22: roots. -/
namespace G
open PySem PySem.Spec L2 PyProof.Rows DL
def N_times_of : List Str := ["ring", "steps", "part"]
@[irreducible] def b_times_of_1 : List Sx := [
  .ret (.int 1)]
def b_times_of : List Sx := (
  .asg 1 (.pr (.bin .Sub false) [.pr (.bi .len false) [.v 0], .int 1]) ::
  .fors (.n 2) .rng [.int 1, .pr (.bin .Add false) [.v 1, .int 1]] [
    .ite (.and (.pr (.cmp .Eq) [.pr (.bin .Mod false) [.v 1, .v 2], .int 0]) (.pr (.cmp .Eq) [.pr (.slc false true false) [.v 0, .pr .neg [.int 1]], .pr (.bin .Mult false) [.pr (.slc false true false) [.v 0, .v 2], .pr (.bin .FloorDiv false) [.v 1, .v 2]]])) [
      .ret (.pr (.bin .FloorDiv false) [.v 1, .v 2])] []] :: b_times_of_1)

def N_need_something : List Str := ["walk"]
def b_need_something : List Sx := [
  .ite (.pr (.cmp .Eq) [.pr (.bi .len false) [.pr (.call "shrunk" []) [.v 0]], .int 1]) [
    .rse "Nothing" []] []]

def N_root : List Str := ["walk", "times", "part", "stem", "ring"]
def b_root : List Sx := [
  .asgT [3, 4] (.pr (.call "core" []) [.v 0]),
  .exp (.pr (.call "need_something" []) [.v 0]),
  .asg 1 (.pr (.call "times_of" []) [.v 4]),
  .asg 2 (.pr (.slc false true false) [.v 4, .pr (.bin .Add false) [.pr (.bin .FloorDiv false) [.pr (.bin .Sub false) [.pr (.bi .len false) [.v 4], .int 1], .v 1], .int 1]]),
  .ret (.pr (.tup false) [.pr (.call "behind" []) [.pr (.call "behind" []) [.v 3, .v 2], .pr (.call "turned" []) [.v 3]], .v 1])]

theorem fm_first {β : Type} {g : Nat → Option β} {n j : Nat} {b : β} (hj : j < n) (h1 : g j = some b) (h0 : ∀ i, i < j → g i = none) : ∃ tl, (List.range n).filterMap g = b :: tl := by
  obtain ⟨m, rfl⟩ : ∃ m, n = j + (m + 1) := ⟨n - j - 1, by omega⟩
  rw [List.range_add, List.filterMap_append, List.range_succ_eq_map, List.map_cons, List.filterMap_cons]
  have e : (List.range j).filterMap g = [] := by
    rw [List.filterMap_eq_nil_iff]
    intro i hi
    exact h0 i (List.mem_range.mp hi)
  rw [e, List.nil_append, Nat.add_zero, h1]
  exact ⟨_, rfl⟩
theorem mod0 {n p : Nat} (h : 0 < p) : decide (((n : Int).fmod (p : Int)) = 0) = decide (n % p = 0) := by
  rw [Int.fmod_eq_emod_of_nonneg _ (by omega)]
  by_cases c : n % p = 0
  · rw [decide_eq_true c, decide_eq_true (by omega)]
  · rw [decide_eq_false c, decide_eq_false (by omega)]
theorem fdiv_nat {n p : Nat} : ((n : Int).fdiv (p : Int)) = ((n / p : Nat) : Int) := by
  rw [Int.fdiv_eq_ediv_of_nonneg _ (by omega)]
  rfl
/-- the part of a ring, so many times -/
theorem rep_strs (xs : List Str) (n : Nat) : (List.replicate n (xs.map D.str)).flatten = ((List.replicate n xs).flatten).map D.str := by
  rw [List.map_flatten, List.map_replicate]
abbrev RingI : Type := (Int → Str) × Int × Nat × Nat
def spTimes : DL.Spec := pSp (fun i : RingI => [tS (KM.seg i.1 i.2.1 i.2.2.1)]) (fun i => KM.Cyc i.1 i.2.2.1 ∧ KM.LP i.1 i.2.2.2 ∧ i.2.2.1 < 16000000) (fun i r => r = .int ((i.2.2.1 / i.2.2.2 : Nat) : Int)) noE
theorem y_times {sg : Sg} (hs : sg.fn "times_of" 1 = some spTimes) {M : MM} {Q : W → MM → Prop} {R : XR} (c : Int → Str) (k : Int) (n p : Nat) (h1 : KM.Cyc c n) (h2 : KM.LP c p) (h3 : n < 16000000) (hq : Q (.d (.int ((n / p : Nat) : Int))) M) : lendO (sg.fn "times_of" 1) [] [.d (tS (KM.seg c k n))] M Q R := by
  rw [hs]
  exact use_q (c, k, n, p) ⟨h1, h2, h3⟩ (fun r hr => by rw [hr]; exact hq) fun _ _ h => h.elim
theorem s_times (sg : Sg) (ws M Q R) (h : spTimes ws M Q R) : ws.length = 1 ∧ wSs sg b_times_of (G0 N_times_of.length ws) M (bodyE true M.length Q R) := by
  obtain ⟨⟨c, k, n, p⟩, rfl, rfl, ⟨h1, h2, h3⟩, hq, _⟩ := h
  refine ⟨rfl, ?_⟩
  dsimp only at h1 h2 h3 hq
  have hsz := sizeLine_eq
  have hpn : p ≤ n := Nat.le_of_dvd h1.pos (h2.dvd h1.per)
  have hpp := h2.pos
  have hnp := h1.pos
  have hsl : ((List.map D.str (KM.seg c k n)).length : Int) - 1 = n := by rw [List.length_map, KM.seg_len]; omega
  have hlast : cutG (List.map D.str (KM.seg c k n)) none (some (-1)) = (KM.seg c k n).dropLast.map .str := by
    obtain ⟨s, hs⟩ := KM.split_last (KM.seg_last (c := c) (k := k) (n := n))
    rw [hs, List.map_append, List.map_cons, List.map_nil, cutG_init, List.dropLast_concat]
  generalize hE : bodyE true _ Q R = E
  repeat ((conv => whnf); first | (refine And.intro (by first | omega | exact ok_fn (by assumption) | exact ok_xc (by assumption) | (constructor <;> omega) | (simp only [List.length_map, List.length_range, List.length_append, List.length_cons, List.length_nil] <;> omega) | exact ⟨rfl, by decide, by decide +kernel⟩ | rfl) ?_) | (refine optK_xc (by assumption) ?_) | (refine optK_sub (by assumption) ?_))
  conv => whnf
  rw [hsl]
  have e0 : ((n : Int) + 1 - 1).toNat = n := by omega
  refine ⟨by omega, ?_⟩
  rw [e0]
  refine goFor_as (fun (i : Nat) => .int (1 + (i : Int))) (fun rest Γ M => ∃ (j : Nat) (z : Option W), Γ = [some (.d (tS (KM.seg c k n))), some (.d (.int (n : Int))), z] ∧ M = [] ∧ (∃ pre, pre ++ rest = List.range n ∧ pre.length = j) ∧ j < p) ?_ ?_ (List.range n) _ _ ⟨0, none, rfl, rfl, ⟨[], rfl, rfl⟩, hpp⟩
  · rintro Γ M ⟨j, z, rfl, rfl, ⟨pre, h4, h5⟩, h6⟩
    have := congrArg List.length h4
    rw [List.append_nil, List.length_range] at this
    omega
  · rintro i rest Γ M E' ⟨j, z, rfl, rfl, ⟨pre, h4, h5⟩, h6⟩ hnx _ _ hrt _
    have hij : i = j := by
      have := congrArg (fun l => l[j]?) h4
      simp only [List.getElem?_append_right (Nat.le_of_eq h5), h5, Nat.sub_self, List.getElem?_cons_zero] at this
      rw [List.getElem?_range (by omega)] at this
      exact Option.some.inj this
    subst hij
    have e1 : (1 + (i : Int)) = ((i + 1 : Nat) : Int) := by omega
    rw [e1]
    have next : i + 1 < p → E'.nx [some (.d (tS (KM.seg c k n))), some (.d (.int (n : Int))), some (.d (.int ((i + 1 : Nat) : Int)))] [] := fun hlt => hnx _ _ ⟨i + 1, _, rfl, rfl, ⟨pre ++ [i], by rw [← h4]; simp, by simp [h5]⟩, hlt⟩
    have lt_of : ¬ (n % (i + 1) = 0 ∧ KM.Per c ((i + 1 : Nat) : Int)) → i + 1 < p := fun hh => by
      rcases Nat.lt_or_ge (i + 1) p with h | h
      · exact h
      · have : i + 1 = p := by omega
        refine absurd ⟨?_, ?_⟩ hh
        · rw [this]; exact Nat.mod_eq_zero_of_dvd (h2.dvd h1.per)
        · rw [this]; exact h2.per
    repeat ((conv => whnf); first | (refine And.intro (by first | omega | exact ok_fn (by assumption) | exact ok_xc (by assumption) | (constructor <;> omega) | (simp only [List.length_map, List.length_range, List.length_append, List.length_cons, List.length_nil] <;> omega) | exact ⟨rfl, by decide, by decide +kernel⟩ | rfl) ?_) | (refine optK_xc (by assumption) ?_) | (refine optK_sub (by assumption) ?_))
    conv => whnf
    rw [mod0 (by omega)]
    refine ifB_d (fun d => ?_) (fun d => ?_)
    · repeat ((conv => whnf); first | (refine And.intro (by first | omega | exact ok_fn (by assumption) | exact ok_xc (by assumption) | (constructor <;> omega) | (simp only [List.length_map, List.length_range, List.length_append, List.length_cons, List.length_nil] <;> omega) | exact ⟨rfl, by decide, by decide +kernel⟩ | rfl) ?_) | (refine optK_xc (by assumption) ?_) | (refine optK_sub (by assumption) ?_))
      conv => whnf
      rw [cutG_to _ (by omega), Int.toNat_natCast, fdiv_nat, ← List.map_take]
      have hle : i + 1 ≤ n := by omega
      have hq1 := Nat.div_pos hle (Nat.succ_pos i)
      have hqm := Nat.div_mul_cancel (Nat.dvd_of_mod_eq_zero d)
      have htl : ((KM.seg c k n).take (i + 1)).length = i + 1 := by rw [List.length_take, KM.seg_len]; omega
      have hcap := Nat.div_le_self n (i + 1)
      refine ⟨.inr ⟨by omega, by omega, ?_⟩, ?_⟩
      · rw [List.length_map, htl, Int.toNat_natCast, Nat.mul_comm, hqm, hsz]
        omega
      rw [Int.toNat_natCast, rep_strs]
      repeat ((conv => whnf); first | (refine And.intro (by first | omega | exact ok_fn (by assumption) | exact ok_xc (by assumption) | (constructor <;> omega) | (simp only [List.length_map, List.length_range, List.length_append, List.length_cons, List.length_nil] <;> omega) | exact ⟨rfl, by decide, by decide +kernel⟩ | rfl) ?_) | (refine optK_xc (by assumption) ?_) | (refine optK_sub (by assumption) ?_))
      conv => whnf
      rw [hlast]
      refine eq_tups ?_
      have hpi := KM.part_iff (k := k) h1.per (p := i + 1) (by omega) d h1.pos
      refine ifB_d (fun e => ?_) (fun e => ?_)
      · have : KM.Per c ((i + 1 : Nat) : Int) := hpi.mp e
        have hip : i + 1 = p := by
          have := h2.least (i + 1) (by omega) this
          omega
        repeat ((conv => whnf); first | (refine And.intro (by first | omega | exact ok_fn (by assumption) | exact ok_xc (by assumption) | (constructor <;> omega) | (simp only [List.length_map, List.length_range, List.length_append, List.length_cons, List.length_nil] <;> omega) | exact ⟨rfl, by decide, by decide +kernel⟩ | rfl) ?_) | (refine optK_xc (by assumption) ?_) | (refine optK_sub (by assumption) ?_))
        conv => whnf
        rw [fdiv_nat, hip]
        show E'.rt _ _
        rw [hrt]
        subst hE
        conv => whnf
        exact hq _ rfl
      · conv => whnf
        exact next (lt_of fun z => e (hpi.mpr z.2))
    · conv => whnf
      exact next (lt_of fun z => d z.1)
def spSome : DL.Spec := pSp (fun xs : List Str => [tS xs]) (fun xs => xs.length < 16777216) (fun xs r => (KM.shr xs).length ≠ 1 ∧ r = .non) (fun xs c fs => (KM.shr xs).length = 1 ∧ c = "Nothing" ∧ fs = [])
theorem y_some {sg : Sg} (hs : sg.fn "need_something" 1 = some spSome) {M : MM} {Q : W → MM → Prop} {R : XR} (xs : List Str) (hl : xs.length < 16777216) (hq : (KM.shr xs).length ≠ 1 → Q (.d .non) M) (hr : (KM.shr xs).length = 1 → R "Nothing" [] M) : lendO (sg.fn "need_something" 1) [] [.d (tS xs)] M Q R := by
  rw [hs]
  exact use_q xs hl (fun r ⟨h1, h2⟩ => by rw [h2]; exact hq h1) fun c fs ⟨h1, h2, h3⟩ => by rw [h2, h3]; exact hr h1
theorem s_some (sg : Sg) (hsh : sg.fn "shrunk" 1 = some spShrunk) (hN : sg.xc "Nothing" = some []) (ws M Q R) (h : spSome ws M Q R) : ws.length = 1 ∧ wSs sg b_need_something (G0 N_need_something.length ws) M (bodyE true M.length Q R) := by
  obtain ⟨xs, rfl, rfl, hx, hq, hr⟩ := h
  refine ⟨rfl, ?_⟩
  have hsz := sizeLine_eq
  generalize hE : bodyE true _ Q R = E
  repeat ((conv => whnf); first | (refine And.intro (by first | omega | exact ok_fn (by assumption) | exact ok_xc (by assumption) | (constructor <;> omega) | (simp only [List.length_map, List.length_range, List.length_append, List.length_cons, List.length_nil] <;> omega) | exact ⟨rfl, by decide, by decide +kernel⟩ | rfl) ?_) | (refine optK_xc (by assumption) ?_) | (refine optK_sub (by assumption) ?_))
  conv => whnf
  refine y_shrunk hsh xs hx ?_
  conv => whnf
  refine ifB_d (fun e => ?_) (fun e => ?_)
  · rw [List.length_map] at e
    repeat ((conv => whnf); first | (refine And.intro (by first | omega | exact ok_fn (by assumption) | exact ok_xc (by assumption) | (constructor <;> omega) | (simp only [List.length_map, List.length_range, List.length_append, List.length_cons, List.length_nil] <;> omega) | exact ⟨rfl, by decide, by decide +kernel⟩ | rfl) ?_) | (refine optK_xc (by assumption) ?_) | (refine optK_sub (by assumption) ?_))
    conv => whnf
    refine optK_some rfl ?_
    subst hE
    conv => whnf
    exact hr _ _ ⟨by omega, rfl, rfl⟩
  · rw [List.length_map] at e
    subst hE
    conv => whnf
    exact hq _ ⟨by omega, rfl⟩
abbrev rootD (r : List Str) (t : Nat) : D := .tup [tS r, .int (t : Int)]
def spRoot : DL.Spec := pSp (fun xs : List Str => [tS xs]) (fun xs => xs ≠ [] ∧ xs.length < 8000000 ∧ (cl xs → KM.Apt (KM.shr xs))) (fun xs x => cl xs ∧ ∃ r t, KM.Root xs r t ∧ r.length ≤ xs.length ∧ x = rootD r t) (fun xs c fs => (¬ cl xs ∧ c = "NotClosed" ∧ fs = []) ∨ (cl xs ∧ (KM.shr xs).length = 1 ∧ c = "Nothing" ∧ fs = []))
theorem y_root {sg : Sg} (hs : sg.fn "root" 1 = some spRoot) {M : MM} {Q : W → MM → Prop} {R : XR} (xs : List Str) (hx : xs ≠ []) (hl : xs.length < 8000000) (ha : cl xs → KM.Apt (KM.shr xs)) (hq : ∀ r t, cl xs → KM.Root xs r t → r.length ≤ xs.length → Q (.d (rootD r t)) M) (h1 : ¬ cl xs → R "NotClosed" [] M) (h2 : cl xs → (KM.shr xs).length = 1 → R "Nothing" [] M) : lendO (sg.fn "root" 1) [] [.d (tS xs)] M Q R := by
  rw [hs]
  refine use_q xs ⟨hx, hl, ha⟩ (fun x ⟨g1, r, t, g2, g4, g3⟩ => by rw [g3]; exact hq r t g1 g2 g4) fun c fs h => ?_
  rcases h with ⟨g1, g2, g3⟩ | ⟨g1, g4, g2, g3⟩
  · rw [g2, g3]; exact h1 g1
  · rw [g2, g3]; exact h2 g1 g4
theorem s_root (sg : Sg) (hco : sg.fn "core" 1 = some spCore) (hso : sg.fn "need_something" 1 = some spSome) (hti : sg.fn "times_of" 1 = some spTimes) (hbe : sg.fn "behind" 2 = some spBehind) (htu : sg.fn "turned" 1 = some spTurned) (ws M Q R) (h : spRoot ws M Q R) : ws.length = 1 ∧ wSs sg b_root (G0 N_root.length ws) M (bodyE true M.length Q R) := by
  obtain ⟨xs, rfl, rfl, ⟨hx, hl, hap⟩, hq, hr⟩ := h
  refine ⟨rfl, ?_⟩
  dsimp only at hx hl hap hq hr
  have hsz := sizeLine_eq
  generalize hE : bodyE true _ Q R = E
  repeat ((conv => whnf); first | (refine And.intro (by first | omega | exact ok_fn (by assumption) | exact ok_xc (by assumption) | (constructor <;> omega) | (simp only [List.length_map, List.length_range, List.length_append, List.length_cons, List.length_nil] <;> omega) | exact ⟨rfl, by decide, by decide +kernel⟩ | rfl) ?_) | (refine optK_xc (by assumption) ?_) | (refine optK_sub (by assumption) ?_))
  conv => whnf
  refine y_core hco xs hx (by omega) (fun a hc ha => ?_) (fun c => ?_)
  · repeat ((conv => whnf); first | (refine And.intro (by first | omega | exact ok_fn (by assumption) | exact ok_xc (by assumption) | (constructor <;> omega) | (simp only [List.length_map, List.length_range, List.length_append, List.length_cons, List.length_nil] <;> omega) | exact ⟨rfl, by decide, by decide +kernel⟩ | rfl) ?_) | (refine optK_xc (by assumption) ?_) | (refine optK_sub (by assumption) ?_))
    conv => whnf
    refine y_some hso xs (by omega) (fun hne => ?_) (fun he => ?_)
    · obtain ⟨c, n, p, h1, h2, h3, h4, h5⟩ := KM.Root.ex hx hc (hap hc) hne ha
      have hml := KM.mid_len (KM.shr xs) a
      have hle := KM.shr_le xs
      have hpn : p ≤ n := Nat.le_of_dvd h1.pos (h2.dvd h1.per)
      have hpp := h2.pos
      have hmn : n + 1 = (KM.shr xs).length - 2 * a := by rw [← hml, h3, KM.seg_len]
      have hsl : (KM.stem (KM.shr xs) a).length ≤ a + 1 := by unfold KM.stem; rw [List.length_take]; omega
      rw [h3]
      generalize hst : KM.stem (KM.shr xs) a = u at *
      have hun : u ≠ [] := KM.last_ne h4
      have ht0 := h5.pos
      have hnp := KM.Root.mul h1 h2
      repeat ((conv => whnf); first | (refine And.intro (by first | omega | exact ok_fn (by assumption) | exact ok_xc (by assumption) | (constructor <;> omega) | (simp only [List.length_map, List.length_range, List.length_append, List.length_cons, List.length_nil] <;> omega) | exact ⟨rfl, by decide, by decide +kernel⟩ | rfl) ?_) | (refine optK_xc (by assumption) ?_) | (refine optK_sub (by assumption) ?_))
      conv => whnf
      refine y_times hti c 0 n p h1 h2 (by omega) ?_
      have hsl2 : ((List.map D.str (KM.seg c 0 n)).length : Int) - 1 = n := by rw [List.length_map, KM.seg_len]; omega
      have hcap := Nat.div_le_self n p
      conv => whnf
      rw [hsl2]
      repeat ((conv => whnf); first | (refine And.intro (by first | omega | exact ok_fn (by assumption) | exact ok_xc (by assumption) | (constructor <;> omega) | (simp only [List.length_map, List.length_range, List.length_append, List.length_cons, List.length_nil] <;> omega) | exact ⟨rfl, by decide, by decide +kernel⟩ | rfl) ?_) | (refine optK_xc (by assumption) ?_) | (refine optK_sub (by assumption) ?_))
      conv => whnf
      rw [fdiv_nat]
      have e1 : n / (n / p) = p := by
        have := Nat.mul_div_cancel_left p ht0
        rwa [hnp] at this
      rw [e1, cutG_to _ (by omega), ← List.map_take]
      have e2 : ((p : Int) + 1).toNat = p + 1 := by omega
      have e3 : (KM.seg c 0 n).take (p + 1) = KM.seg c 0 p := by
        refine List.ext_getElem? fun i => ?_
        by_cases hi : i ≤ p
        · rw [List.getElem?_take_of_lt (by omega), KM.seg_get (by omega), KM.seg_get hi]
        · rw [List.getElem?_eq_none (by rw [List.length_take, KM.seg_len]; omega), List.getElem?_eq_none (by rw [KM.seg_len]; omega)]
      rw [e2, e3]
      repeat ((conv => whnf); first | (refine And.intro (by first | omega | exact ok_fn (by assumption) | exact ok_xc (by assumption) | (constructor <;> omega) | (simp only [List.length_map, List.length_range, List.length_append, List.length_cons, List.length_nil] <;> omega) | exact ⟨rfl, by decide, by decide +kernel⟩ | rfl) ?_) | (refine optK_xc (by assumption) ?_) | (refine optK_sub (by assumption) ?_))
      conv => whnf
      refine y_behind hbe u (KM.seg c 0 p) hun KM.seg_ne (by rw [KM.seg_len]; omega) (fun _ => ?_) (fun z => absurd (h4.trans KM.seg_head.symm) z)
      rw [beh_cat]
      have hcl : (KM.cat u (KM.seg c 0 p)).getLast? = some (c 0) := by rw [KM.cat_last h4 KM.seg_head, KM.seg_last, h2.per]
      have hcn := KM.cat_len (u := u) (KM.seg_ne (c := c) (k := 0) (n := p))
      have hcs := KM.shr_le (KM.cat u (KM.seg c 0 p))
      rw [KM.seg_len] at hcn
      repeat ((conv => whnf); first | (refine And.intro (by first | omega | exact ok_fn (by assumption) | exact ok_xc (by assumption) | (constructor <;> omega) | (simp only [List.length_map, List.length_range, List.length_append, List.length_cons, List.length_nil] <;> omega) | exact ⟨rfl, by decide, by decide +kernel⟩ | rfl) ?_) | (refine optK_xc (by assumption) ?_) | (refine optK_sub (by assumption) ?_))
      conv => whnf
      refine y_turned htu u ?_
      refine y_behind hbe (KM.shr (KM.cat u (KM.seg c 0 p))) u.reverse (KM.shr_ne (KM.cat_ne hun)) (by simpa using hun) (by rw [List.length_reverse]; omega) (fun _ => ?_) (fun z => absurd ((by rw [KM.shr_last]; exact hcl.trans (KM.rev_head h4).symm)) z)
      rw [beh_cat, KM.shr_cat_l]
      subst hE
      conv => whnf
      refine hq _ ⟨hc, _, _, h5, ?_, rfl⟩
      have e4 := KM.shr_le (KM.lead u (KM.seg c 0 p))
      have e5 := KM.lead_len (c := c) (k := 0) (n := p) hun
      have e6 := ha.half
      omega
    · subst hE
      conv => whnf
      exact hr _ _ (.inr ⟨hc, he, rfl, rfl⟩)
  · subst hE
    conv => whnf
    exact hr _ _ (.inl ⟨c, rfl, rfl⟩)
end G

/-! G23: walks led; roots compared. -/
namespace G
open PySem PySem.Spec L2 PyProof.Rows DL
def N_led_by : List Str := ["walk", "lead"]
def b_led_by : List Sx := [
  .exp (.pr (.call "need_closed" []) [.v 0]),
  .ret (.pr (.call "behind" []) [.pr (.call "behind" []) [.pr (.call "turned" []) [.v 1], .v 0], .v 1])]

abbrev ledL (w p : List Str) : List Str := KM.shr (KM.cat (KM.cat p.reverse w) p)
def spLed : DL.Spec := pSp (fun i : List Str × List Str => [tS i.1, tS i.2]) (fun i => i.1 ≠ [] ∧ i.2 ≠ [] ∧ i.1.length + 2 * i.2.length < 16777216) (fun i r => cl i.1 ∧ i.2.head? = i.1.head? ∧ r = tS (ledL i.1 i.2)) (fun i c fs => (¬ cl i.1 ∧ c = "NotClosed" ∧ fs = []) ∨ (cl i.1 ∧ i.2.head? ≠ i.1.head? ∧ c = "Apart" ∧ fs = []))
theorem y_led {sg : Sg} (hs : sg.fn "led_by" 2 = some spLed) {M : MM} {Q : W → MM → Prop} {R : XR} (xs ys : List Str) (hx : xs ≠ []) (hy : ys ≠ []) (hl : xs.length + 2 * ys.length < 16777216) (hq : cl xs → ys.head? = xs.head? → Q (.d (tS (ledL xs ys))) M) (h1 : ¬ cl xs → R "NotClosed" [] M) (h2 : cl xs → ys.head? ≠ xs.head? → R "Apart" [] M) : lendO (sg.fn "led_by" 2) [] [.d (tS xs), .d (tS ys)] M Q R := by
  rw [hs]
  refine use_q (xs, ys) ⟨hx, hy, hl⟩ (fun x ⟨g1, g2, g3⟩ => by rw [g3]; exact hq g1 g2) fun c fs h => ?_
  rcases h with ⟨g1, g2, g3⟩ | ⟨g1, g4, g2, g3⟩
  · rw [g2, g3]; exact h1 g1
  · rw [g2, g3]; exact h2 g1 g4
theorem s_led (sg : Sg) (hne : sg.fn "need_closed" 1 = some spNeed) (hbe : sg.fn "behind" 2 = some spBehind) (htu : sg.fn "turned" 1 = some spTurned) (ws M Q R) (h : spLed ws M Q R) : ws.length = 2 ∧ wSs sg b_led_by (G0 N_led_by.length ws) M (bodyE true M.length Q R) := by
  obtain ⟨⟨xs, ys⟩, rfl, rfl, ⟨hx, hy, hl⟩, hq, hr⟩ := h
  refine ⟨rfl, ?_⟩
  dsimp only at hx hy hl hq hr
  have hsz := sizeLine_eq
  have hrn : ys.reverse ≠ [] := by simpa using hy
  obtain ⟨b, hb⟩ := head_ex hy
  have hrl : ys.reverse.getLast? = some b := KM.rev_last hb
  generalize hE : bodyE true _ Q R = E
  repeat ((conv => whnf); first | (refine And.intro (by first | omega | exact ok_fn (by assumption) | exact ok_xc (by assumption) | (constructor <;> omega) | (simp only [List.length_map, List.length_range, List.length_append, List.length_cons, List.length_nil] <;> omega) | exact ⟨rfl, by decide, by decide +kernel⟩ | rfl) ?_) | (refine optK_xc (by assumption) ?_) | (refine optK_sub (by assumption) ?_))
  conv => whnf
  refine y_need hne xs hx (fun c => ?_) (fun c => ?_)
  · repeat ((conv => whnf); first | (refine And.intro (by first | omega | exact ok_fn (by assumption) | exact ok_xc (by assumption) | (constructor <;> omega) | (simp only [List.length_map, List.length_range, List.length_append, List.length_cons, List.length_nil] <;> omega) | exact ⟨rfl, by decide, by decide +kernel⟩ | rfl) ?_) | (refine optK_xc (by assumption) ?_) | (refine optK_sub (by assumption) ?_))
    conv => whnf
    refine y_turned htu ys ?_
    refine y_behind hbe ys.reverse xs hrn hx (by rw [List.length_reverse]; omega) (fun e => ?_) (fun e => ?_)
    · rw [hrl] at e
      rw [beh_cat]
      have h1 := KM.cat_len (u := ys.reverse) hx
      have h2 := KM.shr_le (KM.cat ys.reverse xs)
      rw [List.length_reverse] at h1
      conv => whnf
      have e3 : (KM.shr (KM.cat ys.reverse xs)).getLast? = ys.head? := by
        rw [KM.shr_last, KM.cat_last hrl e.symm, ← c, ← e, hb]
      refine y_behind hbe _ ys (KM.shr_ne (KM.cat_ne hrn)) hy (by omega) (fun _ => ?_) (fun z => absurd e3 z)
      rw [beh_cat, KM.shr_cat_l]
      subst hE
      conv => whnf
      exact hq _ ⟨c, by rw [hb, e], rfl⟩
    · subst hE
      conv => whnf
      refine hr _ _ (.inr ⟨c, ?_, rfl, rfl⟩)
      rw [hb, ← hrl]
      exact e
  · subst hE
    conv => whnf
    exact hr _ _ (.inl ⟨c, rfl, rfl⟩)
theorem toPy_root (r : List Str) (t : Nat) : toPy (rootD r t) = some (.tuple [.tuple (r.map .str), .int (t : Int)]) := by
  simp only [rootD, toPy, toPys, toPys_strs]
theorem dep_root (r : List Str) (t : Nat) : (PyData.tuple [.tuple (r.map .str), .int (t : Int)]).depth ≤ 64 := by
  have d1 : (PyData.tuple (r.map PyData.str)).depth ≤ 2 := by simp only [PyData.depth, dep_strs0]; omega
  rw [PyData.depth]
  simp only [PyData.depthAll, PyData.depth] at d1 ⊢
  omega
theorem eq_root {r r' : List Str} {t t' : Nat} {k : Bool → Prop} (h : k (decide (r = r' ∧ t = t'))) : eqDG (rootD r t) (rootD r' t') k := by
  refine eqDG_of (toPy_root r t) (toPy_root r' t') (dep_root r t) (dep_root r' t') ?_ h
  simp only [PyData.eqv, PyData.eqvAll, eqvs_strs, Bool.and_true]
  by_cases e : r = r' <;> by_cases f : t = t'
  · subst e f; simp
  · rw [decide_eq_true e, decide_eq_false (fun z => f z.2)]
    simp
    omega
  · rw [decide_eq_false e, decide_eq_false (fun z => e z.1)]; rfl
  · rw [decide_eq_false e, decide_eq_false (fun z => e z.1)]; rfl
end G

/-! KM9: powers of one root; two walks there and back. -/
namespace KM
variable {α : Type} [DecidableEq α]
theorem Root.conv {xs ys r : List α} {t t' : Nat} (h : Root xs r t) (g : Root ys r t') : shr (pw xs t') = shr (pw ys t) := by
  have hw := (g.whole t').choose_spec.choose_spec.choose_spec.choose_spec.2.2.2.2 rfl
  obtain ⟨c, n, p, u, k, h1, h2, h3, h4, h5, h6, h7⟩ := h
  have e1 := pw_lead (w := r) h4 h2.per (by rw [h6, shr_shr]) t'
  rw [hw] at e1
  have hp' : Per c ((t' * p : Nat) : Int) := by rw [Int.natCast_mul]; exact h2.per.mulN t'
  have e2 := pw_lead h4 hp' e1 t
  have e3 := pw_lead h4 h1.per h5 t'
  rw [e2, e3]
  congr 3
  rw [h7, ← Root.mul h1 h2, Nat.mul_div_cancel _ h2.pos, Nat.mul_left_comm]
theorem back_eq {u v : List α} {a b : α} (hu : u.head? = some a) (hv : v.head? = some a) (hul : u.getLast? = some b) (hvl : v.getLast? = some b) : shr (cat u v.reverse) = [a] ↔ shr u = shr v := by
  have hvn : v ≠ [] := last_ne hvl
  have hrn : v.reverse ≠ [] := by simpa using hvn
  have hb2 : shr (cat v.reverse v) = [b] := by
    have := shr_back (u := v.reverse) (rev_head hvl)
    rwa [List.reverse_reverse] at this
  constructor
  · intro h
    have hl : (cat u v.reverse).getLast? = some a := by rw [cat_last hul (rev_head hvl)]; exact rev_last hv
    have e1 : shr (cat (cat u v.reverse) v) = shr v := by
      have e0 : cat [a] v = v := by unfold cat; exact (split_head hv).symm
      conv => rhs; rw [← e0]
      exact shr_cat_congr (by rw [h]; rfl) rfl hl hv
    have e2 : shr (cat (cat u v.reverse) v) = shr u := by
      rw [cat_assoc hrn]
      have e0 : cat u [b] = u := by unfold cat; simp
      conv => rhs; rw [← e0]
      exact shr_cat_congr rfl (by rw [hb2]; rfl) hul (by rw [cat_head hrn]; exact rev_head hvl)
    rw [← e2, e1]
  · intro h
    rw [shr_cat_congr (x' := v) (y' := v.reverse) h rfl hul (rev_head hvl)]
    exact shr_back hv
end KM

/-! G24: closed walks, their powers and roots, in the house. -/
namespace G
open PySem PySem.Spec L2 PyProof.Rows DL
theorem show_int {t : Nat} (h : t < 10 ^ 9) : ShowOk (.int (t : Int)) := by
  have hsz := sizeLine_eq
  unfold ShowOk
  refine ⟨?_, by show (0 : Nat) ≤ 64; omega, ?_⟩
  · show decide (((t : Int)).natAbs.log2 < 1920) = true
    rw [Int.natAbs_natCast, decide_eq_true_eq]
    rcases Nat.eq_zero_or_pos t with e | e
    · subst e; decide
    · rw [Nat.log2_lt (by omega)]
      exact Nat.lt_of_lt_of_le (show t < 2 ^ 30 by omega) (Nat.pow_le_pow_right (by decide) (by decide))
  · rw [PyData.shown_int]
    have := toString_length_le (v := (t : Int)) (by omega) (k := 9) (by decide) (by omega)
    exact Nat.le_trans this (by omega)
theorem name_nil {w : List Str} {a : Nat} (h : KM.Cor w a) (hn : w ≠ []) (hc : cl w) (hr : KM.Red w) (ha : KM.Apt w) : nameR (KM.mid w a) = [] ↔ w.length = 1 := by
  have hml := KM.mid_len w a
  unfold nameR KM.ringName
  rcases h.long hn hc hr ha with ⟨h1, h2⟩ | ⟨h1, h2⟩
  · rw [if_neg (by omega)]
    exact ⟨fun _ => h1, fun _ => rfl⟩
  · rw [if_pos (by omega)]
    have hne := turns_ne (r := KM.mid w a) (by omega)
    have hm := (KM.leastOf_least skey_ord hne).1
    refine ⟨fun e => ?_, fun e => by omega⟩
    rw [e] at hm
    unfold KM.turnsL at hm
    obtain ⟨i, hi, e2⟩ := List.mem_map.mp hm
    have := List.mem_range.mp hi
    have := congrArg List.length e2
    unfold KM.turn at this
    rw [List.length_append, List.length_dropLast, List.length_drop, List.length_take] at this
    simp at this
    omega
theorem Clo.apt {rooms : List Str} {doors : List (Str × Str)} {b : Str} {xs : List Str} (hyd : Yd rooms doors) (h : Clo doors b xs) : cl xs → KM.Apt (KM.shr xs) := fun _ => wk_apt (yd_apart hyd) h.wk.shr
theorem pw_clo {doors : List (Str × Str)} {b : Str} {w : List Str} (h : Clo doors b w) : ∀ m, Clo doors b (KM.pw w m)
  | 0 => by
    have e : KM.pw w 0 = [b] := by
      unfold KM.pw
      rw [KM.split_head h.hd]
      rfl
    rw [e]
    exact Clo.one _ _
  | m + 1 => by
    have h1 := pw_clo h m
    show Clo doors b (KM.shr (KM.cat (KM.pw w m) w))
    refine ⟨?_, ?_, (h1.wk.cat h.wk h1.lt h.hd).shr⟩
    · rw [KM.shr_head, KM.cat_head h1.ne]; exact h1.hd
    · rw [KM.shr_last, KM.cat_last h1.lt h.hd]; exact h.lt
theorem pw_le {w : List Str} (hw : w ≠ []) : ∀ m, (KM.pw w m).length ≤ 1 + m * w.length
  | 0 => by unfold KM.pw; rw [List.length_take]; omega
  | m + 1 => by
    have h1 := pw_le hw m
    have h2 := KM.shr_le (KM.cat (KM.pw w m) w)
    have h3 := KM.cat_len (u := KM.pw w m) hw
    show (KM.shr (KM.cat (KM.pw w m) w)).length ≤ _
    rw [Nat.succ_mul]
    omega
theorem Wk.take {doors : List (Str × Str)} {xs : List Str} (h : Wk doors xs) (n : Nat) : Wk doors (xs.take n) := by
  have := List.take_append_drop n xs
  rw [← this] at h
  exact h.pre
/-- the root stays in the house -/
theorem root_clo {doors : List (Str × Str)} {b : Str} {xs r : List Str} {t : Nat} (hc : Clo doors b xs) (g : KM.Root xs r t) : Clo doors b r := by
  refine ⟨by rw [g.head]; exact hc.hd, by rw [g.last]; exact hc.hd, ?_⟩
  obtain ⟨a, ha⟩ := g.ex_cor
  obtain ⟨c, n, p, k, h1, h2, h3, h4, h5, h6, h7⟩ := g.core ha
  have hpn : p ≤ n := Nat.le_of_dvd h1.pos (h2.dvd h1.per)
  have hw := hc.wk.shr
  have e3 : KM.seg c k p = (KM.mid (KM.shr xs) a).take (p + 1) := by
    rw [h5]
    refine List.ext_getElem? fun i => ?_
    by_cases hi : i ≤ p
    · rw [KM.seg_get hi, List.getElem?_take_of_lt (by omega), KM.seg_get (by omega)]
    · rw [List.getElem?_eq_none (by rw [KM.seg_len]; omega), List.getElem?_eq_none (by rw [List.length_take, KM.seg_len]; omega)]
  have w1 : Wk doors (KM.stem (KM.shr xs) a) := hw.take _
  have w2 : Wk doors (KM.seg c k p) := by
    rw [e3]
    exact ((hw.drop a).take _).take _
  have hl : (KM.seg c k p).getLast? = some (c k) := by rw [KM.seg_last, h2.per]
  rw [h6]
  exact ((w1.cat w2 h3 KM.seg_head).cat w1.rev (by rw [KM.cat_last h3 KM.seg_head]; exact hl) (KM.rev_head h3)).shr
theorem pw_root_le {xs r : List Str} {t : Nat} (g : KM.Root xs r t) {i : Nat} (hi : i ≤ t) : (KM.pw r i).length ≤ (KM.shr xs).length := by
  obtain ⟨a, ha⟩ := g.ex_cor
  obtain ⟨c, n, p, k, h1, h2, h3, h4, h5, h6, h7⟩ := g.core ha
  have hml := KM.mid_len (KM.shr xs) a
  rw [h5, KM.seg_len] at hml
  have hn : r ≠ [] := by
    intro e
    have h8 := g.head
    rw [e, ← h4] at h8
    have := KM.last_ne h3
    cases hs : KM.stem (KM.shr xs) a with
    | nil => exact this hs
    | cons x y => rw [hs] at h8; cases h8
  have e := KM.pw_lead (w := r) h3 h2.per (by rw [h6, KM.shr_shr]) i
  rw [KM.pw_shr r i hn] at e
  have hsl : (KM.stem (KM.shr xs) a).length ≤ a + 1 := by unfold KM.stem; rw [List.length_take]; omega
  have e2 := KM.lead_len (c := c) (k := k) (n := i * p) (KM.last_ne h3)
  have e3 := KM.shr_le (KM.lead (KM.stem (KM.shr xs) a) (KM.seg c k (i * p)))
  have e4 : i * p ≤ t * p := Nat.mul_le_mul_right _ hi
  rw [h7, KM.Root.mul h1 h2] at e4
  rw [e]
  omega
end G

namespace K09
open PySem PySem.Spec L2 PyProof.Rows DL G
def N_law_times : List Str := ["_law_road", "_law_found", "_law_steps", "_law_some", "_law_k"]
@[irreducible] def b_law_times_1 : List Sx := [
  .asg 2 (.pr (.bin .Sub false) [.pr (.bi .len false) [.v 1], .int 1]),
  .asg 3 (.lc (.n 4) [4] .rng [.int 1, .pr (.bin .Add false) [.v 2, .int 1]] [.and (.pr (.cmp .Eq) [.pr (.bin .Mod false) [.v 2, .v 4], .int 0]) (.pr (.cmp .Eq) [.pr (.bin .Mult false) [.pr (.slc false true false) [.v 1, .v 4], .pr (.bin .FloorDiv false) [.v 2, .v 4]], .pr (.slc false true false) [.v 1, .pr .neg [.int 1]]])] (.v 4) false),
  .ret (.ife (.pr (.cmp .NotEq) [.v 3, .pr (.lst false) []]) (.pr (.bin .FloorDiv false) [.v 2, .pr .idx [.v 3, .int 0]]) (.int 0))]
def b_law_times : List Sx := (
  .asg 1 (.pr (.call "_law_shrunk" []) [.v 0]) ::
  .whl (.and (.pr (.cmp .Gt) [.pr (.bi .len false) [.v 1], .int 1]) (.pr (.cmp .Eq) [.pr .idx [.v 1, .int 1], .pr .idx [.v 1, .pr .neg [.int 2]]])) [
    .asg 1 (.sl2 false (.v 1) (.int 1) (.pr .neg [.int 1]))] :: b_law_times_1)

def N_law_power : List Str := ["_law_road", "_law_many", "_law_found", "_law_k"]
@[irreducible] def b_law_power_1 : List Sx := [
  .ret (.v 2)]
def b_law_power : List Sx := (
  .asg 2 (.pr (.slc false true false) [.v 0, .int 1]) ::
  .fors (.n 3) .rng [.v 1] [
    .asg 2 (.pr (.call "_law_after" []) [.v 2, .v 0])] :: b_law_power_1)

def N_law_told : List Str := ["_law_road", "_law_found", "e"]
@[irreducible] def b_law_told_1 : List Sx := [
  .ret (.v 1)]
def b_law_told : List Sx := (
  .asg 1 (.non) ::
  .tri [
    .asg 1 (.pr (.call "root" []) [.v 0])] [.hnd "Nothing" (some 2) [.asg 1 (.ife (.and (.pr (.exi ["ValueError"]) [.v 2]) (.not (.pr (.exi ["Apart", "NotClosed"]) [.v 2]))) (.str "nothing") (.str "odd"))], .hnd "NotClosed" (some 2) [.asg 1 (.ife (.and (.pr (.exi ["ValueError"]) [.v 2]) (.not (.pr (.exi ["Apart", "Nothing"]) [.v 2]))) (.str "open") (.str "odd"))]] :: b_law_told_1)

def N_law : List Str := ["_law_script", "_law_pen_here", "_law_turn", "_law_yard_here", "_law_road", "_law_other", "_law_many", "_law_told_here"]
@[irreducible] def b_law_1 : List Sx := [
  .ret (.bl true)]
@[irreducible] def b_law_2 : List Sx := [
  .asg 5 (.pr (.call "_law_strolled" []) [.v 1, .v 3, .pr .idx [.v 4, .int 0], .pr (.bin .Add false) [.int 1, .pr (.bin .Mult false) [.int 2, .pr (.call "_law_draw" []) [.v 1, .int 4]]]]),
  .ite (.and (.pr (.cmp .NotEq) [.pr .idx [.v 5, .int 0], .pr .idx [.v 5, .pr .neg [.int 1]]]) (.pr (.cmp .NotEq) [.pr (.call "_law_told" []) [.v 5], .str "open"])) [
    .ret (.bl false)] []]
@[irreducible] def b_law_3 : List Sx := [
  .ite (.or (.pr (.cmp .NotEq) [.pr (.call "_law_power" []) [.pr .idx [.v 7, .int 0], .v 6], .pr (.call "_law_shrunk" []) [.v 4]]) (.pr (.cmp .NotEq) [.pr (.call "_law_told" []) [.pr .idx [.v 7, .int 0]], .pr (.tup false) [.pr .idx [.v 7, .int 0], .int 1]])) [
    .ret (.bl false)] []]
@[irreducible] def b_law_4 : List Sx := (
  .ite (.pr (.cmp .Gt) [.v 6, .int 0]) (
    .ite (.or (.not (.pr (.isi "tuple") [.v 7])) (.or (.pr (.cmp .NotEq) [.pr (.bi .len false) [.v 7], .int 2]) (.pr (.cmp .NotEq) [.pr (.bi .repr false) [.pr .idx [.v 7, .int 1]], .pr (.bi .repr false) [.v 6]]))) [
      .ret (.bl false)] [] :: b_law_3) [] :: b_law_2)
def b_law : List Sx := (
  .asg 1 (.pr (.call "_law_pen" []) [.v 0]) ::
  .fors (.n 2) .rng [.int 8] (
    .asg 3 (.pr (.call "_law_yard" []) [.v 1, .pr .idx [.pr (.lst false) [.int 8, .int 16, .int 6], .pr (.bin .Mod false) [.v 2, .int 3]]]) ::
    .asg 4 (.pr (.call "_law_power" []) [.pr (.call "_law_closed" []) [.v 1, .v 3, .pr (.call "_law_pick" []) [.v 1, .pr .idx [.v 3, .str "rooms"]]], .pr (.bin .Add false) [.int 1, .pr (.call "_law_draw" []) [.v 1, .int 2]]]) ::
    .par [6, 7] [.pr (.call "_law_times" []) [.v 4], .pr (.call "_law_told" []) [.v 4]] ::
    .ite (.and (.pr (.cmp .Eq) [.v 6, .int 0]) (.pr (.cmp .NotEq) [.v 7, .str "nothing"])) [
      .ret (.bl false)] [] :: b_law_4) :: b_law_1)

def TimesR (xs : List Str) (x : D) : Prop := ((KM.shr xs).length = 1 ∧ x = .int 0) ∨ ((KM.shr xs).length ≠ 1 ∧ ∃ part t, KM.Root xs part t ∧ x = .int (t : Int))
def spLTimes : DL.Spec := pSp (fun xs : List Str => [tS xs]) (fun xs => xs ≠ [] ∧ cl xs ∧ xs.length < 8000000 ∧ KM.Apt (KM.shr xs)) TimesR noE
theorem y_ltimes {sg : Sg} (hs : sg.fn "_law_times" 1 = some spLTimes) {M : MM} {Q : W → MM → Prop} {R : XR} (xs : List Str) (hx : xs ≠ []) (hc : cl xs) (hl : xs.length < 8000000) (ha : KM.Apt (KM.shr xs)) (h1 : (KM.shr xs).length = 1 → Q (.d (.int 0)) M) (h2 : (KM.shr xs).length ≠ 1 → ∀ part t, KM.Root xs part t → Q (.d (.int (t : Int))) M) : lendO (sg.fn "_law_times" 1) [] [.d (tS xs)] M Q R := by
  rw [hs]
  refine use_q xs ⟨hx, hc, hl, ha⟩ (fun r h => ?_) fun _ _ h => h.elim
  rcases h with ⟨g1, rfl⟩ | ⟨g1, part, t, g2, rfl⟩
  · exact h1 g1
  · exact h2 g1 part t g2
theorem s_ltimes (sg : Sg) (hsh : sg.fn "_law_shrunk" 1 = some spLShr) (ws M Q R) (h : spLTimes ws M Q R) : ws.length = 1 ∧ wSs sg b_law_times (G0 N_law_times.length ws) M (bodyE true M.length Q R) := by
  obtain ⟨xs, rfl, rfl, ⟨hx, hc, hl, hap⟩, hq, _⟩ := h
  refine ⟨rfl, ?_⟩
  have hsz := sizeLine_eq
  generalize hE : bodyE true _ Q R = E
  repeat ((conv => whnf); first | (refine And.intro (by first | omega | exact ok_fn (by assumption) | exact ok_xc (by assumption) | (constructor <;> omega) | (simp only [List.length_map, List.length_range, List.length_append, List.length_cons, List.length_nil] <;> omega) | exact ⟨rfl, by decide, by decide +kernel⟩ | rfl) ?_) | (refine optK_xc (by assumption) ?_) | (refine optK_sub (by assumption) ?_))
  conv => whnf
  refine y_lshr hsh xs (by omega) ?_
  have hle := KM.shr_le xs
  have hwn : KM.shr xs ≠ [] := KM.shr_ne hx
  generalize hw : KM.shr xs = w at hle hwn ⊢
  repeat ((conv => whnf); first | (refine And.intro (by first | omega | exact ok_fn (by assumption) | exact ok_xc (by assumption) | (constructor <;> omega) | (simp only [List.length_map, List.length_range, List.length_append, List.length_cons, List.length_nil] <;> omega) | exact ⟨rfl, by decide, by decide +kernel⟩ | rfl) ?_) | (refine optK_xc (by assumption) ?_) | (refine optK_sub (by assumption) ?_))
  conv => whnf
  have hlen : 0 < w.length := List.length_pos_iff.mpr hwn
  refine goWhl_ex (fun k Γ M => ∃ a : Nat, Γ = [some (.d (tS xs)), some (.d (tS (KM.mid w a))), none, none, none] ∧ M = [] ∧ k + a = w.length + 1 ∧ 2 * a ≤ w.length ∧ ∀ j, j < a → 2 * j + 1 < w.length ∧ w[j + 1]? = w[w.length - 2 - j]?) (w.length + 1) _ _ ⟨0, by rw [KM.mid_zero]; rfl, rfl, rfl, by omega, fun j h => by omega⟩ ?_
  rintro k Γ M E' ⟨a, rfl, rfl, hk, ha, hlow⟩ hnx _ _ _ _
  have hml := KM.mid_len w a
  have hwl : (((KM.mid w a).map D.str).length : Int) = w.length - 2 * a := by rw [List.length_map, hml]; omega
  have out : ¬ (2 * a + 1 < w.length ∧ w[a + 1]? = w[w.length - 2 - a]?) → wSs sg b_law_times_1 [some (.d (tS xs)), some (.d (tS (KM.mid w a))), none, none, none] [] E := by
    intro hst
    have hcor : KM.Cor w a := ⟨hlow, hst⟩
    unfold b_law_times_1
    repeat ((conv => whnf); first | (refine And.intro (by first | omega | exact ok_fn (by assumption) | exact ok_xc (by assumption) | (constructor <;> omega) | (simp only [List.length_map, List.length_range, List.length_append, List.length_cons, List.length_nil] <;> omega) | exact ⟨rfl, by decide, by decide +kernel⟩ | rfl) ?_) | (refine optK_xc (by assumption) ?_) | (refine optK_sub (by assumption) ?_))
    conv => whnf
    by_cases h1 : w.length = 1
    · have ha0 : a = 0 := by omega
      subst ha0
      rw [hwl, h1]
      change goLc _ [] _ _ _
      rw [goLc_nil]
      conv => whnf
      refine eq_ints_nil (ns := []) ?_
      subst hE
      conv => whnf
      exact hq _ (.inl ⟨by rw [hw]; exact h1, rfl⟩)
    · rw [← hw] at h1 hcor
      obtain ⟨c, n, p, g1, g2, g3, g4, g5⟩ := KM.Root.ex hx hc hap h1 hcor
      rw [hw] at g3 g5 h1
      have hpn : p ≤ n := Nat.le_of_dvd g1.pos (g2.dvd g1.per)
      have hpp := g2.pos
      have hnl : n + 1 = w.length - 2 * a := by rw [← hml, g3, KM.seg_len]
      rw [g3]
      have hsl : ((List.map D.str (KM.seg c 0 n)).length : Int) - 1 = n := by rw [List.length_map, KM.seg_len]; omega
      have hlast : cutG (List.map D.str (KM.seg c 0 n)) none (some (-1)) = (KM.seg c 0 n).dropLast.map .str := by
        obtain ⟨s, hs⟩ := KM.split_last (KM.seg_last (c := c) (k := 0) (n := n))
        rw [hs, List.map_append, List.map_cons, List.map_nil, cutG_init, List.dropLast_concat]
      rw [hsl]
      have e0 : ((n : Int) + 1 - 1).toNat = n := by omega
      rw [e0]
      refine goLc_fm0 (fun (i : Nat) => .int (1 + (i : Int))) D.int (fun i => @ite _ (n % (i + 1) = 0 ∧ KM.Per c ((i + 1 : Nat) : Int)) (Classical.propDecidable _) (some (1 + (i : Int))) none) (List.range n) (fun i hi K hK => ?_) ?_
      · have hi := List.mem_range.mp hi
        have e1 : (1 + (i : Int)) = ((i + 1 : Nat) : Int) := by omega
        rw [e1] at hK ⊢
        repeat ((conv => whnf); first | (refine And.intro (by first | omega | exact ok_fn (by assumption) | exact ok_xc (by assumption) | (constructor <;> omega) | (simp only [List.length_map, List.length_range, List.length_append, List.length_cons, List.length_nil] <;> omega) | exact ⟨rfl, by decide, by decide +kernel⟩ | rfl) ?_) | (refine optK_xc (by assumption) ?_) | (refine optK_sub (by assumption) ?_))
        conv => whnf
        rw [mod0 (by omega)]
        refine ifB_d (fun d => ?_) (fun d => ?_)
        · repeat ((conv => whnf); first | (refine And.intro (by first | omega | exact ok_fn (by assumption) | exact ok_xc (by assumption) | (constructor <;> omega) | (simp only [List.length_map, List.length_range, List.length_append, List.length_cons, List.length_nil] <;> omega) | exact ⟨rfl, by decide, by decide +kernel⟩ | rfl) ?_) | (refine optK_xc (by assumption) ?_) | (refine optK_sub (by assumption) ?_))
          conv => whnf
          rw [cutG_to _ (by omega), Int.toNat_natCast, fdiv_nat, ← List.map_take]
          have hle : i + 1 ≤ n := by omega
          have hq1 := Nat.div_pos hle (Nat.succ_pos i)
          have hqm := Nat.div_mul_cancel (Nat.dvd_of_mod_eq_zero d)
          have htl : ((KM.seg c 0 n).take (i + 1)).length = i + 1 := by rw [List.length_take, KM.seg_len]; omega
          have hcap := Nat.div_le_self n (i + 1)
          refine ⟨.inr ⟨by omega, by omega, ?_⟩, ?_⟩
          · rw [List.length_map, htl, Int.toNat_natCast, Nat.mul_comm, hqm, hsz]
            omega
          rw [Int.toNat_natCast, rep_strs]
          conv => whnf
          rw [hlast]
          refine eq_tups ?_
          have hpi := KM.part_iff (k := 0) g1.per (p := i + 1) (by omega) d g1.pos
          refine ifB_d (fun e => ?_) (fun e => ?_)
          · rw [if_pos ⟨d, hpi.mp e.symm⟩] at hK
            conv => whnf
            exact hK
          · rw [if_neg fun z => e (hpi.mpr z.2).symm] at hK
            conv => whnf
            exact hK
        · rw [if_neg fun z => d z.1] at hK
          conv => whnf
          exact hK
      · have hd := g2.dvd g1.per
        obtain ⟨tl, htl⟩ := fm_first (g := fun i => @ite _ (n % (i + 1) = 0 ∧ KM.Per c ((i + 1 : Nat) : Int)) (Classical.propDecidable _) (some (1 + (i : Int))) none) (n := n) (j := p - 1) (b := (p : Int)) (by omega) (by
          rw [show p - 1 + 1 = p by omega, if_pos ⟨Nat.mod_eq_zero_of_dvd hd, g2.per⟩]
          congr 1
          omega) fun i hi => by
            rw [if_neg]
            rintro ⟨_, z⟩
            have := g2.least (i + 1) (by omega) z
            omega
        rw [htl]
        conv => whnf
        refine eq_ints_nil (ns := (p : Int) :: tl) ?_
        conv => whnf
        refine optK_some (atI_n (j := 0) (x := .int (p : Int)) rfl (.inl rfl)) ?_
        repeat ((conv => whnf); first | (refine And.intro (by first | omega | exact ok_fn (by assumption) | exact ok_xc (by assumption) | (constructor <;> omega) | (simp only [List.length_map, List.length_range, List.length_append, List.length_cons, List.length_nil] <;> omega) | exact ⟨rfl, by decide, by decide +kernel⟩ | rfl) ?_) | (refine optK_xc (by assumption) ?_) | (refine optK_sub (by assumption) ?_))
        conv => whnf
        rw [fdiv_nat]
        subst hE
        conv => whnf
        exact hq _ (.inr ⟨by rw [hw]; exact h1, _, _, g5, rfl⟩)
  conv => whnf
  refine ifB_d (fun c2 => ?_) (fun c2 => ?_)
  · have h2 : 2 * a + 1 < w.length := by omega
    obtain ⟨x, hx1⟩ := KM.some_at (w := w) (i := a + 1) (by omega)
    obtain ⟨y, hy1⟩ := KM.some_at (w := w) (i := w.length - 2 - a) (by omega)
    have m1 : (KM.mid w a)[1]? = some x := by rw [KM.mid_get (by omega), hx1]
    have m2 : (KM.mid w a)[(KM.mid w a).length - 2]? = some y := by
      rw [KM.mid_get (by omega), ← hy1]
      congr 1
      omega
    conv => whnf
    refine optK_some (atI_n (j := 1) (x := .str x) (by rw [List.getElem?_map, m1]; rfl) (.inl (by omega))) ?_
    conv => whnf
    refine optK_some (atI_n (j := (KM.mid w a).length - 2) (x := .str y) (by rw [List.getElem?_map, m2]; rfl) (.inr (by rw [List.length_map]; omega))) ?_
    conv => whnf
    refine ifB_d (fun e => ?_) (fun e => ?_)
    · conv => whnf
      have e4 : cutG ((KM.mid w a).map D.str) (some 1) (some (-1)) = (KM.mid w (a + 1)).map .str := by
        rw [← KM.mid_step h2]
        exact cutG_last (i := 1) (by omega)
      rw [e4]
      refine hnx (k - 1) _ _ (by omega) ⟨a + 1, rfl, rfl, by omega, by omega, fun j hj => ?_⟩
      by_cases hja : j = a
      · subst hja; exact ⟨h2, by rw [hx1, hy1, e]⟩
      · exact hlow j (by omega)
    · exact out fun z => e (by have := z.2; rw [hx1, hy1] at this; exact Option.some.inj this)
  · exact out fun z => c2 (by omega)
def spPower : DL.Spec := pSp (fun i : List Str × Nat => [tS i.1, .int (i.2 : Int)]) (fun i => i.1 ≠ [] ∧ i.2 < 2 ^ 60 ∧ ∀ j, j < i.2 → (KM.pw i.1 j).length + i.1.length < 16777216) (fun i r => r = tS (KM.pw i.1 i.2)) noE
theorem y_power {sg : Sg} (hs : sg.fn "_law_power" 2 = some spPower) {M : MM} {Q : W → MM → Prop} {R : XR} (w : List Str) (m : Nat) (hx : w ≠ []) (hm : m < 2 ^ 60) (hl : ∀ j, j < m → (KM.pw w j).length + w.length < 16777216) (hq : Q (.d (tS (KM.pw w m))) M) : lendO (sg.fn "_law_power" 2) [] [.d (tS w), .d (.int (m : Int))] M Q R := by
  rw [hs]
  exact use_q (w, m) ⟨hx, hm, hl⟩ (fun r hr => by rw [hr]; exact hq) fun _ _ h => h.elim
theorem s_power (sg : Sg) (haf : sg.fn "_law_after" 2 = some spAfter) (ws M Q R) (h : spPower ws M Q R) : ws.length = 2 ∧ wSs sg b_law_power (G0 N_law_power.length ws) M (bodyE true M.length Q R) := by
  obtain ⟨⟨w, m⟩, rfl, rfl, ⟨hx, hm, hl⟩, hq, _⟩ := h
  refine ⟨rfl, ?_⟩
  have hsz := sizeLine_eq
  generalize hE : bodyE true _ Q R = E
  repeat ((conv => whnf); first | (refine And.intro (by first | omega | exact ok_fn (by assumption) | exact ok_xc (by assumption) | (constructor <;> omega) | (simp only [List.length_map, List.length_range, List.length_append, List.length_cons, List.length_nil] <;> omega) | exact ⟨rfl, by decide, by decide +kernel⟩ | rfl) ?_) | (refine optK_xc (by assumption) ?_) | (refine optK_sub (by assumption) ?_))
  conv => whnf
  rw [cutG_to _ (by omega), ← List.map_take]
  show goFor _ (List.map rg (List.range ((m : Int)).toNat)) _ _ _
  rw [Int.toNat_natCast]
  refine goFor_as rg (fun rest Γ M => ∃ (j : Nat) (z : Option W), Γ = [some (.d (tS w)), some (.d (.int (m : Int))), some (.d (tS (KM.pw w j))), z] ∧ M = [] ∧ j + rest.length = m) ?_ ?_ (List.range m) _ _ ⟨0, none, rfl, rfl, by simp⟩
  · rintro Γ M ⟨j, z, rfl, rfl, hj⟩
    rw [List.length_nil, Nat.add_zero] at hj
    subst hj
    unfold b_law_power_1
    subst hE
    conv => whnf
    exact hq _ rfl
  · rintro i rest Γ M E' ⟨j, z, rfl, rfl, hj⟩ hnx _ _ _ _
    rw [List.length_cons] at hj
    repeat ((conv => whnf); first | (refine And.intro (by first | omega | exact ok_fn (by assumption) | exact ok_xc (by assumption) | (constructor <;> omega) | (simp only [List.length_map, List.length_range, List.length_append, List.length_cons, List.length_nil] <;> omega) | exact ⟨rfl, by decide, by decide +kernel⟩ | rfl) ?_) | (refine optK_xc (by assumption) ?_) | (refine optK_sub (by assumption) ?_))
    conv => whnf
    refine y_after haf _ _ (hl j (by omega)) ?_
    conv => whnf
    exact hnx _ _ ⟨j + 1, _, rfl, rfl, by omega⟩
def ToldR (xs : List Str) (x : D) : Prop := (¬ cl xs ∧ x = .str "open") ∨ (cl xs ∧ (KM.shr xs).length = 1 ∧ x = .str "nothing") ∨ (cl xs ∧ ∃ r t, KM.Root xs r t ∧ r.length ≤ xs.length ∧ x = rootD r t)
def spTold : DL.Spec := pSp (fun xs : List Str => [tS xs]) (fun xs => xs ≠ [] ∧ xs.length < 8000000 ∧ (cl xs → KM.Apt (KM.shr xs))) ToldR noE
theorem y_told {sg : Sg} (hs : sg.fn "_law_told" 1 = some spTold) {M : MM} {Q : W → MM → Prop} {R : XR} (xs : List Str) (hx : xs ≠ []) (hl : xs.length < 8000000) (ha : cl xs → KM.Apt (KM.shr xs)) (h1 : ¬ cl xs → Q (.d (.str "open")) M) (h2 : cl xs → (KM.shr xs).length = 1 → Q (.d (.str "nothing")) M) (h3 : cl xs → ∀ r t, KM.Root xs r t → r.length ≤ xs.length → Q (.d (rootD r t)) M) : lendO (sg.fn "_law_told" 1) [] [.d (tS xs)] M Q R := by
  rw [hs]
  refine use_q xs ⟨hx, hl, ha⟩ (fun r h => ?_) fun _ _ h => h.elim
  rcases h with ⟨g1, rfl⟩ | ⟨g1, g2, rfl⟩ | ⟨g1, r, t, g2, g3, rfl⟩
  · exact h1 g1
  · exact h2 g1 g2
  · exact h3 g1 r t g2 g3
section
variable (sg : Sg) (hro : sg.fn "root" 1 = some spRoot) (xN : sg.xc "NotClosed" = some []) (xO : sg.xc "Nothing" = some []) (h1 : sg.sub "NotClosed" "NotClosed" = some true) (h2 : sg.sub "NotClosed" "ValueError" = some true) (h3 : sg.sub "NotClosed" "Nothing" = some false) (h4 : sg.sub "NotClosed" "Apart" = some false)
  (o1 : sg.sub "Nothing" "Nothing" = some true) (o2 : sg.sub "Nothing" "ValueError" = some true) (o3 : sg.sub "Nothing" "NotClosed" = some false) (o4 : sg.sub "Nothing" "Apart" = some false)
include hro xN xO h1 h2 h3 h4 o1 o2 o3 o4
theorem s_told (ws M Q R) (h : spTold ws M Q R) : ws.length = 1 ∧ wSs sg b_law_told (G0 N_law_told.length ws) M (bodyE true M.length Q R) := by
  obtain ⟨xs, rfl, rfl, ⟨hx, hl, ha⟩, hq, _⟩ := h
  refine ⟨rfl, ?_⟩
  generalize hE : bodyE true _ Q R = E
  conv => whnf
  refine ⟨⟨ok_xc xO, ok_xc xN, trivial⟩, ?_⟩
  conv => whnf
  refine ⟨ok_fn hro, ?_⟩
  conv => whnf
  refine y_root hro xs hx hl ha (fun r t c g l => ?_) (fun c => ?_) (fun c e => ?_)
  · conv => whnf
    unfold b_law_told_1
    subst hE
    conv => whnf
    exact hq _ (.inr (.inr ⟨c, r, t, g, l, rfl⟩))
  · conv => whnf
    refine optK_sub h3 ?_
    conv => whnf
    refine optK_sub h1 ?_
    conv => whnf
    intro a d
    conv => whnf
    refine ⟨rfl, optK_some (sub1 h2) ?_⟩
    conv => whnf
    refine ⟨rfl, optK_some (sub2 h4 h3) ?_⟩
    conv => whnf
    unfold b_law_told_1
    subst hE
    conv => whnf
    exact hq _ (.inl ⟨c, rfl⟩)
  · conv => whnf
    refine optK_sub o1 ?_
    conv => whnf
    intro a d
    conv => whnf
    refine ⟨rfl, optK_some (sub1 o2) ?_⟩
    conv => whnf
    refine ⟨rfl, optK_some (sub2 o4 o3) ?_⟩
    conv => whnf
    unfold b_law_told_1
    subst hE
    conv => whnf
    exact hq _ (.inr (.inl ⟨c, e, rfl⟩))
end
theorem ne_str {r : List Str} {t : Nat} {s : Str} {k : Bool → Prop} (h : k false) : eqDG (rootD r t) (.str s) k := eqDG_of (toPy_root r t) rfl (dep_root r t) (by show (0 : Nat) ≤ 64; omega) rfl h
section
variable (sg : Sg) (hpen : sg.fn "_law_pen" 1 = some spPen) (hd : sg.fn "_law_draw" 2 = some spDraw) (hk : sg.fn "_law_pick" 2 = some spPick) (hy : sg.fn "_law_yard" 2 = some spYard) (hst : sg.fn "_law_strolled" 4 = some spStroll) (hcl : sg.fn "_law_closed" 3 = some spClosed) (hls : sg.fn "_law_shrunk" 1 = some spLShr) (hlt : sg.fn "_law_times" 1 = some spLTimes) (hpo : sg.fn "_law_power" 2 = some spPower) (hto : sg.fn "_law_told" 1 = some spTold)
include hpen hd hk hy hst hcl hls hlt hpo hto
theorem t_law_2 (E : DE) (p : Pen) (N : Int) (s0 d6 d7 : D) (rooms : List Str) (doors : List (Str × Str)) (b : Str) (road : List Str) (z2 z5 : Option W) (h0 : PB N p) (hN : N + 3000 < 2 ^ 61) (hd1 : doors.length ≤ 1000) (hyd : Yd rooms doors) (hc : Clo doors b road)
    (hE : ∀ p' z5, PB (N + 1010) p' → E.nx [some (.d s0), some (.ref 0), z2, some (.d (yardD rooms doors)), some (.d (tS road)), z5, some (.d d6), some (.d d7)] [some (penMO p')]) :
    wSs sg b_law_2 [some (.d s0), some (.ref 0), z2, some (.d (yardD rooms doors)), some (.d (tS road)), z5, some (.d d6), some (.d d7)] [some (penMO p)] E := by
  have hsz := sizeLine_eq
  unfold b_law_2
  repeat ((conv => whnf); first | (refine And.intro (by first | omega | exact ok_fn (by assumption) | exact ok_xc (by assumption) | (constructor <;> omega) | (simp only [List.length_map, List.length_range, List.length_append, List.length_cons, List.length_nil] <;> omega) | exact ⟨rfl, by decide, by decide +kernel⟩ | rfl) ?_) | (refine optK_xc (by assumption) ?_) | (refine optK_sub (by assumption) ?_))
  conv => whnf
  refine optK_some (hd_at hc.hd) ?_
  repeat ((conv => whnf); first | (refine And.intro (by first | omega | exact ok_fn (by assumption) | exact ok_xc (by assumption) | (constructor <;> omega) | (simp only [List.length_map, List.length_range, List.length_append, List.length_cons, List.length_nil] <;> omega) | exact ⟨rfl, by decide, by decide +kernel⟩ | rfl) ?_) | (refine optK_xc (by assumption) ?_) | (refine optK_sub (by assumption) ?_))
  conv => whnf
  refine y_draw hd 0 p N 4 rfl h0 (by omega) (by omega) (by omega) fun p1 n h1 hn1 hn2 => ?_
  conv => whnf
  refine ⟨cmul_l (by omega) (by omega), ?_⟩
  conv => whnf
  refine y_stroll hst 0 p1 _ rooms doors b _ rfl h1 (by omega) hd1 (by omega) (by omega) fun p2 out h2 hx1 hx2 hx3 => ?_
  have hbn : out ≠ [] := by intro e; rw [e] at hx1; cases hx1
  obtain ⟨l, hbl⟩ := last_ex hbn
  conv => whnf
  refine optK_some (hd_at hx1) ?_
  conv => whnf
  refine optK_some (at_last hbl) ?_
  conv => whnf
  refine ifB_n (ifB_d (fun e => ?_) (fun e => ?_))
  · conv => whnf
    exact hE p2 _ (h2.le (by omega))
  · have nc : ¬ cl out := by
      unfold cl
      rw [hx1, hbl]
      exact fun z => e (Option.some.inj z)
    repeat ((conv => whnf); first | (refine And.intro (by first | omega | exact ok_fn (by assumption) | exact ok_xc (by assumption) | (constructor <;> omega) | (simp only [List.length_map, List.length_range, List.length_append, List.length_cons, List.length_nil] <;> omega) | exact ⟨rfl, by decide, by decide +kernel⟩ | rfl) ?_) | (refine optK_xc (by assumption) ?_) | (refine optK_sub (by assumption) ?_))
    conv => whnf
    refine y_told hto out hbn (by omega) (fun z => absurd z nc) (fun _ => ?_) (fun z => absurd z nc) (fun z => absurd z nc)
    conv => whnf
    exact hE p2 _ (h2.le (by omega))
theorem s_law (ws M Q R) (h : lawSp 63 ws M Q R) : ws.length = 1 ∧ wSs sg b_law (G0 N_law.length ws) M (bodyE true M.length Q R) := by
  obtain ⟨ns, rfl, rfl, hl, hq⟩ := h
  refine ⟨rfl, ?_⟩
  have hsz := sizeLine_eq
  generalize hE : bodyE true _ Q R = E
  repeat ((conv => whnf); first | (refine And.intro (by first | omega | exact ok_fn (by assumption) | exact ok_xc (by assumption) | (constructor <;> omega) | (simp only [List.length_map, List.length_range, List.length_append, List.length_cons, List.length_nil] <;> omega) | exact ⟨rfl, by decide, by decide +kernel⟩ | rfl) ?_) | (refine optK_xc (by assumption) ?_) | (refine optK_sub (by assumption) ?_))
  conv => whnf
  show lendO (sg.fn "_law_pen" 1) [] [.d (.scr ns)] _ _ _
  rw [hpen]
  refine use_pen ns ?_
  repeat ((conv => whnf); first | (refine And.intro (by first | omega | exact ok_fn (by assumption) | exact ok_xc (by assumption) | (constructor <;> omega) | (simp only [List.length_map, List.length_range, List.length_append, List.length_cons, List.length_nil] <;> omega) | exact ⟨rfl, by decide, by decide +kernel⟩ | rfl) ?_) | (refine optK_xc (by assumption) ?_) | (refine optK_sub (by assumption) ?_))
  conv => whnf
  refine goFor_as rg (fun rest Γ M => ∃ (p2 : Pen) (z2 z3 z4 z5 z6 z7 : Option W), Γ = [some (.d (.scr ns)), some (.ref 0), z2, z3, z4, z5, z6, z7] ∧ M = [some (penMO p2)] ∧ rest.length ≤ 8 ∧ PB (30000 * (8 - rest.length : Nat)) p2) ?_ ?_ (List.range 8) _ _ ⟨⟨ns.take 63, 0, 0⟩, none, none, none, none, none, none, rfl, rfl, by simp, ⟨⟨by simp; omega, by simp, by simp⟩, by simp⟩⟩
  · rintro Γ M ⟨p2, z2, z3, z4, z5, z6, z7, rfl, rfl, _⟩
    unfold b_law_1
    subst hE
    conv => whnf
    exact hq
  · rintro i rest Γ M E' ⟨p2, z2, z3, z4, z5, z6, z7, rfl, rfl, hlr, h2⟩ hnx _ _ _ _
    rw [List.length_cons] at hlr h2
    generalize hN : (30000 * ((8 - (rest.length + 1) : Nat) : Int)) = N at h2
    have hm := fmod_r (0 + (i : Int)) (n := 3) (by omega)
    obtain ⟨m, hm1, hat⟩ := atI_map (f := D.int) (xs := [8, 16, 6]) hm.1 hm.2
    have hm2 : 4 ≤ m ∧ m ≤ 26 := by
      have := List.mem_of_getElem? hm1
      simp only [List.mem_cons, List.not_mem_nil, or_false] at this
      omega
    repeat ((conv => whnf); first | (refine And.intro (by first | omega | exact ok_fn (by assumption) | exact ok_xc (by assumption) | (constructor <;> omega) | (simp only [List.length_map, List.length_range, List.length_append, List.length_cons, List.length_nil] <;> omega) | exact ⟨rfl, by decide, by decide +kernel⟩ | rfl) ?_) | (refine optK_xc (by assumption) ?_) | (refine optK_sub (by assumption) ?_))
    conv => whnf
    refine optK_some hat ?_
    repeat ((conv => whnf); first | (refine And.intro (by first | omega | exact ok_fn (by assumption) | exact ok_xc (by assumption) | (constructor <;> omega) | (simp only [List.length_map, List.length_range, List.length_append, List.length_cons, List.length_nil] <;> omega) | exact ⟨rfl, by decide, by decide +kernel⟩ | rfl) ?_) | (refine optK_xc (by assumption) ?_) | (refine optK_sub (by assumption) ?_))
    conv => whnf
    refine y_yardY hy 0 p2 N m rfl h2 (by omega) (by omega) (by omega) fun p3 rooms doors h3 hr1 hr2 hd1 hyd hnm' => ?_
    repeat ((conv => whnf); first | (refine And.intro (by first | omega | exact ok_fn (by assumption) | exact ok_xc (by assumption) | (constructor <;> omega) | (simp only [List.length_map, List.length_range, List.length_append, List.length_cons, List.length_nil] <;> omega) | exact ⟨rfl, by decide, by decide +kernel⟩ | rfl) ?_) | (refine optK_xc (by assumption) ?_) | (refine optK_sub (by assumption) ?_))
    conv => whnf
    refine y_pick hk 0 p3 _ (.lst (rooms.map .str)) _ rfl h3 (by omega) (.inl rfl) (by rw [List.length_map]; omega) (by rw [List.length_map]; omega) fun p4 r h4 hr => ?_
    obtain ⟨b, hb, rfl⟩ := List.mem_map.mp hr
    repeat ((conv => whnf); first | (refine And.intro (by first | omega | exact ok_fn (by assumption) | exact ok_xc (by assumption) | (constructor <;> omega) | (simp only [List.length_map, List.length_range, List.length_append, List.length_cons, List.length_nil] <;> omega) | exact ⟨rfl, by decide, by decide +kernel⟩ | rfl) ?_) | (refine optK_xc (by assumption) ?_) | (refine optK_sub (by assumption) ?_))
    conv => whnf
    refine y_closed hcl 0 p4 _ rooms doors b rfl h4 (by omega) (by omega) (by omega) hd1 fun p5 road0 h5 hc0 hl0 => ?_
    repeat ((conv => whnf); first | (refine And.intro (by first | omega | exact ok_fn (by assumption) | exact ok_xc (by assumption) | (constructor <;> omega) | (simp only [List.length_map, List.length_range, List.length_append, List.length_cons, List.length_nil] <;> omega) | exact ⟨rfl, by decide, by decide +kernel⟩ | rfl) ?_) | (refine optK_xc (by assumption) ?_) | (refine optK_sub (by assumption) ?_))
    conv => whnf
    refine y_draw hd 0 p5 _ 2 rfl h5 (by omega) (by omega) (by omega) fun p6 n h6 hn1 hn2 => ?_
    obtain ⟨j, rfl⟩ : ∃ j : Nat, n = j := ⟨n.toNat, by omega⟩
    have ej : (1 + (j : Int)) = ((j + 1 : Nat) : Int) := by omega
    conv => whnf
    rw [ej]
    refine y_power hpo road0 (j + 1) hc0.ne (by omega) (fun i hi => ?_) ?_
    · have := pw_le hc0.ne i
      have : i ≤ 1 := by omega
      have : i * road0.length ≤ 1 * road0.length := Nat.mul_le_mul_right _ this
      omega
    have hc1 := pw_clo hc0 (j + 1)
    have hl1 : (KM.pw road0 (j + 1)).length ≤ 20000 := by
      have := pw_le hc0.ne (j + 1)
      have : (j + 1) * road0.length ≤ 2 * road0.length := Nat.mul_le_mul_right _ (by omega)
      omega
    generalize KM.pw road0 (j + 1) = road at hc1 hl1 ⊢
    have hap := Clo.apt hyd hc1 (clo_cl hc1)
    have fin : ∀ d6 d7 : D, wSs sg b_law_2 [some (.d (.scr ns)), some (.ref 0), some (.d (.int (0 + (i : Int)))), some (.d (yardD rooms doors)), some (.d (tS road)), z5, some (.d d6), some (.d d7)] [some (penMO p6)] E' := fun d6 d7 =>
      t_law_2 sg hpen hd hk hy hst hcl hls hlt hpo hto E' p6 _ (.scr ns) d6 d7 rooms doors b road _ _ h6 (by omega) hd1 hyd hc1 fun p' z5 hp' => hnx _ _ ⟨p', _, _, _, _, _, _, rfl, rfl, by omega, hp'.le (by omega)⟩
    repeat ((conv => whnf); first | (refine And.intro (by first | omega | exact ok_fn (by assumption) | exact ok_xc (by assumption) | (constructor <;> omega) | (simp only [List.length_map, List.length_range, List.length_append, List.length_cons, List.length_nil] <;> omega) | exact ⟨rfl, by decide, by decide +kernel⟩ | rfl) ?_) | (refine optK_xc (by assumption) ?_) | (refine optK_sub (by assumption) ?_))
    conv => whnf
    refine y_ltimes hlt road hc1.ne (clo_cl hc1) (by omega) hap (fun h1 => ?_) (fun h1 part t g1 => ?_)
    · repeat ((conv => whnf); first | (refine And.intro (by first | omega | exact ok_fn (by assumption) | exact ok_xc (by assumption) | (constructor <;> omega) | (simp only [List.length_map, List.length_range, List.length_append, List.length_cons, List.length_nil] <;> omega) | exact ⟨rfl, by decide, by decide +kernel⟩ | rfl) ?_) | (refine optK_xc (by assumption) ?_) | (refine optK_sub (by assumption) ?_))
      conv => whnf
      refine y_told hto road hc1.ne (by omega) (fun _ => hap) (fun z => absurd (clo_cl hc1) z) (fun _ _ => ?_) (fun _ r t g _ => absurd h1 g.nz)
      conv => whnf
      unfold b_law_4
      conv => whnf
      exact fin _ _
    · repeat ((conv => whnf); first | (refine And.intro (by first | omega | exact ok_fn (by assumption) | exact ok_xc (by assumption) | (constructor <;> omega) | (simp only [List.length_map, List.length_range, List.length_append, List.length_cons, List.length_nil] <;> omega) | exact ⟨rfl, by decide, by decide +kernel⟩ | rfl) ?_) | (refine optK_xc (by assumption) ?_) | (refine optK_sub (by assumption) ?_))
      conv => whnf
      refine y_told hto road hc1.ne (by omega) (fun _ => hap) (fun z => absurd (clo_cl hc1) z) (fun _ z => absurd z h1) (fun _ r t' g lr => ?_)
      obtain ⟨f1, f2⟩ := g1.uniq g
      subst f1 f2
      have ht := g1.pos
      have htl : t < 1000000 := by
        obtain ⟨a, ha⟩ := g1.ex_cor
        obtain ⟨c, n, p, k, q1, q2, q3, q4, q5, q6, q7⟩ := g1.core ha
        have := KM.mid_len (KM.shr road) a
        rw [q5, KM.seg_len] at this
        have := KM.shr_le road
        have := Nat.div_le_self n p
        omega
      have hpn : part ≠ [] := by
        intro e
        have := g1.head
        rw [e, hc1.hd] at this
        cases this
      have hpcl : Clo doors b part := root_clo hc1 g1
      conv => whnf
      refine ifB_d (fun e => by omega) (fun _ => ?_)
      conv => whnf
      unfold b_law_4
      conv => whnf
      refine ifB_d (fun _ => ?_) (fun e => by omega)
      conv => whnf
      refine optK_some rfl ?_
      conv => whnf
      refine optK_some rfl ?_
      refine ⟨show_int (by omega), ?_⟩
      conv => whnf
      refine optK_some rfl ?_
      refine ⟨show_int (by omega), ?_⟩
      conv => whnf
      rw [decide_eq_true rfl]
      conv => whnf
      unfold b_law_3
      repeat ((conv => whnf); first | (refine And.intro (by first | omega | exact ok_fn (by assumption) | exact ok_xc (by assumption) | (constructor <;> omega) | (simp only [List.length_map, List.length_range, List.length_append, List.length_cons, List.length_nil] <;> omega) | exact ⟨rfl, by decide, by decide +kernel⟩ | rfl) ?_) | (refine optK_xc (by assumption) ?_) | (refine optK_sub (by assumption) ?_))
      conv => whnf
      refine optK_some rfl ?_
      conv => whnf
      refine y_power hpo part t hpn (by omega) (fun i hi => ?_) ?_
      · have := pw_root_le g1 (i := i) (by omega)
        have := KM.shr_le road
        omega
      repeat ((conv => whnf); first | (refine And.intro (by first | omega | exact ok_fn (by assumption) | exact ok_xc (by assumption) | (constructor <;> omega) | (simp only [List.length_map, List.length_range, List.length_append, List.length_cons, List.length_nil] <;> omega) | exact ⟨rfl, by decide, by decide +kernel⟩ | rfl) ?_) | (refine optK_xc (by assumption) ?_) | (refine optK_sub (by assumption) ?_))
      conv => whnf
      refine y_lshr hls road (by omega) ?_
      conv => whnf
      have hwh : KM.pw part t = KM.shr road := by
        obtain ⟨_, _, _, _, _, _, _, _, h9⟩ := g1.whole t
        rw [← KM.pw_shr part t hpn]
        exact h9 rfl
      refine eq_tups ?_
      rw [decide_eq_true hwh]
      repeat ((conv => whnf); first | (refine And.intro (by first | omega | exact ok_fn (by assumption) | exact ok_xc (by assumption) | (constructor <;> omega) | (simp only [List.length_map, List.length_range, List.length_append, List.length_cons, List.length_nil] <;> omega) | exact ⟨rfl, by decide, by decide +kernel⟩ | rfl) ?_) | (refine optK_xc (by assumption) ?_) | (refine optK_sub (by assumption) ?_))
      conv => whnf
      refine optK_some rfl ?_
      repeat ((conv => whnf); first | (refine And.intro (by first | omega | exact ok_fn (by assumption) | exact ok_xc (by assumption) | (constructor <;> omega) | (simp only [List.length_map, List.length_range, List.length_append, List.length_cons, List.length_nil] <;> omega) | exact ⟨rfl, by decide, by decide +kernel⟩ | rfl) ?_) | (refine optK_xc (by assumption) ?_) | (refine optK_sub (by assumption) ?_))
      conv => whnf
      refine y_told hto part hpn (by omega) (fun _ => wk_apt (yd_apart hyd) hpcl.wk.shr) (fun z => absurd (clo_cl hpcl) z) (fun _ z => absurd z g1.self.nz) (fun _ r2 t2 g2 _ => ?_)
      obtain ⟨f3, f4⟩ := g1.self.uniq g2
      subst f3 f4
      conv => whnf
      refine optK_some rfl ?_
      conv => whnf
      refine eq_root (t' := 1) ?_
      rw [decide_eq_true ⟨rfl, rfl⟩]
      conv => whnf
      exact fin _ _
end
end K09

namespace K09
open PySem PySem.Spec L2 PyProof.Rows DL G
def top (i : Nat) : Stmt := PySem.Challenge.pw_tautropes_k09_roots.main.body.getD i (.Pass ⟨0, 0, 0, 0⟩)
theorem k_shrunk : okSs N_shrunk (defScope (top 5)) b_shrunk (defBody (top 5)) = true := by decide +kernel
theorem sc_shrunk : FnScope N_shrunk ["walk"] (defScope (top 5)) := ⟨rfl, rfl, rfl, by decide +kernel, rfl, by decide +kernel, by decide +kernel⟩
def d_shrunk : He.DefD := ⟨("shrunk", none), "shrunk", "shrunk", defArgs (top 5), defBody (top 5), defScope (top 5), [], []⟩
theorem k_law_pen : okSs N_law_pen (defScope (top 15)) b_law_pen (defBody (top 15)) = true := by decide +kernel
theorem sc_law_pen : FnScope N_law_pen ["_law_script"] (defScope (top 15)) := ⟨rfl, rfl, rfl, by decide +kernel, rfl, by decide +kernel, by decide +kernel⟩
def d_law_pen : He.DefD := ⟨("_law_pen", none), "_law_pen", "_law_pen", defArgs (top 15), defBody (top 15), defScope (top 15), [], []⟩
theorem k_law_draw : okSs N_law_draw (defScope (top 16)) b_law_draw (defBody (top 16)) = true := by decide +kernel
theorem sc_law_draw : FnScope N_law_draw ["_law_pen_here", "_law_many"] (defScope (top 16)) := ⟨rfl, rfl, rfl, by decide +kernel, rfl, by decide +kernel, by decide +kernel⟩
def d_law_draw : He.DefD := ⟨("_law_draw", none), "_law_draw", "_law_draw", defArgs (top 16), defBody (top 16), defScope (top 16), [], []⟩
theorem k_law_near : okSs N_law_near (defScope (top 19)) b_law_near (defBody (top 19)) = true := by decide +kernel
theorem sc_law_near : FnScope N_law_near ["_law_yard_here", "_law_room"] (defScope (top 19)) := ⟨rfl, rfl, rfl, by decide +kernel, rfl, by decide +kernel, by decide +kernel⟩
def d_law_near : He.DefD := ⟨("_law_near", none), "_law_near", "_law_near", defArgs (top 19), defBody (top 19), defScope (top 19), [], []⟩
theorem k_law_shrunk : okSs N_law_shrunk (defScope (top 24)) b_law_shrunk (defBody (top 24)) = true := by decide +kernel
theorem sc_law_shrunk : FnScope N_law_shrunk ["_law_road"] (defScope (top 24)) := ⟨rfl, rfl, rfl, by decide +kernel, rfl, by decide +kernel, by decide +kernel⟩
def d_law_shrunk : He.DefD := ⟨("_law_shrunk", none), "_law_shrunk", "_law_shrunk", defArgs (top 24), defBody (top 24), defScope (top 24), [], []⟩
theorem k_turned : okSs N_turned (defScope (top 6)) b_turned (defBody (top 6)) = true := by decide +kernel
theorem sc_turned : FnScope N_turned ["walk"] (defScope (top 6)) := ⟨rfl, rfl, rfl, by decide +kernel, rfl, by decide +kernel, by decide +kernel⟩
def d_turned : He.DefD := ⟨("turned", none), "turned", "turned", defArgs (top 6), defBody (top 6), defScope (top 6), [], []⟩
theorem k_times_of : okSs N_times_of (defScope (top 11)) b_times_of (defBody (top 11)) = true := by decide +kernel
theorem sc_times_of : FnScope N_times_of ["ring"] (defScope (top 11)) := ⟨rfl, rfl, rfl, by decide +kernel, rfl, by decide +kernel, by decide +kernel⟩
def d_times_of : He.DefD := ⟨("times_of", none), "times_of", "times_of", defArgs (top 11), defBody (top 11), defScope (top 11), [], []⟩
theorem k_law_pick : okSs N_law_pick (defScope (top 17)) b_law_pick (defBody (top 17)) = true := by decide +kernel
theorem sc_law_pick : FnScope N_law_pick ["_law_pen_here", "_law_some"] (defScope (top 17)) := ⟨rfl, rfl, rfl, by decide +kernel, rfl, by decide +kernel, by decide +kernel⟩
def d_law_pick : He.DefD := ⟨("_law_pick", none), "_law_pick", "_law_pick", defArgs (top 17), defBody (top 17), defScope (top 17), [], []⟩
theorem k_law_may_door : okSs N_law_may_door (defScope (top 20)) b_law_may_door (defBody (top 20)) = true := by decide +kernel
theorem sc_law_may_door : FnScope N_law_may_door ["_law_yard_here", "_law_one", "_law_other"] (defScope (top 20)) := ⟨rfl, rfl, rfl, by decide +kernel, rfl, by decide +kernel, by decide +kernel⟩
def d_law_may_door : He.DefD := ⟨("_law_may_door", none), "_law_may_door", "_law_may_door", defArgs (top 20), defBody (top 20), defScope (top 20), [], []⟩
theorem k_law_drawn_pairs : okSs N_law_drawn_pairs (defScope (top 22)) b_law_drawn_pairs (defBody (top 22)) = true := by decide +kernel
theorem sc_law_drawn_pairs : FnScope N_law_drawn_pairs ["_law_pen_here", "_law_many", "_law_count"] (defScope (top 22)) := ⟨rfl, rfl, rfl, by decide +kernel, rfl, by decide +kernel, by decide +kernel⟩
def d_law_drawn_pairs : He.DefD := ⟨("_law_drawn_pairs", none), "_law_drawn_pairs", "_law_drawn_pairs", defArgs (top 22), defBody (top 22), defScope (top 22), [], []⟩
theorem k_law_reach : okSs N_law_reach (defScope (top 27)) b_law_reach (defBody (top 27)) = true := by decide +kernel
theorem sc_law_reach : FnScope N_law_reach ["_law_yard_here", "_law_begin"] (defScope (top 27)) := ⟨rfl, rfl, rfl, by decide +kernel, rfl, by decide +kernel, by decide +kernel⟩
def d_law_reach : He.DefD := ⟨("_law_reach", none), "_law_reach", "_law_reach", defArgs (top 27), defBody (top 27), defScope (top 27), [], []⟩
theorem k_law_after : okSs N_law_after (defScope (top 25)) b_law_after (defBody (top 25)) = true := by decide +kernel
theorem sc_law_after : FnScope N_law_after ["_law_one", "_law_other"] (defScope (top 25)) := ⟨rfl, rfl, rfl, by decide +kernel, rfl, by decide +kernel, by decide +kernel⟩
def d_law_after : He.DefD := ⟨("_law_after", none), "_law_after", "_law_after", defArgs (top 25), defBody (top 25), defScope (top 25), [], []⟩
theorem k_law_times : okSs N_law_times (defScope (top 30)) b_law_times (defBody (top 30)) = true := by decide +kernel
theorem sc_law_times : FnScope N_law_times ["_law_road"] (defScope (top 30)) := ⟨rfl, rfl, rfl, by decide +kernel, rfl, by decide +kernel, by decide +kernel⟩
def d_law_times : He.DefD := ⟨("_law_times", none), "_law_times", "_law_times", defArgs (top 30), defBody (top 30), defScope (top 30), [], []⟩
theorem k_law_names : okSs N_law_names (defScope (top 18)) b_law_names (defBody (top 18)) = true := by decide +kernel
theorem sc_law_names : FnScope N_law_names ["_law_pen_here", "_law_many"] (defScope (top 18)) := ⟨rfl, rfl, rfl, by decide +kernel, rfl, by decide +kernel, by decide +kernel⟩
def d_law_names : He.DefD := ⟨("_law_names", none), "_law_names", "_law_names", defArgs (top 18), defBody (top 18), defScope (top 18), [], []⟩
theorem k_law_with_doors : okSs N_law_with_doors (defScope (top 21)) b_law_with_doors (defBody (top 21)) = true := by decide +kernel
theorem sc_law_with_doors : FnScope N_law_with_doors ["_law_rooms", "_law_pairs"] (defScope (top 21)) := ⟨rfl, rfl, rfl, by decide +kernel, rfl, by decide +kernel, by decide +kernel⟩
def d_law_with_doors : He.DefD := ⟨("_law_with_doors", none), "_law_with_doors", "_law_with_doors", defArgs (top 21), defBody (top 21), defScope (top 21), [], []⟩
theorem k_law_strolled : okSs N_law_strolled (defScope (top 26)) b_law_strolled (defBody (top 26)) = true := by decide +kernel
theorem sc_law_strolled : FnScope N_law_strolled ["_law_pen_here", "_law_yard_here", "_law_begin", "_law_steps"] (defScope (top 26)) := ⟨rfl, rfl, rfl, by decide +kernel, rfl, by decide +kernel, by decide +kernel⟩
def d_law_strolled : He.DefD := ⟨("_law_strolled", none), "_law_strolled", "_law_strolled", defArgs (top 26), defBody (top 26), defScope (top 26), [], []⟩
theorem k_law_ringed : okSs N_law_ringed (defScope (top 28)) b_law_ringed (defBody (top 28)) = true := by decide +kernel
theorem sc_law_ringed : FnScope N_law_ringed ["_law_pen_here", "_law_yard_here"] (defScope (top 28)) := ⟨rfl, rfl, rfl, by decide +kernel, rfl, by decide +kernel, by decide +kernel⟩
def d_law_ringed : He.DefD := ⟨("_law_ringed", none), "_law_ringed", "_law_ringed", defArgs (top 28), defBody (top 28), defScope (top 28), [], []⟩
theorem k_need_closed : okSs N_need_closed (defScope (top 9)) b_need_closed (defBody (top 9)) = true := by decide +kernel
theorem sc_need_closed : FnScope N_need_closed ["walk"] (defScope (top 9)) := ⟨rfl, rfl, rfl, by decide +kernel, rfl, by decide +kernel, by decide +kernel⟩
def d_need_closed : He.DefD := ⟨("need_closed", none), "need_closed", "need_closed", defArgs (top 9), defBody (top 9), defScope (top 9), [], []⟩
theorem k_behind : okSs N_behind (defScope (top 7)) b_behind (defBody (top 7)) = true := by decide +kernel
theorem sc_behind : FnScope N_behind ["one", "other"] (defScope (top 7)) := ⟨rfl, rfl, rfl, by decide +kernel, rfl, by decide +kernel, by decide +kernel⟩
def d_behind : He.DefD := ⟨("behind", none), "behind", "behind", defArgs (top 7), defBody (top 7), defScope (top 7), [], []⟩
theorem k_need_something : okSs N_need_something (defScope (top 12)) b_need_something (defBody (top 12)) = true := by decide +kernel
theorem sc_need_something : FnScope N_need_something ["walk"] (defScope (top 12)) := ⟨rfl, rfl, rfl, by decide +kernel, rfl, by decide +kernel, by decide +kernel⟩
def d_need_something : He.DefD := ⟨("need_something", none), "need_something", "need_something", defArgs (top 12), defBody (top 12), defScope (top 12), [], []⟩
theorem k_law_power : okSs N_law_power (defScope (top 31)) b_law_power (defBody (top 31)) = true := by decide +kernel
theorem sc_law_power : FnScope N_law_power ["_law_road", "_law_many"] (defScope (top 31)) := ⟨rfl, rfl, rfl, by decide +kernel, rfl, by decide +kernel, by decide +kernel⟩
def d_law_power : He.DefD := ⟨("_law_power", none), "_law_power", "_law_power", defArgs (top 31), defBody (top 31), defScope (top 31), [], []⟩
theorem k_law_yard : okSs N_law_yard (defScope (top 23)) b_law_yard (defBody (top 23)) = true := by decide +kernel
theorem sc_law_yard : FnScope N_law_yard ["_law_pen_here", "_law_most"] (defScope (top 23)) := ⟨rfl, rfl, rfl, by decide +kernel, rfl, by decide +kernel, by decide +kernel⟩
def d_law_yard : He.DefD := ⟨("_law_yard", none), "_law_yard", "_law_yard", defArgs (top 23), defBody (top 23), defScope (top 23), [], []⟩
theorem k_law_closed : okSs N_law_closed (defScope (top 29)) b_law_closed (defBody (top 29)) = true := by decide +kernel
theorem sc_law_closed : FnScope N_law_closed ["_law_pen_here", "_law_yard_here", "_law_begin"] (defScope (top 29)) := ⟨rfl, rfl, rfl, by decide +kernel, rfl, by decide +kernel, by decide +kernel⟩
def d_law_closed : He.DefD := ⟨("_law_closed", none), "_law_closed", "_law_closed", defArgs (top 29), defBody (top 29), defScope (top 29), [], []⟩
theorem k_core : okSs N_core (defScope (top 10)) b_core (defBody (top 10)) = true := by decide +kernel
theorem sc_core : FnScope N_core ["walk"] (defScope (top 10)) := ⟨rfl, rfl, rfl, by decide +kernel, rfl, by decide +kernel, by decide +kernel⟩
def d_core : He.DefD := ⟨("core", none), "core", "core", defArgs (top 10), defBody (top 10), defScope (top 10), [], []⟩
theorem k_root : okSs N_root (defScope (top 13)) b_root (defBody (top 13)) = true := by decide +kernel
theorem sc_root : FnScope N_root ["walk"] (defScope (top 13)) := ⟨rfl, rfl, rfl, by decide +kernel, rfl, by decide +kernel, by decide +kernel⟩
def d_root : He.DefD := ⟨("root", none), "root", "root", defArgs (top 13), defBody (top 13), defScope (top 13), [], []⟩
theorem k_law_told : okSs N_law_told (defScope (top 32)) b_law_told (defBody (top 32)) = true := by decide +kernel
theorem sc_law_told : FnScope N_law_told ["_law_road"] (defScope (top 32)) := ⟨rfl, rfl, rfl, by decide +kernel, rfl, by decide +kernel, by decide +kernel⟩
def d_law_told : He.DefD := ⟨("_law_told", none), "_law_told", "_law_told", defArgs (top 32), defBody (top 32), defScope (top 32), [], []⟩
theorem k_law : okSs N_law (defScope (top 33)) b_law (defBody (top 33)) = true := by decide +kernel
theorem sc_law : FnScope N_law ["_law_script"] (defScope (top 33)) := ⟨rfl, rfl, rfl, by decide +kernel, rfl, by decide +kernel, by decide +kernel⟩
def d_law : He.DefD := ⟨("law", none), "law", "law", defArgs (top 33), defBody (top 33), defScope (top 33), [], []⟩
theorem sc_i_NotClosed : FnScope ["self"] ["self"] (defScope (inCls (top 2) 0)) := ⟨rfl, rfl, rfl, by decide +kernel, rfl, by decide +kernel, by decide +kernel⟩
def d_i_NotClosed : He.DefD := ⟨("NotClosed", some "__init__"), "__init__", "NotClosed.__init__", defArgs (inCls (top 2) 0), defBody (inCls (top 2) 0), defScope (inCls (top 2) 0), [], []⟩
theorem r_i_NotClosed : veRow (defScope (inCls (top 2) 0)) ((defBody (inCls (top 2) 0)).getD 0 (.Pass ⟨0, 0, 0, 0⟩)) = true := by decide +kernel
theorem sc_i_Apart : FnScope ["self"] ["self"] (defScope (inCls (top 1) 0)) := ⟨rfl, rfl, rfl, by decide +kernel, rfl, by decide +kernel, by decide +kernel⟩
def d_i_Apart : He.DefD := ⟨("Apart", some "__init__"), "__init__", "Apart.__init__", defArgs (inCls (top 1) 0), defBody (inCls (top 1) 0), defScope (inCls (top 1) 0), [], []⟩
theorem r_i_Apart : veRow (defScope (inCls (top 1) 0)) ((defBody (inCls (top 1) 0)).getD 0 (.Pass ⟨0, 0, 0, 0⟩)) = true := by decide +kernel
theorem sc_i_Nothing : FnScope ["self"] ["self"] (defScope (inCls (top 3) 0)) := ⟨rfl, rfl, rfl, by decide +kernel, rfl, by decide +kernel, by decide +kernel⟩
def d_i_Nothing : He.DefD := ⟨("Nothing", some "__init__"), "__init__", "Nothing.__init__", defArgs (inCls (top 3) 0), defBody (inCls (top 3) 0), defScope (inCls (top 3) 0), [], []⟩
theorem r_i_Nothing : veRow (defScope (inCls (top 3) 0)) ((defBody (inCls (top 3) 0)).getD 0 (.Pass ⟨0, 0, 0, 0⟩)) = true := by decide +kernel
def fn : List He.DefD := [d_shrunk, d_law_pen, d_law_draw, d_law_near, d_law_shrunk, d_turned, d_times_of, d_law_pick, d_law_may_door, d_law_drawn_pairs, d_law_reach, d_law_after, d_law_times, d_law_names, d_law_with_doors, d_law_strolled, d_law_ringed, d_need_closed, d_behind, d_need_something, d_law_power, d_law_yard, d_law_closed, d_core, d_root, d_law_told, d_law, d_i_NotClosed, d_i_Apart, d_i_Nothing]
def fa : List He.Fa := [.glo "shrunk", .glo "_law_pen", .glo "_law_draw", .glo "_law_near", .glo "_law_shrunk", .glo "turned", .glo "times_of", .glo "_law_pick", .glo "_law_may_door", .glo "_law_drawn_pairs", .glo "_law_reach", .glo "_law_after", .glo "_law_times", .glo "_law_names", .glo "_law_with_doors", .glo "_law_strolled", .glo "_law_ringed", .glo "need_closed", .glo "behind", .glo "need_something", .glo "_law_power", .glo "_law_yard", .glo "_law_closed", .glo "core", .glo "root", .glo "_law_told", .glo "law", .glo "NotClosed", .glo "Apart", .glo "Nothing", .free "len", .free "abs", .free "max", .free "min", .free "list", .free "tuple", .free "sorted", .free "int", .free "sum", .free "all"] ++ ([.free "any", .free "repr", .free "isinstance", .free "range", .free "str", .free "dict", .free "bool", .free "enumerate", .free "zip", .free "set", .free "type", .free "ValueError", .meth "NotClosed" "__init__", .meth "Apart" "__init__", .meth "Nothing" "__init__"] : List He.Fa)
def cs : List Str := ["NotClosed", "Apart", "Nothing"]
def su : List (Str × String × Bool × Bool) := [("NotClosed", "NotClosed", true, true), ("NotClosed", "ValueError", false, true), ("NotClosed", "Nothing", true, false), ("NotClosed", "Apart", true, false), ("Nothing", "Nothing", true, true), ("Nothing", "ValueError", false, true), ("Nothing", "NotClosed", true, false), ("Nothing", "Apart", true, false)]
abbrev ck : PySem.W.Frag → Bool := ckOf fa cs su
def T0 : Tb := { fs := [], xs := [], su := [] }
def T1 : Tb := { fs := [("shrunk", 1, spShrunk), ("_law_pen", 1, spPen), ("_law_draw", 2, spDraw), ("_law_near", 2, spNear), ("_law_shrunk", 1, spLShr), ("turned", 1, spTurned), ("times_of", 1, spTimes)], xs := [], su := [] }
def T2 : Tb := { fs := [("shrunk", 1, spShrunk), ("_law_pen", 1, spPen), ("_law_draw", 2, spDraw), ("_law_near", 2, spNear), ("_law_shrunk", 1, spLShr), ("turned", 1, spTurned), ("times_of", 1, spTimes), ("_law_pick", 2, spPick), ("_law_may_door", 3, spMay), ("_law_drawn_pairs", 3, spPairs), ("_law_reach", 2, spReach), ("_law_after", 2, spAfter), ("_law_times", 1, spLTimes)], xs := [("NotClosed", []), ("Apart", []), ("Nothing", [])], su := [("NotClosed", "NotClosed", true), ("NotClosed", "ValueError", true), ("NotClosed", "Nothing", false), ("NotClosed", "Apart", false), ("Nothing", "Nothing", true), ("Nothing", "ValueError", true), ("Nothing", "NotClosed", false), ("Nothing", "Apart", false)] }
def T3 : Tb := { fs := [("shrunk", 1, spShrunk), ("_law_pen", 1, spPen), ("_law_draw", 2, spDraw), ("_law_near", 2, spNear), ("_law_shrunk", 1, spLShr), ("turned", 1, spTurned), ("times_of", 1, spTimes), ("_law_pick", 2, spPick), ("_law_may_door", 3, spMay), ("_law_drawn_pairs", 3, spPairs), ("_law_reach", 2, spReach), ("_law_after", 2, spAfter), ("_law_times", 1, spLTimes), ("_law_names", 2, spNames), ("_law_with_doors", 2, spWith), ("_law_strolled", 4, spStroll), ("_law_ringed", 2, spRinged), ("need_closed", 1, spNeed), ("behind", 2, spBehind), ("need_something", 1, spSome), ("_law_power", 2, spPower)], xs := [("NotClosed", []), ("Apart", []), ("Nothing", [])], su := [("NotClosed", "NotClosed", true), ("NotClosed", "ValueError", true), ("NotClosed", "Nothing", false), ("NotClosed", "Apart", false), ("Nothing", "Nothing", true), ("Nothing", "ValueError", true), ("Nothing", "NotClosed", false), ("Nothing", "Apart", false)] }
def T4 : Tb := { fs := [("shrunk", 1, spShrunk), ("_law_pen", 1, spPen), ("_law_draw", 2, spDraw), ("_law_near", 2, spNear), ("_law_shrunk", 1, spLShr), ("turned", 1, spTurned), ("times_of", 1, spTimes), ("_law_pick", 2, spPick), ("_law_may_door", 3, spMay), ("_law_drawn_pairs", 3, spPairs), ("_law_reach", 2, spReach), ("_law_after", 2, spAfter), ("_law_times", 1, spLTimes), ("_law_names", 2, spNames), ("_law_with_doors", 2, spWith), ("_law_strolled", 4, spStroll), ("_law_ringed", 2, spRinged), ("need_closed", 1, spNeed), ("behind", 2, spBehind), ("need_something", 1, spSome), ("_law_power", 2, spPower), ("_law_yard", 2, spYard), ("_law_closed", 3, spClosed), ("core", 1, spCore)], xs := [("NotClosed", []), ("Apart", []), ("Nothing", [])], su := [("NotClosed", "NotClosed", true), ("NotClosed", "ValueError", true), ("NotClosed", "Nothing", false), ("NotClosed", "Apart", false), ("Nothing", "Nothing", true), ("Nothing", "ValueError", true), ("Nothing", "NotClosed", false), ("Nothing", "Apart", false)] }
def T5 : Tb := { fs := [("shrunk", 1, spShrunk), ("_law_pen", 1, spPen), ("_law_draw", 2, spDraw), ("_law_near", 2, spNear), ("_law_shrunk", 1, spLShr), ("turned", 1, spTurned), ("times_of", 1, spTimes), ("_law_pick", 2, spPick), ("_law_may_door", 3, spMay), ("_law_drawn_pairs", 3, spPairs), ("_law_reach", 2, spReach), ("_law_after", 2, spAfter), ("_law_times", 1, spLTimes), ("_law_names", 2, spNames), ("_law_with_doors", 2, spWith), ("_law_strolled", 4, spStroll), ("_law_ringed", 2, spRinged), ("need_closed", 1, spNeed), ("behind", 2, spBehind), ("need_something", 1, spSome), ("_law_power", 2, spPower), ("_law_yard", 2, spYard), ("_law_closed", 3, spClosed), ("core", 1, spCore), ("root", 1, spRoot)], xs := [("NotClosed", []), ("Apart", []), ("Nothing", [])], su := [("NotClosed", "NotClosed", true), ("NotClosed", "ValueError", true), ("NotClosed", "Nothing", false), ("NotClosed", "Apart", false), ("Nothing", "Nothing", true), ("Nothing", "ValueError", true), ("Nothing", "NotClosed", false), ("Nothing", "Apart", false)] }
def T6 : Tb := { fs := [("shrunk", 1, spShrunk), ("_law_pen", 1, spPen), ("_law_draw", 2, spDraw), ("_law_near", 2, spNear), ("_law_shrunk", 1, spLShr), ("turned", 1, spTurned), ("times_of", 1, spTimes), ("_law_pick", 2, spPick), ("_law_may_door", 3, spMay), ("_law_drawn_pairs", 3, spPairs), ("_law_reach", 2, spReach), ("_law_after", 2, spAfter), ("_law_times", 1, spLTimes), ("_law_names", 2, spNames), ("_law_with_doors", 2, spWith), ("_law_strolled", 4, spStroll), ("_law_ringed", 2, spRinged), ("need_closed", 1, spNeed), ("behind", 2, spBehind), ("need_something", 1, spSome), ("_law_power", 2, spPower), ("_law_yard", 2, spYard), ("_law_closed", 3, spClosed), ("core", 1, spCore), ("root", 1, spRoot), ("_law_told", 1, spTold)], xs := [("NotClosed", []), ("Apart", []), ("Nothing", [])], su := [("NotClosed", "NotClosed", true), ("NotClosed", "ValueError", true), ("NotClosed", "Nothing", false), ("NotClosed", "Apart", false), ("Nothing", "Nothing", true), ("Nothing", "ValueError", true), ("Nothing", "NotClosed", false), ("Nothing", "Apart", false)] }
section
variable {P : Program} {w : World} {K : PySem.W.Frag} {h : Heap} {mg : Str → Option Value} {f : Addr}
theorem bu_ok (X : K.In h) (G : h.Ns mainGlobals mg) (c : SaysE ck fn K) : ∀ x ∈ DL.bu, mg x = none := by
  unfold DL.bu
  exact List.forall_mem_cons.mpr ⟨He.free_ok X G (ck_fa c.and.1 30 (f := .free "len") rfl), List.forall_mem_cons.mpr ⟨He.free_ok X G (ck_fa c.and.1 31 (f := .free "abs") rfl), List.forall_mem_cons.mpr ⟨He.free_ok X G (ck_fa c.and.1 32 (f := .free "max") rfl), List.forall_mem_cons.mpr ⟨He.free_ok X G (ck_fa c.and.1 33 (f := .free "min") rfl), List.forall_mem_cons.mpr ⟨He.free_ok X G (ck_fa c.and.1 34 (f := .free "list") rfl), List.forall_mem_cons.mpr ⟨He.free_ok X G (ck_fa c.and.1 35 (f := .free "tuple") rfl), List.forall_mem_cons.mpr ⟨He.free_ok X G (ck_fa c.and.1 36 (f := .free "sorted") rfl), List.forall_mem_cons.mpr ⟨He.free_ok X G (ck_fa c.and.1 37 (f := .free "int") rfl), List.forall_mem_cons.mpr ⟨He.free_ok X G (ck_fa c.and.1 38 (f := .free "sum") rfl), List.forall_mem_cons.mpr ⟨He.free_ok X G (ck_fa c.and.1 39 (f := .free "all") rfl), List.forall_mem_cons.mpr ⟨He.free_ok X G (ck_fa c.and.1 40 (f := .free "any") rfl), List.forall_mem_cons.mpr ⟨He.free_ok X G (ck_fa c.and.1 41 (f := .free "repr") rfl), List.forall_mem_cons.mpr ⟨He.free_ok X G (ck_fa c.and.1 42 (f := .free "isinstance") rfl), List.forall_mem_cons.mpr ⟨He.free_ok X G (ck_fa c.and.1 43 (f := .free "range") rfl), List.forall_mem_cons.mpr ⟨He.free_ok X G (ck_fa c.and.1 44 (f := .free "str") rfl), List.forall_mem_cons.mpr ⟨He.free_ok X G (ck_fa c.and.1 45 (f := .free "dict") rfl), List.forall_mem_cons.mpr ⟨He.free_ok X G (ck_fa c.and.1 46 (f := .free "bool") rfl), List.forall_mem_cons.mpr ⟨He.free_ok X G (ck_fa c.and.1 47 (f := .free "enumerate") rfl), List.forall_mem_cons.mpr ⟨He.free_ok X G (ck_fa c.and.1 48 (f := .free "zip") rfl), List.forall_mem_cons.mpr ⟨He.free_ok X G (ck_fa c.and.1 49 (f := .free "set") rfl), List.forall_mem_cons.mpr ⟨He.free_ok X G (ck_fa c.and.1 50 (f := .free "type") rfl), fun _ h => nomatch h⟩⟩⟩⟩⟩⟩⟩⟩⟩⟩⟩⟩⟩⟩⟩⟩⟩⟩⟩⟩⟩
theorem facts (X : K.In h) (G : h.Ns mainGlobals mg) (hfa : mg ("law" : Str) = some (.ref f)) (c : SaysE ck fn K) : ∃ fd : FuncData, (∀ (s : Shared) (v : Value), BindsTo s fd ⟨[v], []⟩ [("_law_script", v)]) ∧ ∀ base : Heap, K.In base → base.Ns mainGlobals mg → FnG P w K mg base CX0 7 f fd ["_law_script"] (lawSpV K 63) := by
  have bu := bu_ok X G c
  obtain ⟨fd_shrunk, F_shrunk⟩ := c.def_ 0 (d := d_shrunk) rfl
  have g_shrunk : mg "shrunk" = some (.ref (He.fAd K ("shrunk", none))) := He.glo_ok X G (ck_fa c.and.1 0 (f := .glo "shrunk") rfl)
  have b_shrunk : L2.Binds K fd_shrunk ["walk"] [] := F_shrunk.bindsN fun _ _ _ _ _ _ us hl => match us, hl with | [_], _ => rfl
  obtain ⟨fd_law_pen, F_law_pen⟩ := c.def_ 1 (d := d_law_pen) rfl
  have g_law_pen : mg "_law_pen" = some (.ref (He.fAd K ("_law_pen", none))) := He.glo_ok X G (ck_fa c.and.1 1 (f := .glo "_law_pen") rfl)
  have b_law_pen : L2.Binds K fd_law_pen ["_law_script"] [] := F_law_pen.bindsN fun _ _ _ _ _ _ us hl => match us, hl with | [_], _ => rfl
  obtain ⟨fd_law_draw, F_law_draw⟩ := c.def_ 2 (d := d_law_draw) rfl
  have g_law_draw : mg "_law_draw" = some (.ref (He.fAd K ("_law_draw", none))) := He.glo_ok X G (ck_fa c.and.1 2 (f := .glo "_law_draw") rfl)
  have b_law_draw : L2.Binds K fd_law_draw ["_law_pen_here", "_law_many"] [] := F_law_draw.bindsN fun _ _ _ _ _ _ us hl => match us, hl with | [_, _], _ => rfl
  obtain ⟨fd_law_near, F_law_near⟩ := c.def_ 3 (d := d_law_near) rfl
  have g_law_near : mg "_law_near" = some (.ref (He.fAd K ("_law_near", none))) := He.glo_ok X G (ck_fa c.and.1 3 (f := .glo "_law_near") rfl)
  have b_law_near : L2.Binds K fd_law_near ["_law_yard_here", "_law_room"] [] := F_law_near.bindsN fun _ _ _ _ _ _ us hl => match us, hl with | [_, _], _ => rfl
  obtain ⟨fd_law_shrunk, F_law_shrunk⟩ := c.def_ 4 (d := d_law_shrunk) rfl
  have g_law_shrunk : mg "_law_shrunk" = some (.ref (He.fAd K ("_law_shrunk", none))) := He.glo_ok X G (ck_fa c.and.1 4 (f := .glo "_law_shrunk") rfl)
  have b_law_shrunk : L2.Binds K fd_law_shrunk ["_law_road"] [] := F_law_shrunk.bindsN fun _ _ _ _ _ _ us hl => match us, hl with | [_], _ => rfl
  obtain ⟨fd_turned, F_turned⟩ := c.def_ 5 (d := d_turned) rfl
  have g_turned : mg "turned" = some (.ref (He.fAd K ("turned", none))) := He.glo_ok X G (ck_fa c.and.1 5 (f := .glo "turned") rfl)
  have b_turned : L2.Binds K fd_turned ["walk"] [] := F_turned.bindsN fun _ _ _ _ _ _ us hl => match us, hl with | [_], _ => rfl
  obtain ⟨fd_times_of, F_times_of⟩ := c.def_ 6 (d := d_times_of) rfl
  have g_times_of : mg "times_of" = some (.ref (He.fAd K ("times_of", none))) := He.glo_ok X G (ck_fa c.and.1 6 (f := .glo "times_of") rfl)
  have b_times_of : L2.Binds K fd_times_of ["ring"] [] := F_times_of.bindsN fun _ _ _ _ _ _ us hl => match us, hl with | [_], _ => rfl
  obtain ⟨fd_law_pick, F_law_pick⟩ := c.def_ 7 (d := d_law_pick) rfl
  have g_law_pick : mg "_law_pick" = some (.ref (He.fAd K ("_law_pick", none))) := He.glo_ok X G (ck_fa c.and.1 7 (f := .glo "_law_pick") rfl)
  have b_law_pick : L2.Binds K fd_law_pick ["_law_pen_here", "_law_some"] [] := F_law_pick.bindsN fun _ _ _ _ _ _ us hl => match us, hl with | [_, _], _ => rfl
  obtain ⟨fd_law_may_door, F_law_may_door⟩ := c.def_ 8 (d := d_law_may_door) rfl
  have g_law_may_door : mg "_law_may_door" = some (.ref (He.fAd K ("_law_may_door", none))) := He.glo_ok X G (ck_fa c.and.1 8 (f := .glo "_law_may_door") rfl)
  have b_law_may_door : L2.Binds K fd_law_may_door ["_law_yard_here", "_law_one", "_law_other"] [] := F_law_may_door.bindsN fun _ _ _ _ _ _ us hl => match us, hl with | [_, _, _], _ => rfl
  obtain ⟨fd_law_drawn_pairs, F_law_drawn_pairs⟩ := c.def_ 9 (d := d_law_drawn_pairs) rfl
  have g_law_drawn_pairs : mg "_law_drawn_pairs" = some (.ref (He.fAd K ("_law_drawn_pairs", none))) := He.glo_ok X G (ck_fa c.and.1 9 (f := .glo "_law_drawn_pairs") rfl)
  have b_law_drawn_pairs : L2.Binds K fd_law_drawn_pairs ["_law_pen_here", "_law_many", "_law_count"] [] := F_law_drawn_pairs.bindsN fun _ _ _ _ _ _ us hl => match us, hl with | [_, _, _], _ => rfl
  obtain ⟨fd_law_reach, F_law_reach⟩ := c.def_ 10 (d := d_law_reach) rfl
  have g_law_reach : mg "_law_reach" = some (.ref (He.fAd K ("_law_reach", none))) := He.glo_ok X G (ck_fa c.and.1 10 (f := .glo "_law_reach") rfl)
  have b_law_reach : L2.Binds K fd_law_reach ["_law_yard_here", "_law_begin"] [] := F_law_reach.bindsN fun _ _ _ _ _ _ us hl => match us, hl with | [_, _], _ => rfl
  obtain ⟨fd_law_after, F_law_after⟩ := c.def_ 11 (d := d_law_after) rfl
  have g_law_after : mg "_law_after" = some (.ref (He.fAd K ("_law_after", none))) := He.glo_ok X G (ck_fa c.and.1 11 (f := .glo "_law_after") rfl)
  have b_law_after : L2.Binds K fd_law_after ["_law_one", "_law_other"] [] := F_law_after.bindsN fun _ _ _ _ _ _ us hl => match us, hl with | [_, _], _ => rfl
  obtain ⟨fd_law_times, F_law_times⟩ := c.def_ 12 (d := d_law_times) rfl
  have g_law_times : mg "_law_times" = some (.ref (He.fAd K ("_law_times", none))) := He.glo_ok X G (ck_fa c.and.1 12 (f := .glo "_law_times") rfl)
  have b_law_times : L2.Binds K fd_law_times ["_law_road"] [] := F_law_times.bindsN fun _ _ _ _ _ _ us hl => match us, hl with | [_], _ => rfl
  obtain ⟨fd_law_names, F_law_names⟩ := c.def_ 13 (d := d_law_names) rfl
  have g_law_names : mg "_law_names" = some (.ref (He.fAd K ("_law_names", none))) := He.glo_ok X G (ck_fa c.and.1 13 (f := .glo "_law_names") rfl)
  have b_law_names : L2.Binds K fd_law_names ["_law_pen_here", "_law_many"] [] := F_law_names.bindsN fun _ _ _ _ _ _ us hl => match us, hl with | [_, _], _ => rfl
  obtain ⟨fd_law_with_doors, F_law_with_doors⟩ := c.def_ 14 (d := d_law_with_doors) rfl
  have g_law_with_doors : mg "_law_with_doors" = some (.ref (He.fAd K ("_law_with_doors", none))) := He.glo_ok X G (ck_fa c.and.1 14 (f := .glo "_law_with_doors") rfl)
  have b_law_with_doors : L2.Binds K fd_law_with_doors ["_law_rooms", "_law_pairs"] [] := F_law_with_doors.bindsN fun _ _ _ _ _ _ us hl => match us, hl with | [_, _], _ => rfl
  obtain ⟨fd_law_strolled, F_law_strolled⟩ := c.def_ 15 (d := d_law_strolled) rfl
  have g_law_strolled : mg "_law_strolled" = some (.ref (He.fAd K ("_law_strolled", none))) := He.glo_ok X G (ck_fa c.and.1 15 (f := .glo "_law_strolled") rfl)
  have b_law_strolled : L2.Binds K fd_law_strolled ["_law_pen_here", "_law_yard_here", "_law_begin", "_law_steps"] [] := F_law_strolled.bindsN fun _ _ _ _ _ _ us hl => match us, hl with | [_, _, _, _], _ => rfl
  obtain ⟨fd_law_ringed, F_law_ringed⟩ := c.def_ 16 (d := d_law_ringed) rfl
  have g_law_ringed : mg "_law_ringed" = some (.ref (He.fAd K ("_law_ringed", none))) := He.glo_ok X G (ck_fa c.and.1 16 (f := .glo "_law_ringed") rfl)
  have b_law_ringed : L2.Binds K fd_law_ringed ["_law_pen_here", "_law_yard_here"] [] := F_law_ringed.bindsN fun _ _ _ _ _ _ us hl => match us, hl with | [_, _], _ => rfl
  obtain ⟨fd_need_closed, F_need_closed⟩ := c.def_ 17 (d := d_need_closed) rfl
  have g_need_closed : mg "need_closed" = some (.ref (He.fAd K ("need_closed", none))) := He.glo_ok X G (ck_fa c.and.1 17 (f := .glo "need_closed") rfl)
  have b_need_closed : L2.Binds K fd_need_closed ["walk"] [] := F_need_closed.bindsN fun _ _ _ _ _ _ us hl => match us, hl with | [_], _ => rfl
  obtain ⟨fd_behind, F_behind⟩ := c.def_ 18 (d := d_behind) rfl
  have g_behind : mg "behind" = some (.ref (He.fAd K ("behind", none))) := He.glo_ok X G (ck_fa c.and.1 18 (f := .glo "behind") rfl)
  have b_behind : L2.Binds K fd_behind ["one", "other"] [] := F_behind.bindsN fun _ _ _ _ _ _ us hl => match us, hl with | [_, _], _ => rfl
  obtain ⟨fd_need_something, F_need_something⟩ := c.def_ 19 (d := d_need_something) rfl
  have g_need_something : mg "need_something" = some (.ref (He.fAd K ("need_something", none))) := He.glo_ok X G (ck_fa c.and.1 19 (f := .glo "need_something") rfl)
  have b_need_something : L2.Binds K fd_need_something ["walk"] [] := F_need_something.bindsN fun _ _ _ _ _ _ us hl => match us, hl with | [_], _ => rfl
  obtain ⟨fd_law_power, F_law_power⟩ := c.def_ 20 (d := d_law_power) rfl
  have g_law_power : mg "_law_power" = some (.ref (He.fAd K ("_law_power", none))) := He.glo_ok X G (ck_fa c.and.1 20 (f := .glo "_law_power") rfl)
  have b_law_power : L2.Binds K fd_law_power ["_law_road", "_law_many"] [] := F_law_power.bindsN fun _ _ _ _ _ _ us hl => match us, hl with | [_, _], _ => rfl
  obtain ⟨fd_law_yard, F_law_yard⟩ := c.def_ 21 (d := d_law_yard) rfl
  have g_law_yard : mg "_law_yard" = some (.ref (He.fAd K ("_law_yard", none))) := He.glo_ok X G (ck_fa c.and.1 21 (f := .glo "_law_yard") rfl)
  have b_law_yard : L2.Binds K fd_law_yard ["_law_pen_here", "_law_most"] [] := F_law_yard.bindsN fun _ _ _ _ _ _ us hl => match us, hl with | [_, _], _ => rfl
  obtain ⟨fd_law_closed, F_law_closed⟩ := c.def_ 22 (d := d_law_closed) rfl
  have g_law_closed : mg "_law_closed" = some (.ref (He.fAd K ("_law_closed", none))) := He.glo_ok X G (ck_fa c.and.1 22 (f := .glo "_law_closed") rfl)
  have b_law_closed : L2.Binds K fd_law_closed ["_law_pen_here", "_law_yard_here", "_law_begin"] [] := F_law_closed.bindsN fun _ _ _ _ _ _ us hl => match us, hl with | [_, _, _], _ => rfl
  obtain ⟨fd_core, F_core⟩ := c.def_ 23 (d := d_core) rfl
  have g_core : mg "core" = some (.ref (He.fAd K ("core", none))) := He.glo_ok X G (ck_fa c.and.1 23 (f := .glo "core") rfl)
  have b_core : L2.Binds K fd_core ["walk"] [] := F_core.bindsN fun _ _ _ _ _ _ us hl => match us, hl with | [_], _ => rfl
  obtain ⟨fd_root, F_root⟩ := c.def_ 24 (d := d_root) rfl
  have g_root : mg "root" = some (.ref (He.fAd K ("root", none))) := He.glo_ok X G (ck_fa c.and.1 24 (f := .glo "root") rfl)
  have b_root : L2.Binds K fd_root ["walk"] [] := F_root.bindsN fun _ _ _ _ _ _ us hl => match us, hl with | [_], _ => rfl
  obtain ⟨fd_law_told, F_law_told⟩ := c.def_ 25 (d := d_law_told) rfl
  have g_law_told : mg "_law_told" = some (.ref (He.fAd K ("_law_told", none))) := He.glo_ok X G (ck_fa c.and.1 25 (f := .glo "_law_told") rfl)
  have b_law_told : L2.Binds K fd_law_told ["_law_road"] [] := F_law_told.bindsN fun _ _ _ _ _ _ us hl => match us, hl with | [_], _ => rfl
  obtain ⟨fd_law, F_law⟩ := c.def_ 26 (d := d_law) rfl
  have g_law : mg "law" = some (.ref (He.fAd K ("law", none))) := He.glo_ok X G (ck_fa c.and.1 26 (f := .glo "law") rfl)
  have e := hfa.symm.trans g_law
  cases e
  have bl := FunD.bindsA (ps := ["_law_script"]) F_law fun _ _ _ _ _ _ us hl => match us, hl with | [_], _ => rfl
  refine ⟨fd_law, fun s v => bl s [v] rfl, fun base _ _ => ?_⟩
  have bu' : ∀ x ∈ DL.bu, (B0 P w K mg base).mg x = none := bu
  have gc_NotClosed : mg "NotClosed" = some (.ref (He.ga K "NotClosed")) := He.glo_ok X G (ck_fa c.and.1 27 (f := .glo "NotClosed") rfl)
  have gc_Apart : mg "Apart" = some (.ref (He.ga K "Apart")) := He.glo_ok X G (ck_fa c.and.1 28 (f := .glo "Apart") rfl)
  have gc_Nothing : mg "Nothing" = some (.ref (He.ga K "Nothing")) := He.glo_ok X G (ck_fa c.and.1 29 (f := .glo "Nothing") rfl)
  have gb_ValueError : mg "ValueError" = none := He.free_ok X G (ck_fa c.and.1 51 (f := .free "ValueError") rfl)
  have q_NotClosed : clsOkB K "NotClosed" = true := ck_cs c.and.1 0 rfl
  have q_Apart : clsOkB K "Apart" = true := ck_cs c.and.1 1 rfl
  have q_Nothing : clsOkB K "Nothing" = true := ck_cs c.and.1 2 rfl
  obtain ⟨fd_i_NotClosed, F_i_NotClosed⟩ := c.def_ 27 (d := d_i_NotClosed) rfl
  have b_i_NotClosed : L2.Binds K fd_i_NotClosed ["self"] [] := F_i_NotClosed.bindsN fun _ _ _ _ _ _ us hl => match us, hl with | [_], _ => rfl
  have xc_NotClosed : ∀ lv, 2 ≤ lv → XcD (B0 P w K mg base) lv "NotClosed" [] := fun lv hl => xc_of gc_NotClosed q_NotClosed (He.meth_ok (ck_fa c.and.1 52 (f := .meth "NotClosed" "__init__") rfl)) (init_ok0 F_i_NotClosed sc_i_NotClosed (by decide +kernel) gb_ValueError rfl r_i_NotClosed) b_i_NotClosed hl (fun _ h => nomatch h)
  obtain ⟨fd_i_Apart, F_i_Apart⟩ := c.def_ 28 (d := d_i_Apart) rfl
  have b_i_Apart : L2.Binds K fd_i_Apart ["self"] [] := F_i_Apart.bindsN fun _ _ _ _ _ _ us hl => match us, hl with | [_], _ => rfl
  have xc_Apart : ∀ lv, 2 ≤ lv → XcD (B0 P w K mg base) lv "Apart" [] := fun lv hl => xc_of gc_Apart q_Apart (He.meth_ok (ck_fa c.and.1 53 (f := .meth "Apart" "__init__") rfl)) (init_ok0 F_i_Apart sc_i_Apart (by decide +kernel) gb_ValueError rfl r_i_Apart) b_i_Apart hl (fun _ h => nomatch h)
  obtain ⟨fd_i_Nothing, F_i_Nothing⟩ := c.def_ 29 (d := d_i_Nothing) rfl
  have b_i_Nothing : L2.Binds K fd_i_Nothing ["self"] [] := F_i_Nothing.bindsN fun _ _ _ _ _ _ us hl => match us, hl with | [_], _ => rfl
  have xc_Nothing : ∀ lv, 2 ≤ lv → XcD (B0 P w K mg base) lv "Nothing" [] := fun lv hl => xc_of gc_Nothing q_Nothing (He.meth_ok (ck_fa c.and.1 54 (f := .meth "Nothing" "__init__") rfl)) (init_ok0 F_i_Nothing sc_i_Nothing (by decide +kernel) gb_ValueError rfl r_i_Nothing) b_i_Nothing hl (fun _ h => nomatch h)
  have s_NotClosed_NotClosed : SubD (B0 P w K mg base) "NotClosed" "NotClosed" true := sub_of (T := "NotClosed") gc_NotClosed q_NotClosed (.inl ⟨rfl, gc_NotClosed⟩) (ck_su c.and.1 0 rfl)
  have s_NotClosed_ValueError : SubD (B0 P w K mg base) "NotClosed" "ValueError" true := sub_of (T := "ValueError") gc_NotClosed q_NotClosed (.inr ⟨rfl, gb_ValueError, by decide +kernel⟩) (ck_su c.and.1 1 rfl)
  have s_NotClosed_Nothing : SubD (B0 P w K mg base) "NotClosed" "Nothing" false := sub_of (T := "Nothing") gc_NotClosed q_NotClosed (.inl ⟨rfl, gc_Nothing⟩) (ck_su c.and.1 2 rfl)
  have s_NotClosed_Apart : SubD (B0 P w K mg base) "NotClosed" "Apart" false := sub_of (T := "Apart") gc_NotClosed q_NotClosed (.inl ⟨rfl, gc_Apart⟩) (ck_su c.and.1 3 rfl)
  have s_Nothing_Nothing : SubD (B0 P w K mg base) "Nothing" "Nothing" true := sub_of (T := "Nothing") gc_Nothing q_Nothing (.inl ⟨rfl, gc_Nothing⟩) (ck_su c.and.1 4 rfl)
  have s_Nothing_ValueError : SubD (B0 P w K mg base) "Nothing" "ValueError" true := sub_of (T := "ValueError") gc_Nothing q_Nothing (.inr ⟨rfl, gb_ValueError, by decide +kernel⟩) (ck_su c.and.1 5 rfl)
  have s_Nothing_NotClosed : SubD (B0 P w K mg base) "Nothing" "NotClosed" false := sub_of (T := "NotClosed") gc_Nothing q_Nothing (.inl ⟨rfl, gc_NotClosed⟩) (ck_su c.and.1 6 rfl)
  have s_Nothing_Apart : SubD (B0 P w K mg base) "Nothing" "Apart" false := sub_of (T := "Apart") gc_Nothing q_Nothing (.inl ⟨rfl, gc_Apart⟩) (ck_su c.and.1 7 rfl)
  have E0 : FnEnv (B0 P w K mg base) T0.sg 0 := Tb.env (fun _ h => nomatch h) (fun _ h => nomatch h) (fun _ h => nomatch h) (fun _ h => nomatch h) (fun _ h => nomatch h) bu' (fun _ h => nomatch h) (fun _ h => nomatch h)
  have D_shrunk : FnD (B0 P w K mg base) 1 spShrunk "shrunk" := FnD.mk1 g_shrunk (fn_ok E0 F_shrunk sc_shrunk k_shrunk (s_shrunk T0.sg )) (Nat.le_refl _) F_shrunk.kp b_shrunk
  have D_law_pen : FnD (B0 P w K mg base) 1 spPen "_law_pen" := FnD.mk1 g_law_pen (fn_ok E0 F_law_pen sc_law_pen k_law_pen (s_pen T0.sg )) (Nat.le_refl _) F_law_pen.kp b_law_pen
  have D_law_draw : FnD (B0 P w K mg base) 1 spDraw "_law_draw" := FnD.mk1 g_law_draw (fn_ok E0 F_law_draw sc_law_draw k_law_draw (s_draw T0.sg )) (Nat.le_refl _) F_law_draw.kp b_law_draw
  have D_law_near : FnD (B0 P w K mg base) 1 spNear "_law_near" := FnD.mk1 g_law_near (fn_ok E0 F_law_near sc_law_near k_law_near (s_near T0.sg )) (Nat.le_refl _) F_law_near.kp b_law_near
  have D_law_shrunk : FnD (B0 P w K mg base) 1 spLShr "_law_shrunk" := FnD.mk1 g_law_shrunk (fn_ok E0 F_law_shrunk sc_law_shrunk k_law_shrunk (s_lshr T0.sg )) (Nat.le_refl _) F_law_shrunk.kp b_law_shrunk
  have D_turned : FnD (B0 P w K mg base) 1 spTurned "turned" := FnD.mk1 g_turned (fn_ok E0 F_turned sc_turned k_turned (s_turned T0.sg )) (Nat.le_refl _) F_turned.kp b_turned
  have D_times_of : FnD (B0 P w K mg base) 1 spTimes "times_of" := FnD.mk1 g_times_of (fn_ok E0 F_times_of sc_times_of k_times_of (s_times T0.sg )) (Nat.le_refl _) F_times_of.kp b_times_of
  have E1 : FnEnv (B0 P w K mg base) T1.sg 1 := Tb.env (List.forall_mem_cons.mpr ⟨D_shrunk.mono (by decide), List.forall_mem_cons.mpr ⟨D_law_pen.mono (by decide), List.forall_mem_cons.mpr ⟨D_law_draw.mono (by decide), List.forall_mem_cons.mpr ⟨D_law_near.mono (by decide), List.forall_mem_cons.mpr ⟨D_law_shrunk.mono (by decide), List.forall_mem_cons.mpr ⟨D_turned.mono (by decide), List.forall_mem_cons.mpr ⟨D_times_of.mono (by decide), fun _ h => nomatch h⟩⟩⟩⟩⟩⟩⟩) (fun _ h => nomatch h) (fun _ h => nomatch h) (fun _ h => nomatch h) (fun _ h => nomatch h) bu' (fun _ h => nomatch h) (fun _ h => nomatch h)
  have D_law_pick : FnD (B0 P w K mg base) 2 spPick "_law_pick" := FnD.mk1 g_law_pick (fn_ok E1 F_law_pick sc_law_pick k_law_pick (s_pick T1.sg (by rfl))) (Nat.le_refl _) F_law_pick.kp b_law_pick
  have D_law_may_door : FnD (B0 P w K mg base) 2 spMay "_law_may_door" := FnD.mk1 g_law_may_door (fn_ok E1 F_law_may_door sc_law_may_door k_law_may_door (s_may T1.sg (by rfl))) (Nat.le_refl _) F_law_may_door.kp b_law_may_door
  have D_law_drawn_pairs : FnD (B0 P w K mg base) 2 spPairs "_law_drawn_pairs" := FnD.mk1 g_law_drawn_pairs (fn_ok E1 F_law_drawn_pairs sc_law_drawn_pairs k_law_drawn_pairs (s_pairs T1.sg (by rfl))) (Nat.le_refl _) F_law_drawn_pairs.kp b_law_drawn_pairs
  have D_law_reach : FnD (B0 P w K mg base) 2 spReach "_law_reach" := FnD.mk1 g_law_reach (fn_ok E1 F_law_reach sc_law_reach k_law_reach (s_reach T1.sg (by rfl))) (Nat.le_refl _) F_law_reach.kp b_law_reach
  have D_law_after : FnD (B0 P w K mg base) 2 spAfter "_law_after" := FnD.mk1 g_law_after (fn_ok E1 F_law_after sc_law_after k_law_after (s_after T1.sg (by rfl))) (Nat.le_refl _) F_law_after.kp b_law_after
  have D_law_times : FnD (B0 P w K mg base) 2 spLTimes "_law_times" := FnD.mk1 g_law_times (fn_ok E1 F_law_times sc_law_times k_law_times (s_ltimes T1.sg (by rfl))) (Nat.le_refl _) F_law_times.kp b_law_times
  have E2 : FnEnv (B0 P w K mg base) T2.sg 2 := Tb.env (List.forall_mem_cons.mpr ⟨D_shrunk.mono (by decide), List.forall_mem_cons.mpr ⟨D_law_pen.mono (by decide), List.forall_mem_cons.mpr ⟨D_law_draw.mono (by decide), List.forall_mem_cons.mpr ⟨D_law_near.mono (by decide), List.forall_mem_cons.mpr ⟨D_law_shrunk.mono (by decide), List.forall_mem_cons.mpr ⟨D_turned.mono (by decide), List.forall_mem_cons.mpr ⟨D_times_of.mono (by decide), List.forall_mem_cons.mpr ⟨D_law_pick.mono (by decide), List.forall_mem_cons.mpr ⟨D_law_may_door.mono (by decide), List.forall_mem_cons.mpr ⟨D_law_drawn_pairs.mono (by decide), List.forall_mem_cons.mpr ⟨D_law_reach.mono (by decide), List.forall_mem_cons.mpr ⟨D_law_after.mono (by decide), List.forall_mem_cons.mpr ⟨D_law_times.mono (by decide), fun _ h => nomatch h⟩⟩⟩⟩⟩⟩⟩⟩⟩⟩⟩⟩⟩) (fun _ h => nomatch h) (fun _ h => nomatch h) (fun _ h => nomatch h) (fun _ h => nomatch h) bu' (List.forall_mem_cons.mpr ⟨xc_NotClosed 2 (by decide), List.forall_mem_cons.mpr ⟨xc_Apart 2 (by decide), List.forall_mem_cons.mpr ⟨xc_Nothing 2 (by decide), fun _ h => nomatch h⟩⟩⟩) (List.forall_mem_cons.mpr ⟨s_NotClosed_NotClosed, List.forall_mem_cons.mpr ⟨s_NotClosed_ValueError, List.forall_mem_cons.mpr ⟨s_NotClosed_Nothing, List.forall_mem_cons.mpr ⟨s_NotClosed_Apart, List.forall_mem_cons.mpr ⟨s_Nothing_Nothing, List.forall_mem_cons.mpr ⟨s_Nothing_ValueError, List.forall_mem_cons.mpr ⟨s_Nothing_NotClosed, List.forall_mem_cons.mpr ⟨s_Nothing_Apart, fun _ h => nomatch h⟩⟩⟩⟩⟩⟩⟩⟩)
  have D_law_names : FnD (B0 P w K mg base) 3 spNames "_law_names" := FnD.mk1 g_law_names (fn_ok E2 F_law_names sc_law_names k_law_names (s_names T2.sg (by rfl) (by rfl))) (Nat.le_refl _) F_law_names.kp b_law_names
  have D_law_with_doors : FnD (B0 P w K mg base) 3 spWith "_law_with_doors" := FnD.mk1 g_law_with_doors (fn_ok E2 F_law_with_doors sc_law_with_doors k_law_with_doors (s_with T2.sg (by rfl))) (Nat.le_refl _) F_law_with_doors.kp b_law_with_doors
  have D_law_strolled : FnD (B0 P w K mg base) 3 spStroll "_law_strolled" := FnD.mk1 g_law_strolled (fn_ok E2 F_law_strolled sc_law_strolled k_law_strolled (s_stroll T2.sg (by rfl) (by rfl))) (Nat.le_refl _) F_law_strolled.kp b_law_strolled
  have D_law_ringed : FnD (B0 P w K mg base) 3 spRinged "_law_ringed" := FnD.mk1 g_law_ringed (fn_ok E2 F_law_ringed sc_law_ringed k_law_ringed (s_ringed T2.sg (by rfl) (by rfl))) (Nat.le_refl _) F_law_ringed.kp b_law_ringed
  have D_need_closed : FnD (B0 P w K mg base) 3 spNeed "need_closed" := FnD.mk1 g_need_closed (fn_ok E2 F_need_closed sc_need_closed k_need_closed (s_need T2.sg (by rfl))) (Nat.le_refl _) F_need_closed.kp b_need_closed
  have D_behind : FnD (B0 P w K mg base) 3 spBehind "behind" := FnD.mk1 g_behind (fn_ok E2 F_behind sc_behind k_behind (s_behind T2.sg (by rfl) (by rfl))) (Nat.le_refl _) F_behind.kp b_behind
  have D_need_something : FnD (B0 P w K mg base) 3 spSome "need_something" := FnD.mk1 g_need_something (fn_ok E2 F_need_something sc_need_something k_need_something (s_some T2.sg (by rfl) (by rfl))) (Nat.le_refl _) F_need_something.kp b_need_something
  have D_law_power : FnD (B0 P w K mg base) 3 spPower "_law_power" := FnD.mk1 g_law_power (fn_ok E2 F_law_power sc_law_power k_law_power (s_power T2.sg (by rfl))) (Nat.le_refl _) F_law_power.kp b_law_power
  have E3 : FnEnv (B0 P w K mg base) T3.sg 3 := Tb.env (List.forall_mem_cons.mpr ⟨D_shrunk.mono (by decide), List.forall_mem_cons.mpr ⟨D_law_pen.mono (by decide), List.forall_mem_cons.mpr ⟨D_law_draw.mono (by decide), List.forall_mem_cons.mpr ⟨D_law_near.mono (by decide), List.forall_mem_cons.mpr ⟨D_law_shrunk.mono (by decide), List.forall_mem_cons.mpr ⟨D_turned.mono (by decide), List.forall_mem_cons.mpr ⟨D_times_of.mono (by decide), List.forall_mem_cons.mpr ⟨D_law_pick.mono (by decide), List.forall_mem_cons.mpr ⟨D_law_may_door.mono (by decide), List.forall_mem_cons.mpr ⟨D_law_drawn_pairs.mono (by decide), List.forall_mem_cons.mpr ⟨D_law_reach.mono (by decide), List.forall_mem_cons.mpr ⟨D_law_after.mono (by decide), List.forall_mem_cons.mpr ⟨D_law_times.mono (by decide), List.forall_mem_cons.mpr ⟨D_law_names.mono (by decide), List.forall_mem_cons.mpr ⟨D_law_with_doors.mono (by decide), List.forall_mem_cons.mpr ⟨D_law_strolled.mono (by decide), List.forall_mem_cons.mpr ⟨D_law_ringed.mono (by decide), List.forall_mem_cons.mpr ⟨D_need_closed.mono (by decide), List.forall_mem_cons.mpr ⟨D_behind.mono (by decide), List.forall_mem_cons.mpr ⟨D_need_something.mono (by decide), List.forall_mem_cons.mpr ⟨D_law_power.mono (by decide), fun _ h => nomatch h⟩⟩⟩⟩⟩⟩⟩⟩⟩⟩⟩⟩⟩⟩⟩⟩⟩⟩⟩⟩⟩) (fun _ h => nomatch h) (fun _ h => nomatch h) (fun _ h => nomatch h) (fun _ h => nomatch h) bu' (List.forall_mem_cons.mpr ⟨xc_NotClosed 3 (by decide), List.forall_mem_cons.mpr ⟨xc_Apart 3 (by decide), List.forall_mem_cons.mpr ⟨xc_Nothing 3 (by decide), fun _ h => nomatch h⟩⟩⟩) (List.forall_mem_cons.mpr ⟨s_NotClosed_NotClosed, List.forall_mem_cons.mpr ⟨s_NotClosed_ValueError, List.forall_mem_cons.mpr ⟨s_NotClosed_Nothing, List.forall_mem_cons.mpr ⟨s_NotClosed_Apart, List.forall_mem_cons.mpr ⟨s_Nothing_Nothing, List.forall_mem_cons.mpr ⟨s_Nothing_ValueError, List.forall_mem_cons.mpr ⟨s_Nothing_NotClosed, List.forall_mem_cons.mpr ⟨s_Nothing_Apart, fun _ h => nomatch h⟩⟩⟩⟩⟩⟩⟩⟩)
  have D_law_yard : FnD (B0 P w K mg base) 4 spYard "_law_yard" := FnD.mk1 g_law_yard (fn_ok E3 F_law_yard sc_law_yard k_law_yard (s_yard T3.sg (by rfl) (by rfl) (by rfl) (by rfl))) (Nat.le_refl _) F_law_yard.kp b_law_yard
  have D_law_closed : FnD (B0 P w K mg base) 4 spClosed "_law_closed" := FnD.mk1 g_law_closed (fn_ok E3 F_law_closed sc_law_closed k_law_closed (s_closed T3.sg (by rfl) (by rfl) (by rfl) (by rfl))) (Nat.le_refl _) F_law_closed.kp b_law_closed
  have D_core : FnD (B0 P w K mg base) 4 spCore "core" := FnD.mk1 g_core (fn_ok E3 F_core sc_core k_core (s_core T3.sg (by rfl) (by rfl))) (Nat.le_refl _) F_core.kp b_core
  have E4 : FnEnv (B0 P w K mg base) T4.sg 4 := Tb.env (List.forall_mem_cons.mpr ⟨D_shrunk.mono (by decide), List.forall_mem_cons.mpr ⟨D_law_pen.mono (by decide), List.forall_mem_cons.mpr ⟨D_law_draw.mono (by decide), List.forall_mem_cons.mpr ⟨D_law_near.mono (by decide), List.forall_mem_cons.mpr ⟨D_law_shrunk.mono (by decide), List.forall_mem_cons.mpr ⟨D_turned.mono (by decide), List.forall_mem_cons.mpr ⟨D_times_of.mono (by decide), List.forall_mem_cons.mpr ⟨D_law_pick.mono (by decide), List.forall_mem_cons.mpr ⟨D_law_may_door.mono (by decide), List.forall_mem_cons.mpr ⟨D_law_drawn_pairs.mono (by decide), List.forall_mem_cons.mpr ⟨D_law_reach.mono (by decide), List.forall_mem_cons.mpr ⟨D_law_after.mono (by decide), List.forall_mem_cons.mpr ⟨D_law_times.mono (by decide), List.forall_mem_cons.mpr ⟨D_law_names.mono (by decide), List.forall_mem_cons.mpr ⟨D_law_with_doors.mono (by decide), List.forall_mem_cons.mpr ⟨D_law_strolled.mono (by decide), List.forall_mem_cons.mpr ⟨D_law_ringed.mono (by decide), List.forall_mem_cons.mpr ⟨D_need_closed.mono (by decide), List.forall_mem_cons.mpr ⟨D_behind.mono (by decide), List.forall_mem_cons.mpr ⟨D_need_something.mono (by decide), List.forall_mem_cons.mpr ⟨D_law_power.mono (by decide), List.forall_mem_cons.mpr ⟨D_law_yard.mono (by decide), List.forall_mem_cons.mpr ⟨D_law_closed.mono (by decide), List.forall_mem_cons.mpr ⟨D_core.mono (by decide), fun _ h => nomatch h⟩⟩⟩⟩⟩⟩⟩⟩⟩⟩⟩⟩⟩⟩⟩⟩⟩⟩⟩⟩⟩⟩⟩⟩) (fun _ h => nomatch h) (fun _ h => nomatch h) (fun _ h => nomatch h) (fun _ h => nomatch h) bu' (List.forall_mem_cons.mpr ⟨xc_NotClosed 4 (by decide), List.forall_mem_cons.mpr ⟨xc_Apart 4 (by decide), List.forall_mem_cons.mpr ⟨xc_Nothing 4 (by decide), fun _ h => nomatch h⟩⟩⟩) (List.forall_mem_cons.mpr ⟨s_NotClosed_NotClosed, List.forall_mem_cons.mpr ⟨s_NotClosed_ValueError, List.forall_mem_cons.mpr ⟨s_NotClosed_Nothing, List.forall_mem_cons.mpr ⟨s_NotClosed_Apart, List.forall_mem_cons.mpr ⟨s_Nothing_Nothing, List.forall_mem_cons.mpr ⟨s_Nothing_ValueError, List.forall_mem_cons.mpr ⟨s_Nothing_NotClosed, List.forall_mem_cons.mpr ⟨s_Nothing_Apart, fun _ h => nomatch h⟩⟩⟩⟩⟩⟩⟩⟩)
  have D_root : FnD (B0 P w K mg base) 5 spRoot "root" := FnD.mk1 g_root (fn_ok E4 F_root sc_root k_root (s_root T4.sg (by rfl) (by rfl) (by rfl) (by rfl) (by rfl))) (Nat.le_refl _) F_root.kp b_root
  have E5 : FnEnv (B0 P w K mg base) T5.sg 5 := Tb.env (List.forall_mem_cons.mpr ⟨D_shrunk.mono (by decide), List.forall_mem_cons.mpr ⟨D_law_pen.mono (by decide), List.forall_mem_cons.mpr ⟨D_law_draw.mono (by decide), List.forall_mem_cons.mpr ⟨D_law_near.mono (by decide), List.forall_mem_cons.mpr ⟨D_law_shrunk.mono (by decide), List.forall_mem_cons.mpr ⟨D_turned.mono (by decide), List.forall_mem_cons.mpr ⟨D_times_of.mono (by decide), List.forall_mem_cons.mpr ⟨D_law_pick.mono (by decide), List.forall_mem_cons.mpr ⟨D_law_may_door.mono (by decide), List.forall_mem_cons.mpr ⟨D_law_drawn_pairs.mono (by decide), List.forall_mem_cons.mpr ⟨D_law_reach.mono (by decide), List.forall_mem_cons.mpr ⟨D_law_after.mono (by decide), List.forall_mem_cons.mpr ⟨D_law_times.mono (by decide), List.forall_mem_cons.mpr ⟨D_law_names.mono (by decide), List.forall_mem_cons.mpr ⟨D_law_with_doors.mono (by decide), List.forall_mem_cons.mpr ⟨D_law_strolled.mono (by decide), List.forall_mem_cons.mpr ⟨D_law_ringed.mono (by decide), List.forall_mem_cons.mpr ⟨D_need_closed.mono (by decide), List.forall_mem_cons.mpr ⟨D_behind.mono (by decide), List.forall_mem_cons.mpr ⟨D_need_something.mono (by decide), List.forall_mem_cons.mpr ⟨D_law_power.mono (by decide), List.forall_mem_cons.mpr ⟨D_law_yard.mono (by decide), List.forall_mem_cons.mpr ⟨D_law_closed.mono (by decide), List.forall_mem_cons.mpr ⟨D_core.mono (by decide), List.forall_mem_cons.mpr ⟨D_root.mono (by decide), fun _ h => nomatch h⟩⟩⟩⟩⟩⟩⟩⟩⟩⟩⟩⟩⟩⟩⟩⟩⟩⟩⟩⟩⟩⟩⟩⟩⟩) (fun _ h => nomatch h) (fun _ h => nomatch h) (fun _ h => nomatch h) (fun _ h => nomatch h) bu' (List.forall_mem_cons.mpr ⟨xc_NotClosed 5 (by decide), List.forall_mem_cons.mpr ⟨xc_Apart 5 (by decide), List.forall_mem_cons.mpr ⟨xc_Nothing 5 (by decide), fun _ h => nomatch h⟩⟩⟩) (List.forall_mem_cons.mpr ⟨s_NotClosed_NotClosed, List.forall_mem_cons.mpr ⟨s_NotClosed_ValueError, List.forall_mem_cons.mpr ⟨s_NotClosed_Nothing, List.forall_mem_cons.mpr ⟨s_NotClosed_Apart, List.forall_mem_cons.mpr ⟨s_Nothing_Nothing, List.forall_mem_cons.mpr ⟨s_Nothing_ValueError, List.forall_mem_cons.mpr ⟨s_Nothing_NotClosed, List.forall_mem_cons.mpr ⟨s_Nothing_Apart, fun _ h => nomatch h⟩⟩⟩⟩⟩⟩⟩⟩)
  have D_law_told : FnD (B0 P w K mg base) 6 spTold "_law_told" := FnD.mk1 g_law_told (fn_ok E5 F_law_told sc_law_told k_law_told (s_told T5.sg (by rfl) (by rfl) (by rfl) (by rfl) (by rfl) (by rfl) (by rfl) (by rfl) (by rfl) (by rfl) (by rfl))) (Nat.le_refl _) F_law_told.kp b_law_told
  have E6 : FnEnv (B0 P w K mg base) T6.sg 6 := Tb.env (List.forall_mem_cons.mpr ⟨D_shrunk.mono (by decide), List.forall_mem_cons.mpr ⟨D_law_pen.mono (by decide), List.forall_mem_cons.mpr ⟨D_law_draw.mono (by decide), List.forall_mem_cons.mpr ⟨D_law_near.mono (by decide), List.forall_mem_cons.mpr ⟨D_law_shrunk.mono (by decide), List.forall_mem_cons.mpr ⟨D_turned.mono (by decide), List.forall_mem_cons.mpr ⟨D_times_of.mono (by decide), List.forall_mem_cons.mpr ⟨D_law_pick.mono (by decide), List.forall_mem_cons.mpr ⟨D_law_may_door.mono (by decide), List.forall_mem_cons.mpr ⟨D_law_drawn_pairs.mono (by decide), List.forall_mem_cons.mpr ⟨D_law_reach.mono (by decide), List.forall_mem_cons.mpr ⟨D_law_after.mono (by decide), List.forall_mem_cons.mpr ⟨D_law_times.mono (by decide), List.forall_mem_cons.mpr ⟨D_law_names.mono (by decide), List.forall_mem_cons.mpr ⟨D_law_with_doors.mono (by decide), List.forall_mem_cons.mpr ⟨D_law_strolled.mono (by decide), List.forall_mem_cons.mpr ⟨D_law_ringed.mono (by decide), List.forall_mem_cons.mpr ⟨D_need_closed.mono (by decide), List.forall_mem_cons.mpr ⟨D_behind.mono (by decide), List.forall_mem_cons.mpr ⟨D_need_something.mono (by decide), List.forall_mem_cons.mpr ⟨D_law_power.mono (by decide), List.forall_mem_cons.mpr ⟨D_law_yard.mono (by decide), List.forall_mem_cons.mpr ⟨D_law_closed.mono (by decide), List.forall_mem_cons.mpr ⟨D_core.mono (by decide), List.forall_mem_cons.mpr ⟨D_root.mono (by decide), List.forall_mem_cons.mpr ⟨D_law_told.mono (by decide), fun _ h => nomatch h⟩⟩⟩⟩⟩⟩⟩⟩⟩⟩⟩⟩⟩⟩⟩⟩⟩⟩⟩⟩⟩⟩⟩⟩⟩⟩) (fun _ h => nomatch h) (fun _ h => nomatch h) (fun _ h => nomatch h) (fun _ h => nomatch h) bu' (List.forall_mem_cons.mpr ⟨xc_NotClosed 6 (by decide), List.forall_mem_cons.mpr ⟨xc_Apart 6 (by decide), List.forall_mem_cons.mpr ⟨xc_Nothing 6 (by decide), fun _ h => nomatch h⟩⟩⟩) (List.forall_mem_cons.mpr ⟨s_NotClosed_NotClosed, List.forall_mem_cons.mpr ⟨s_NotClosed_ValueError, List.forall_mem_cons.mpr ⟨s_NotClosed_Nothing, List.forall_mem_cons.mpr ⟨s_NotClosed_Apart, List.forall_mem_cons.mpr ⟨s_Nothing_Nothing, List.forall_mem_cons.mpr ⟨s_Nothing_ValueError, List.forall_mem_cons.mpr ⟨s_Nothing_NotClosed, List.forall_mem_cons.mpr ⟨s_Nothing_Apart, fun _ h => nomatch h⟩⟩⟩⟩⟩⟩⟩⟩)
  exact law_ok (fn_ok E6 F_law sc_law k_law (s_law T6.sg (by rfl) (by rfl) (by rfl) (by rfl) (by rfl) (by rfl) (by rfl) (by rfl) (by rfl) (by rfl)))
end
abbrev R : PySem.W.OpenRow := PySem.W.OpenLaw.row PySem.Challenge.rw_tautropes_k09_roots
abbrev hk : PySem.W.Hook := hookE 4 ck fn
def ob (s : PySem.W.SharedT) : He.AlD := obsEG 4 ck fn (HandSHeadRun.getT s)
theorem ob_eq (s : PySem.W.SharedT) : ob s = hk.obs s.abs := obsEG_eq (HandSHeadRun.getT_eq s)
def loose : List Str := ["__name__", "Apart", "NotClosed", "Nothing", "shrunk", "turned", "behind", "need_closed", "core", "times_of", "need_something", "root", "_law_pen", "_law_draw", "_law_pick", "_law_names", "_law_near", "_law_may_door", "_law_with_doors", "_law_drawn_pairs", "_law_yard", "_law_shrunk", "_law_after", "_law_strolled", "_law_reach", "_law_ringed", "_law_closed", "_law_times", "_law_power", "_law_told"]
theorem run (w : World) : HandSHeadRun.RunEq R (PySem.W.view R.prog [33]) hk ob 4000 loose w := by
  intro os
  kernel_rfl
end K09
open PySem PySem.W PySem.Calls PyProof.Rows
set_option maxRecDepth 100000 in
set_option maxHeartbeats 0 in
theorem PySem.Challenge.cw_tautropes_k09_roots_holds : PySem.Challenge.rw_tautropes_k09_roots.Holds := by
  w_on; o_law
  refine HandSHeadRun.head_any (r := OpenLaw.row PySem.Challenge.rw_tautropes_k09_roots) (q := view (OpenLaw.row PySem.Challenge.rw_tautropes_k09_roots).prog [33]) (H := K09.hk) (ob := K09.ob) (M := 4000) (loose := K09.loose) (d := HandSHeadRun.topDef (OpenLaw.row PySem.Challenge.rw_tautropes_k09_roots).prog 33) (kwd := []) K09.ob_eq
    (by kernel_rfl) (fun s => by kernel_rfl) K09.run (by kernel_rfl) (by kernel_rfl) (by kernel_rfl) (by rfl) (by first | assumption | decide +kernel) (by decide +kernel) ⟨rfl, rfl, rfl, rfl, rfl, by decide +kernel⟩ ?hw ?hc
  case hw => w_witness2
  case hc =>
    refine DL.walk_g (l := PySem.Challenge.rw_tautropes_k09_roots) (n := 63) (k := 7) (x := "_law_script") rfl (by decide) (by kernel_rfl) ⟨rfl, by decide, by decide⟩ ?F
    intro w mg fa h Y G hmg0
    obtain ⟨K, KX, c⟩ := Y
    have hmg : mg ("law" : PySem.Str) = some (.ref fa) := by
      have e : (HandSHeadRun.topDef (OpenLaw.row PySem.Challenge.rw_tautropes_k09_roots).prog 33).name = ("law" : PySem.Str) := by kernel_rfl
      rw [← e]
      exact hmg0
    obtain ⟨fd, hb, hF⟩ := K09.facts (P := (PySem.Challenge.rw_tautropes_k09_roots).prog) (w := w) KX G hmg c
    exact ⟨K, fd, DL.lawSpV K 63, KX, hb, fun H a ns hl _ hS => ⟨a, ns, rfl, hS, hl, fun _ => rfl⟩, hF⟩

