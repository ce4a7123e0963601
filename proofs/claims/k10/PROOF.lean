import PyProof.Rows.All
import Wide.All
import OpenK.AllK
import Wide.FinOn
import HandS.ForMost
import HandS.Exc
import HandS.ExcOwn
import HandS.HeadHook2
import HandS.Defaults
import HandS.IsInst
import HandS.StrMore
import HandS.RevRange
import HandS.HotCalls
import HandS.ExcIs
import KE.KExcIs
import HandS.Base
import HandS.Call
import HandS.Ends
import HandS.More
import HandS.Words
import HandS.WordsExc
import HandS.Head0
import HandS.Head1
import HandS.Head2
import HandS.HeadEnd
import HandS.HeadHook1
import KE.KStateDown
import HandS.WideBits
import KE.BitLaws
import HandS.Text
import PyProof.Rows.StrLast
import PyProof.Rows.StrFirst
import PyProof.EnumMake
import PyProof.Draws
import HandS.Iter
import HandS.Replace
import HandS.Codes
import HandS.TupAny
import HandS.ExcInit
import HandS.List
import HandS.CallSlots
import HandS.ExcField
import PyProof.ListStr
import HandS.Set
import HandS.SetFor
import HandS.Strs
import HandS.Zip
import PyProof.Rows.SeqMore
import PyProof.Rows.StrJoinRep
import PySem.Challenge.RW_leafhouse_k10_whole_shelves_alike
set_option Elab.async false
set_option linter.all false
set_option maxRecDepth 100000
set_option maxHeartbeats 2000000
/-! LF1: plain data, the arena, what ties them to the layer's values and abstract heap. -/
namespace LF
open PySem PySem.Spec PyProof.Rows L2

/-- plain data -/
inductive D where
  | non | bl (b : Bool) | int (i : Int) | str (x : Str)
  | tup (ds : List D) | lst (ds : List D) | dic (ks : List Key) (ds : List D)
  | obj (i : Nat)
  | exc (c : Str) (ns : List Str) (ds : List D)
  | ins (c : Str) (ns : List Str) (ds : List D)
/-- what may change: in the arena -/
inductive MO where
  | lst (ds : List D) | dic (kvs : List (Key × D)) | ins (c : Str) (fs : List (Str × D)) | ro (ds : List D) | fz (kvs : List (Key × D))
abbrev Mem := List MO
abbrev Env' := List (Option D)
abbrev Frg := PySem.W.Frag

/-- the arena's places; places that are under construction (nothing may stand for them) -/
structure Wd where
  ar : List Addr
  lk : List Addr
abbrev Wd.out (w : Wd) (a : Addr) : Prop := a ∉ w.ar ∧ a ∉ w.lk
/-- an exception object -/
def IsX (a C : Addr) (dd : Option Addr) : Heap → Prop := fun h => ∃ o vs, h.get? a = some o ∧ o.cls = .ref C ∧ o.dict = dd ∧ o.data = .fields vs
/-- a list, a tuple that is not in the arena -/
def StL (K : Frg) (φ : Wd) (H : Hp) (a : Addr) (xs : List V) : Prop :=
  (φ.out a ∧ Rd H a (.lst xs)) ∨ ∃ (o : Obj) (its : Array Value) (n : Nat), K.lookup a = some o ∧ o.cls = .type "list" ∧ o.dict = none ∧ o.data = .seq its n ∧ its.size ≤ sizeLine ∧ Vals xs its.toList
def StT (K : Frg) (φ : Wd) (H : Hp) (a : Addr) (xs : List V) : Prop :=
  (φ.out a ∧ Rd H a (.tup xs)) ∨ ∃ (o : Obj) (its : Array Value) (n : Nat), K.lookup a = some o ∧ o.cls = .type "tuple" ∧ o.data = .seq its n ∧ its.size ≤ sizeLine ∧ Vals xs its.toList
theorem StL.sq {K : Frg} {φ : Wd} {H : Hp} {a : Addr} {xs : List V} (h : StL K φ H a xs) : SqL K H a xs := by
  rcases h with ⟨_, h⟩ | h
  · exact .inl h
  · exact .inr h
theorem StT.sq {K : Frg} {φ : Wd} {H : Hp} {a : Addr} {xs : List V} (h : StT K φ H a xs) : SqT K H a xs := by
  rcases h with ⟨_, h⟩ | h
  · exact .inl h
  · exact .inr h

mutual
/-- v stands for d -/
def Rep (K : Frg) (φ : Wd) (H : Hp) : D → V → Prop
  | .non, v => v = .non
  | .bl b, v => v = .bl b
  | .int i, v => v = .int i
  | .str x, v => v = .str x
  | .tup ds, v => ∃ a xs, v = .ref a ∧ StT K φ H a xs ∧ RepL K φ H ds xs
  | .lst ds, v => ∃ a xs, v = .ref a ∧ StL K φ H a xs ∧ RepL K φ H ds xs
  | .dic ks ds, v => ∃ a kv, v = .ref a ∧ φ.out a ∧ H a = some (.dK kv) ∧ kv.map (·.1) = ks ∧ RepL K φ H ds (kv.map (·.2))
  | .obj i, v => ∃ a, φ.ar[i]? = some a ∧ v = .ref a
  | .exc c ns ds, v => ∃ a dd, v = .ref a ∧ φ.out a ∧ H a = some (.ext (IsX a (He.ga K c) dd)) ∧ ∃ fv, ((dd = none ∧ fv = []) ∨ ∃ d, dd = some d ∧ φ.out d ∧ H d = some (.xd fv)) ∧ fv.map (·.1) = ns ∧ RepL K φ H ds (fv.map (·.2))
  | .ins c ns ds, v => ∃ a dx fv, v = .ref a ∧ φ.out a ∧ H a = some (.ins (He.ga K c) dx fv) ∧ fv.map (·.1) = ns ∧ RepL K φ H ds (fv.map (·.2))
def RepL (K : Frg) (φ : Wd) (H : Hp) : List D → List V → Prop
  | [], vs => vs = []
  | d :: ds, vs => ∃ v r, vs = v :: r ∧ Rep K φ H d v ∧ RepL K φ H ds r
end

/-- how a state may go on: new arena objects stand at new places; all that is not in the arena stays -/
structure Grow (φ : Wd) (H : Hp) (φ' : Wd) (H' : Hp) : Prop where
  ext : ∃ ψ, φ'.ar = φ.ar ++ ψ ∧ ∀ a ∈ ψ, H a = none
  lk : φ'.lk = φ.lk
  stay : ∀ a o, H a = some o → a ∉ φ.ar → H' a = some o
  dom : ∀ a, H' a = none → H a = none
  frz : ∀ a o u, H a = some (.frz o u) → H' a = some (.frz o u)
theorem Grow.refl {φ : Wd} {H : Hp} : Grow φ H φ H := ⟨⟨[], by simp, by simp⟩, rfl, fun _ _ h _ => h, fun _ h => h, fun _ _ _ h => h⟩
theorem Grow.notin {φ φ' : Wd} {H H' : Hp} (g : Grow φ H φ' H') {a : Addr} {o : HO} (h : H a = some o) (n : a ∉ φ.ar) : a ∉ φ'.ar := by
  obtain ⟨⟨ψ, e, hψ⟩, _, _, _, _⟩ := g
  intro hm
  rw [e] at hm
  rcases List.mem_append.mp hm with q | q
  · exact n q
  · rw [hψ a q] at h; cases h
theorem Grow.out {φ φ' : Wd} {H H' : Hp} (g : Grow φ H φ' H') {a : Addr} {o : HO} (h : H a = some o) (n : φ.out a) : φ'.out a := ⟨g.notin h n.1, by rw [g.lk]; exact n.2⟩
theorem Grow.trans {φ φ1 φ2 : Wd} {H H1 H2 : Hp} (g : Grow φ H φ1 H1) (k : Grow φ1 H1 φ2 H2) : Grow φ H φ2 H2 := by
  refine ⟨?_, k.lk.trans g.lk, fun a o h n => k.stay a o (g.stay a o h n) (g.notin h n), fun a h => g.dom a (k.dom a h), fun a o u h => k.frz a o u (g.frz a o u h)⟩
  obtain ⟨ψ, e, hψ⟩ := g.ext
  obtain ⟨χ, e2, hχ⟩ := k.ext
  refine ⟨ψ ++ χ, by rw [e2, e, List.append_assoc], fun a ha => ?_⟩
  rcases List.mem_append.mp ha with q | q
  · exact hψ a q
  · exact g.dom a (hχ a q)
theorem Grow.get {φ φ' : Wd} {H H' : Hp} (g : Grow φ H φ' H') {i : Nat} {a : Addr} (h : φ.ar[i]? = some a) : φ'.ar[i]? = some a := by
  obtain ⟨ψ, e, _⟩ := g.ext
  rw [e, List.getElem?_append_left (List.getElem?_eq_some_iff.mp h).1]; exact h
/-- what keeps a standing-for -/
structure Mo (φ : Wd) (H : Hp) (φ' : Wd) (H' : Hp) : Prop where
  out : ∀ a u, φ.out a → H a = some u → φ'.out a ∧ H' a = some u
  get : ∀ (i : Nat) (a : Addr), φ.ar[i]? = some a → φ'.ar[i]? = some a
theorem Grow.mo {φ φ' : Wd} {H H' : Hp} (g : Grow φ H φ' H') : Mo φ H φ' H' := ⟨fun a u n h => ⟨g.out h n, g.stay _ _ h n.1⟩, fun _ _ h => g.get h⟩
theorem Mo.rd {φ φ' : Wd} {H H' : Hp} (g : Mo φ H φ' H') {a : Addr} {u : HO} (n : φ.out a) (h : Rd H a u) : φ'.out a ∧ Rd H' a u := by
  rcases h with h | ⟨o, h⟩
  · exact ⟨(g.out _ _ n h).1, .inl (g.out _ _ n h).2⟩
  · exact ⟨(g.out _ _ n h).1, .inr ⟨o, (g.out _ _ n h).2⟩⟩
theorem StL.mo {K : Frg} {φ φ' : Wd} {H H' : Hp} (g : Mo φ H φ' H') {a : Addr} {xs : List V} (h : StL K φ H a xs) : StL K φ' H' a xs := by
  rcases h with ⟨n, h⟩ | h
  · exact .inl (g.rd n h)
  · exact .inr h
theorem StT.mo {K : Frg} {φ φ' : Wd} {H H' : Hp} (g : Mo φ H φ' H') {a : Addr} {xs : List V} (h : StT K φ H a xs) : StT K φ' H' a xs := by
  rcases h with ⟨n, h⟩ | h
  · exact .inl (g.rd n h)
  · exact .inr h
section
variable {K : Frg} {φ φ' : Wd} {H H' : Hp}
mutual
theorem Rep.mo (g : Mo φ H φ' H') : ∀ (d : D) (v : V), Rep K φ H d v → Rep K φ' H' d v
  | .non, _, h => h
  | .bl _, _, h => h
  | .int _, _, h => h
  | .str _, _, h => h
  | .tup ds, v, h => by
    unfold Rep at h ⊢
    obtain ⟨a, xs, e, h1, h2⟩ := h
    exact ⟨a, xs, e, h1.mo g, RepL.mo g ds xs h2⟩
  | .lst ds, v, h => by
    unfold Rep at h ⊢
    obtain ⟨a, xs, e, h1, h2⟩ := h
    exact ⟨a, xs, e, h1.mo g, RepL.mo g ds xs h2⟩
  | .dic ks ds, v, h => by
    unfold Rep at h ⊢
    obtain ⟨a, kv, e, n, h1, h2, h3⟩ := h
    exact ⟨a, kv, e, (g.out _ _ n h1).1, (g.out _ _ n h1).2, h2, RepL.mo g ds _ h3⟩
  | .obj i, v, h => by
    unfold Rep at h ⊢
    obtain ⟨a, h1, h2⟩ := h
    exact ⟨a, g.get _ _ h1, h2⟩
  | .exc c ns ds, v, h => by
    unfold Rep at h ⊢
    obtain ⟨a, dd, e, n, h1, fv, h2, h3, h4⟩ := h
    refine ⟨a, dd, e, (g.out _ _ n h1).1, (g.out _ _ n h1).2, fv, ?_, h3, RepL.mo g ds _ h4⟩
    rcases h2 with h2 | ⟨d, h5, h6, h7⟩
    · exact .inl h2
    · exact .inr ⟨d, h5, (g.out _ _ h6 h7).1, (g.out _ _ h6 h7).2⟩
  | .ins c ns ds, v, h => by
    unfold Rep at h ⊢
    obtain ⟨a, dx, fv, e, n, h1, h2, h3⟩ := h
    exact ⟨a, dx, fv, e, (g.out _ _ n h1).1, (g.out _ _ n h1).2, h2, RepL.mo g ds _ h3⟩
theorem RepL.mo (g : Mo φ H φ' H') : ∀ (ds : List D) (vs : List V), RepL K φ H ds vs → RepL K φ' H' ds vs
  | [], _, h => h
  | d :: ds, vs, h => by
    unfold RepL at h ⊢
    obtain ⟨v, r, e, h1, h2⟩ := h
    exact ⟨v, r, e, Rep.mo g d v h1, RepL.mo g ds r h2⟩
end
theorem Rep.grow (g : Grow φ H φ' H') (d : D) (v : V) (h : Rep K φ H d v) : Rep K φ' H' d v := Rep.mo g.mo d v h
theorem RepL.grow (g : Grow φ H φ' H') (ds : List D) (vs : List V) (h : RepL K φ H ds vs) : RepL K φ' H' ds vs := RepL.mo g.mo ds vs h
theorem RepL.nil : RepL K φ H [] [] := by unfold RepL; rfl
theorem RepL.cons {d : D} {v : V} {ds : List D} {vs : List V} (h : Rep K φ H d v) (t : RepL K φ H ds vs) : RepL K φ H (d :: ds) (v :: vs) := by
  unfold RepL; exact ⟨v, vs, rfl, h, t⟩
theorem RepL.inv {d : D} {ds : List D} {vs : List V} (h : RepL K φ H (d :: ds) vs) : ∃ v r, vs = v :: r ∧ Rep K φ H d v ∧ RepL K φ H ds r := by
  unfold RepL at h; exact h
theorem RepL.inv0 {vs : List V} (h : RepL K φ H [] vs) : vs = [] := by
  unfold RepL at h; exact h
theorem RepL.len : ∀ {ds : List D} {vs : List V}, RepL K φ H ds vs → vs.length = ds.length
  | [], vs, h => by rw [h.inv0]; rfl
  | d :: ds, vs, h => by
    obtain ⟨v, r, rfl, _, h2⟩ := h.inv
    simp [RepL.len h2]
theorem RepL.get : ∀ {ds : List D} {vs : List V} {i : Nat} {d : D}, RepL K φ H ds vs → ds[i]? = some d → ∃ v, vs[i]? = some v ∧ Rep K φ H d v
  | [], _, _, _, _, e => by simp at e
  | d :: ds, vs, 0, x, h, e => by
    obtain ⟨v, r, rfl, h1, _⟩ := h.inv
    simp at e; subst e
    exact ⟨v, by simp, h1⟩
  | d :: ds, vs, i + 1, x, h, e => by
    obtain ⟨v, r, rfl, _, h2⟩ := h.inv
    obtain ⟨w, e1, e2⟩ := RepL.get (i := i) (d := x) h2 (by simpa using e)
    exact ⟨w, by simpa using e1, e2⟩
theorem RepL.got : ∀ {ds : List D} {vs : List V} {i : Nat} {v : V}, RepL K φ H ds vs → vs[i]? = some v → ∃ d, ds[i]? = some d ∧ Rep K φ H d v
  | [], vs, i, v, h, e => by rw [h.inv0] at e; simp at e
  | d :: ds, vs, 0, x, h, e => by
    obtain ⟨v, r, rfl, h1, _⟩ := h.inv
    simp at e; subst e
    exact ⟨d, by simp, h1⟩
  | d :: ds, vs, i + 1, x, h, e => by
    obtain ⟨v, r, rfl, _, h2⟩ := h.inv
    obtain ⟨w, e1, e2⟩ := RepL.got (i := i) (v := x) h2 (by simpa using e)
    exact ⟨w, by simpa using e1, e2⟩
theorem RepL.app : ∀ {ds es : List D} {vs ws : List V}, RepL K φ H ds vs → RepL K φ H es ws → RepL K φ H (ds ++ es) (vs ++ ws)
  | [], _, vs, _, h, k => by rw [h.inv0]; exact k
  | d :: ds, es, vs, ws, h, k => by
    obtain ⟨v, r, rfl, h1, h2⟩ := h.inv
    exact .cons h1 (RepL.app h2 k)
theorem RepL.take : ∀ {ds : List D} {vs : List V} (n : Nat), RepL K φ H ds vs → RepL K φ H (ds.take n) (vs.take n)
  | _, _, 0, _ => by simp [RepL.nil]
  | [], vs, n + 1, h => by rw [h.inv0]; simp [RepL.nil]
  | d :: ds, vs, n + 1, h => by
    obtain ⟨v, r, rfl, h1, h2⟩ := h.inv
    exact .cons h1 (RepL.take n h2)
theorem RepL.drop : ∀ {ds : List D} {vs : List V} (n : Nat), RepL K φ H ds vs → RepL K φ H (ds.drop n) (vs.drop n)
  | _, _, 0, h => by simpa using h
  | [], vs, n + 1, h => by rw [h.inv0]; simp [RepL.nil]
  | d :: ds, vs, n + 1, h => by
    obtain ⟨v, r, rfl, h1, h2⟩ := h.inv
    simpa using RepL.drop n h2
theorem RepL.setAt : ∀ {ds : List D} {vs : List V} {d : D} {v : V} (n : Nat), RepL K φ H ds vs → Rep K φ H d v → RepL K φ H (ds.set n d) (vs.set n v)
  | [], vs, _, _, n, h, _ => by rw [h.inv0]; simp [RepL.nil]
  | e :: ds, vs, d, v, 0, h, k => by
    obtain ⟨w, r, rfl, h1, h2⟩ := h.inv
    exact .cons k h2
  | e :: ds, vs, d, v, n + 1, h, k => by
    obtain ⟨w, r, rfl, h1, h2⟩ := h.inv
    exact .cons h1 (RepL.setAt n h2 k)
theorem RepL.rev {ds : List D} {vs : List V} (h : RepL K φ H ds vs) : RepL K φ H ds.reverse vs.reverse := by
  induction ds generalizing vs with
  | nil => rw [h.inv0]; exact .nil
  | cons d ds ih =>
    obtain ⟨v, r, rfl, h1, h2⟩ := h.inv
    rw [List.reverse_cons, List.reverse_cons]
    exact (ih h2).app (.cons h1 .nil)
end

/-- pairs: keys as they are, values stand for data -/
def RepK {κ : Type} (K : Frg) (φ : Wd) (H : Hp) : List (κ × D) → List (κ × V) → Prop
  | [], l => l = []
  | (k, d) :: r, l => ∃ v l', l = (k, v) :: l' ∧ Rep K φ H d v ∧ RepK K φ H r l'
section
variable {κ : Type} {K : Frg} {φ φ' : Wd} {H H' : Hp}
theorem RepK.nil : RepK K φ H ([] : List (κ × D)) [] := rfl
theorem RepK.cons {k : κ} {d : D} {v : V} {r : List (κ × D)} {l : List (κ × V)} (h : Rep K φ H d v) (t : RepK K φ H r l) : RepK K φ H ((k, d) :: r) ((k, v) :: l) := ⟨v, l, rfl, h, t⟩
theorem RepK.mo (g : Mo φ H φ' H') : ∀ {r : List (κ × D)} {l : List (κ × V)}, RepK K φ H r l → RepK K φ' H' r l
  | [], _, h => h
  | (k, d) :: r, _, ⟨v, l', e, h1, h2⟩ => ⟨v, l', e, Rep.mo g d v h1, RepK.mo g h2⟩
theorem RepK.len : ∀ {r : List (κ × D)} {l : List (κ × V)}, RepK K φ H r l → l.length = r.length
  | [], _, h => by
    have h : _ = [] := h
    rw [h]; rfl
  | (k, d) :: r, _, ⟨v, l', e, _, h2⟩ => by rw [e]; simp [RepK.len h2]
theorem RepK.keys : ∀ {r : List (κ × D)} {l : List (κ × V)}, RepK K φ H r l → l.map (·.1) = r.map (·.1)
  | [], _, h => by
    have h : _ = [] := h
    rw [h]; rfl
  | (k, d) :: r, _, ⟨v, l', e, _, h2⟩ => by rw [e]; simp [RepK.keys h2]
theorem RepK.vals : ∀ {r : List (κ × D)} {l : List (κ × V)}, RepK K φ H r l → RepL K φ H (r.map (·.2)) (l.map (·.2))
  | [], _, h => by
    have h : _ = [] := h
    rw [h]; exact .nil
  | (k, d) :: r, _, ⟨v, l', e, h1, h2⟩ => by rw [e]; exact .cons h1 (RepK.vals h2)
theorem RepK.app : ∀ {r r' : List (κ × D)} {l l' : List (κ × V)}, RepK K φ H r l → RepK K φ H r' l' → RepK K φ H (r ++ r') (l ++ l')
  | [], _, _, _, h, k => by
    have h : _ = [] := h
    rw [h]; exact k
  | (x, d) :: r, _, _, _, ⟨v, l', e, h1, h2⟩, k => by rw [e]; exact ⟨v, _, rfl, h1, RepK.app h2 k⟩
variable [DecidableEq κ]
def lookD (kvs : List (κ × D)) (k : κ) : Option D := (kvs.find? fun kv => decide (kv.1 = k)).map (·.2)
def putD (kvs : List (κ × D)) (k : κ) (d : D) : List (κ × D) := if (kvs.any fun kv => decide (kv.1 = k)) = true then kvs.map (fun kv => if kv.1 = k then (kv.1, d) else kv) else kvs ++ [(k, d)]
def dropD (kvs : List (κ × D)) (k : κ) : List (κ × D) := kvs.filter fun kv => decide (kv.1 ≠ k)
theorem RepK.look {k : κ} : ∀ {r : List (κ × D)} {l : List (κ × V)}, RepK K φ H r l → (lookD r k = none → valV l k = none) ∧ ∀ d, lookD r k = some d → ∃ v, valV l k = some v ∧ Rep K φ H d v
  | [], _, h => by
    have h : _ = [] := h
    rw [h]; exact ⟨fun _ => rfl, (fun d e => nomatch e)⟩
  | (x, d) :: r, _, ⟨v, l', e, h1, h2⟩ => by
    rw [e]
    by_cases q : x = k
    · rw [valV_pos (p := (x, v)) q]
      have z : lookD ((x, d) :: r) k = some d := by simp [lookD, List.find?_cons, q]
      rw [z]
      exact ⟨(fun z => nomatch z), fun d' e => ⟨v, rfl, Option.some.inj e ▸ h1⟩⟩
    · rw [valV_neg (p := (x, v)) q]
      have z : lookD ((x, d) :: r) k = lookD r k := by simp [lookD, List.find?_cons, q]
      rw [z]
      exact RepK.look h2
theorem RepK.any {k : κ} : ∀ {r : List (κ × D)} {l : List (κ × V)}, RepK K φ H r l → (l.any fun kv => decide (kv.1 = k)) = (r.any fun kv => decide (kv.1 = k))
  | [], _, h => by
    have h : _ = [] := h
    rw [h]; rfl
  | (x, d) :: r, _, ⟨v, l', e, h1, h2⟩ => by rw [e]; simp only [List.any_cons, RepK.any h2]
theorem RepK.map {k : κ} {d : D} {v : V} (hd : Rep K φ H d v) : ∀ {r : List (κ × D)} {l : List (κ × V)}, RepK K φ H r l → RepK K φ H (r.map fun kv => if kv.1 = k then (kv.1, d) else kv) (l.map fun kv => if kv.1 = k then (kv.1, v) else kv)
  | [], _, h => by
    have h : _ = [] := h
    rw [h]; rfl
  | (x, e) :: r, _, ⟨w, l', q, h1, h2⟩ => by
    rw [q, List.map_cons, List.map_cons]
    by_cases z : x = k
    · rw [if_pos z, if_pos z]; exact ⟨v, _, rfl, hd, RepK.map hd h2⟩
    · rw [if_neg z, if_neg z]; exact ⟨w, _, rfl, h1, RepK.map hd h2⟩
theorem RepK.put {k : κ} {d : D} {v : V} {r : List (κ × D)} {l : List (κ × V)} (h : RepK K φ H r l) (hd : Rep K φ H d v) : RepK K φ H (putD r k d) (putK l k v) := by
  unfold putD putK
  rw [h.any]
  split
  · exact RepK.map hd h
  · exact h.app ⟨v, [], rfl, hd, rfl⟩
theorem RepK.drop {k : κ} : ∀ {r : List (κ × D)} {l : List (κ × V)}, RepK K φ H r l → RepK K φ H (dropD r k) (dropK l k)
  | [], _, h => by
    have h : _ = [] := h
    rw [h]; rfl
  | (x, d) :: r, _, ⟨v, l', e, h1, h2⟩ => by
    rw [e]
    unfold dropD dropK
    by_cases q : x = k
    · rw [List.filter_cons_of_neg (by simp [q]), List.filter_cons_of_neg (by simp [q])]; exact RepK.drop h2
    · rw [List.filter_cons_of_pos (by simp [q]), List.filter_cons_of_pos (by simp [q])]; exact ⟨v, _, rfl, h1, RepK.drop h2⟩
end
/-- an attribute is stored -/
def putFD (f : Str) (d : D) : List (Str × D) → List (Str × D)
  | [] => [(f, d)]
  | (g, x) :: r => if g = f then (g, d) :: r else (g, x) :: putFD f d r
theorem RepK.putF {K : Frg} {φ : Wd} {H : Hp} {f : Str} {d : D} {v : V} (hd : Rep K φ H d v) : ∀ {r : List (Str × D)} {l : List (Str × V)}, RepK K φ H r l → RepK K φ H (putFD f d r) (putF f v l)
  | [], _, h => by
    have h : _ = [] := h
    rw [h]; exact ⟨v, [], rfl, hd, rfl⟩
  | (g, x) :: r, _, ⟨w, l', e, h1, h2⟩ => by
    rw [e]
    simp only [putFD, L2.putF]
    by_cases q : g = f
    · rw [if_pos q, if_pos q]; exact ⟨v, _, rfl, hd, h2⟩
    · rw [if_neg q, if_neg q]; exact ⟨w, _, rfl, h1, RepK.putF hd h2⟩
theorem RepK.lookup {K : Frg} {φ : Wd} {H : Hp} {f : Str} : ∀ {r : List (Str × D)} {l : List (Str × V)}, RepK K φ H r l → (r.lookup f = none → l.lookup f = none) ∧ ∀ d, r.lookup f = some d → ∃ v, l.lookup f = some v ∧ Rep K φ H d v
  | [], _, h => by
    have h : _ = [] := h
    rw [h]; exact ⟨fun _ => rfl, (fun d e => nomatch e)⟩
  | (x, d) :: r, _, ⟨v, l', e, h1, h2⟩ => by
    rw [e]
    rw [List.lookup_cons, List.lookup_cons]
    cases q : f == x with
    | true => exact ⟨(fun z => nomatch z), fun d' e => ⟨v, rfl, Option.some.inj e ▸ h1⟩⟩
    | false => exact RepK.lookup h2
/-- an object of the arena -/
def RepO (K : Frg) (φ : Wd) (H : Hp) (a : Addr) : MO → Prop
  | .lst ds => ∃ xs, H a = some (.lst xs) ∧ RepL K φ H ds xs
  | .dic kvs => ∃ kv, H a = some (.dK kv) ∧ RepK K φ H kvs kv
  | .ins c fs => ∃ dx fv, H a = some (.ins (He.ga K c) dx fv) ∧ RepK K φ H fs fv
  | .ro ds => ∃ xs, Rd H a (.lst xs) ∧ RepL K φ H ds xs
  | .fz kvs => ∃ od kv, H a = some (.frz od (.dK kv)) ∧ RepK K φ H kvs kv
theorem RepO.there {K : Frg} {φ : Wd} {H : Hp} {a : Addr} {mo : MO} (h : RepO K φ H a mo) : H a ≠ none := by
  cases mo with
  | lst ds => obtain ⟨_, e, _⟩ := h; rw [e]; simp
  | dic kvs => obtain ⟨_, e, _⟩ := h; rw [e]; simp
  | ins c fs => obtain ⟨_, _, e, _⟩ := h; rw [e]; simp
  | ro ds =>
    obtain ⟨_, e, _⟩ := h
    rcases e with e | ⟨o, e⟩ <;> (rw [e]; simp)
  | fz kvs => obtain ⟨_, _, e, _⟩ := h; rw [e]; simp
/-- the arena stands in H -/
structure Sto (K : Frg) (φ : Wd) (M : Mem) (H : Hp) : Prop where
  len : φ.ar.length = M.length
  nd : φ.ar.Nodup
  lk : ∀ a ∈ φ.lk, H a ≠ none
  ob : ∀ (i : Nat) (a : Addr) (mo : MO), φ.ar[i]? = some a → M[i]? = some mo → RepO K φ H a mo
theorem Sto.get {K : Frg} {φ : Wd} {M : Mem} {H : Hp} (S : Sto K φ M H) {i : Nat} {mo : MO} (h : M[i]? = some mo) : ∃ a, φ.ar[i]? = some a ∧ RepO K φ H a mo := by
  have hi := (List.getElem?_eq_some_iff.mp h).1
  have hj : i < φ.ar.length := by rw [S.len]; exact hi
  have e : φ.ar[i]? = some (φ.ar[i]'hj) := List.getElem?_eq_getElem hj
  exact ⟨_, e, S.ob i _ mo e h⟩
theorem Sto.mem {K : Frg} {φ : Wd} {M : Mem} {H : Hp} (S : Sto K φ M H) {a : Addr} (h : a ∈ φ.ar) : H a ≠ none := by
  obtain ⟨i, hi, e⟩ := List.mem_iff_getElem.mp h
  have hi' : i < M.length := by rw [← S.len]; exact hi
  exact (S.ob i a M[i] (by rw [List.getElem?_eq_getElem hi, e]) (List.getElem?_eq_getElem hi')).there
theorem Sto.fresh {K : Frg} {φ : Wd} {M : Mem} {H : Hp} (S : Sto K φ M H) {a : Addr} (h : H a = none) : φ.out a := ⟨fun hm => S.mem hm h, fun hm => S.lk a hm h⟩
/-- a new thing outside of the arena -/
theorem Grow.new {φ : Wd} {H : Hp} {p : Addr} {o : HO} (h : H p = none) : Grow φ H φ (upd H p o) := by
  refine ⟨⟨[], by simp, by simp⟩, rfl, fun a u e _ => ?_, fun a e => ?_, fun a ob u e => by rw [upd_ne (ne_of_none e h)]; exact e⟩
  · rw [upd_ne (ne_of_none e h)]; exact e
  · by_cases q : a = p
    · rw [q]; exact h
    · rw [upd_ne q] at e; exact e
theorem RepO.mo {K : Frg} {φ φ' : Wd} {H H' : Hp} (g : Mo φ H φ' H') {a : Addr} {mo : MO} (h : RepO K φ H a mo) (e : H' a = H a) : RepO K φ' H' a mo := by
  cases mo with
  | lst ds => obtain ⟨xs, h1, h2⟩ := h; exact ⟨xs, by rw [e]; exact h1, RepL.mo g _ _ h2⟩
  | dic kvs => obtain ⟨kv, h1, h2⟩ := h; exact ⟨kv, by rw [e]; exact h1, RepK.mo g h2⟩
  | ins c fs => obtain ⟨dx, fv, h1, h2⟩ := h; exact ⟨dx, fv, by rw [e]; exact h1, RepK.mo g h2⟩
  | ro ds =>
    obtain ⟨xs, h1, h2⟩ := h
    refine ⟨xs, ?_, RepL.mo g _ _ h2⟩
    rcases h1 with h1 | ⟨o, h1⟩
    · exact .inl (by rw [e]; exact h1)
    · exact .inr ⟨o, by rw [e]; exact h1⟩
  | fz kvs => obtain ⟨od, kv, h1, h2⟩ := h; exact ⟨od, kv, by rw [e]; exact h1, RepK.mo g h2⟩
theorem RepO.grow {K : Frg} {φ φ' : Wd} {H H' : Hp} (g : Grow φ H φ' H') {a : Addr} {mo : MO} (h : RepO K φ H a mo) (e : H' a = H a) : RepO K φ' H' a mo := h.mo g.mo e
theorem Sto.new {K : Frg} {φ : Wd} {M : Mem} {H : Hp} (S : Sto K φ M H) {p : Addr} {o : HO} (h : H p = none) : Sto K φ M (upd H p o) :=
  ⟨S.len, S.nd, fun a ha z => by
    by_cases q : a = p
    · rw [q, upd_same] at z; cases z
    · rw [upd_ne q] at z; exact S.lk a ha z, fun i a mo e1 e2 => (S.ob i a mo e1 e2).grow (Grow.new h) (upd_ne fun z => by
    have q := S.mem (List.mem_of_getElem? e1)
    rw [z] at q; exact q h)⟩
/-- a new object of the arena -/
abbrev Wd.add (φ : Wd) (p : Addr) : Wd := ⟨φ.ar ++ [p], φ.lk⟩
theorem Grow.alloc {φ : Wd} {H : Hp} {p : Addr} {o : HO} (h : H p = none) : Grow φ H (φ.add p) (upd H p o) := by
  refine ⟨⟨[p], rfl, fun a ha => by rw [List.mem_singleton.mp ha]; exact h⟩, rfl, fun a u e _ => ?_, fun a e => ?_, fun a ob u e => by rw [upd_ne (ne_of_none e h)]; exact e⟩
  · rw [upd_ne (ne_of_none e h)]; exact e
  · by_cases q : a = p
    · rw [q]; exact h
    · rw [upd_ne q] at e; exact e
theorem Sto.alloc {K : Frg} {φ : Wd} {M : Mem} {H : Hp} (S : Sto K φ M H) {p : Addr} {o : HO} {mo : MO} (h : H p = none) (r : RepO K (φ.add p) (upd H p o) p mo) : Sto K (φ.add p) (M ++ [mo]) (upd H p o) := by
  refine ⟨by simp [S.len], ?_, fun a ha z => ?_, fun i a m e1 e2 => ?_⟩
  · refine List.nodup_append.mpr ⟨S.nd, by simp, fun a ha b hb => ?_⟩
    have hb' := List.mem_singleton.mp hb
    intro z
    rw [z, hb'] at ha
    exact (S.fresh h).1 ha
  · by_cases q : a = p
    · rw [q, upd_same] at z; cases z
    · rw [upd_ne q] at z; exact S.lk a ha z
  · have e1 : (φ.ar ++ [p])[i]? = some a := e1
    by_cases hi : i < φ.ar.length
    · rw [List.getElem?_append_left hi] at e1
      rw [List.getElem?_append_left (by rw [← S.len]; exact hi)] at e2
      refine (S.ob i a m e1 e2).grow (Grow.alloc h) (upd_ne fun z => ?_)
      have q := S.mem (List.mem_of_getElem? e1)
      rw [z] at q; exact q h
    · rw [List.getElem?_append_right (by omega)] at e1
      rw [List.getElem?_append_right (by rw [← S.len]; omega), ← S.len] at e2
      cases hk : i - φ.ar.length with
      | zero =>
        rw [hk] at e1 e2
        simp at e1 e2
        subst e1; subst e2
        exact r
      | succ k => rw [hk] at e1; simp at e1
/-- an object of the arena is changed -/
theorem Mo.put {φ : Wd} {H : Hp} {p : Addr} {o : HO} (h : p ∈ φ.ar) : Mo φ H φ (upd H p o) := ⟨fun a u n e => ⟨n, by rw [upd_ne (fun z => n.1 (by rw [z]; exact h))]; exact e⟩, fun _ _ e => e⟩
theorem Grow.put {φ : Wd} {H : Hp} {p : Addr} {o : HO} (h : p ∈ φ.ar) (hz : ∀ ob u, H p ≠ some (.frz ob u)) : Grow φ H φ (upd H p o) := by
  refine ⟨⟨[], by simp, by simp⟩, rfl, fun a u e n => ?_, fun a e => ?_, fun a ob u e => by rw [upd_ne (fun z => hz ob u (by rw [← z]; exact e))]; exact e⟩
  · have np : a ≠ p := fun z => n (by rw [z]; exact h)
    rw [upd_ne np]; exact e
  · by_cases q : a = p
    · rw [q, upd_same] at e; cases e
    · rw [upd_ne q] at e; exact e
theorem Sto.put {K : Frg} {φ : Wd} {M : Mem} {H : Hp} (S : Sto K φ M H) {i : Nat} {p : Addr} {o : HO} {mo : MO} (h : φ.ar[i]? = some p) (r : RepO K φ (upd H p o) p mo) : Sto K φ (M.set i mo) (upd H p o) := by
  refine ⟨by simp [S.len], S.nd, fun a ha z => ?_, fun j a m e1 e2 => ?_⟩
  · by_cases q : a = p
    · rw [q, upd_same] at z; cases z
    · rw [upd_ne q] at z; exact S.lk a ha z
  by_cases q : j = i
  · subst q
    rw [h] at e1; cases e1
    have hl : j < M.length := by rw [← S.len]; exact (List.getElem?_eq_some_iff.mp h).1
    rw [List.getElem?_set_self hl] at e2; cases e2
    exact r
  · rw [List.getElem?_set_ne (fun z => q z.symm)] at e2
    refine (S.ob j a m e1 e2).mo (Mo.put (List.mem_of_getElem? h)) (upd_ne fun z => ?_)
    subst z
    have hj := List.getElem?_eq_some_iff.mp e1
    have hi := List.getElem?_eq_some_iff.mp h
    exact q ((List.getElem_inj S.nd).mp (hj.2.trans hi.2.symm))

/-- the slots stand for the names' data -/
structure EnvR (K : Frg) (φ : Wd) (H : Hp) (r : Env') (σ : L2.St) : Prop where
  len : r.length = σ.length
  at_ : ∀ (i : Nat) (d : D), r[i]? = some (some d) → ∃ v, σ[i]? = some (some v) ∧ Rep K φ H d v
theorem EnvR.grow {K : Frg} {φ φ' : Wd} {H H' : Hp} {r : Env'} {σ : L2.St} (g : Grow φ H φ' H') (h : EnvR K φ H r σ) : EnvR K φ' H' r σ :=
  ⟨h.len, fun i d e => let ⟨v, e1, e2⟩ := h.at_ i d e; ⟨v, e1, Rep.grow g d v e2⟩⟩
theorem EnvR.set {K : Frg} {φ : Wd} {H : Hp} {r : Env'} {σ : L2.St} (h : EnvR K φ H r σ) {i : Nat} {d : D} {v : V} (k : Rep K φ H d v) : EnvR K φ H (r.set i (some d)) (σ.set i (some v)) := by
  refine ⟨by simp [h.len], fun j e ej => ?_⟩
  by_cases q : j = i
  · subst q
    by_cases hl : j < r.length
    · rw [List.getElem?_set_self hl] at ej; cases ej
      exact ⟨v, List.getElem?_set_self (by rw [← h.len]; exact hl), k⟩
    · rw [List.getElem?_eq_none (by simp; omega)] at ej; cases ej
  · rw [List.getElem?_set_ne (fun z => q z.symm)] at ej ⊢
    exact h.at_ j e ej
theorem EnvR.unset {K : Frg} {φ : Wd} {H : Hp} {r : Env'} {σ : L2.St} (h : EnvR K φ H r σ) {i : Nat} : EnvR K φ H (r.set i none) (σ.set i none) := by
  refine ⟨by simp [h.len], fun j e ej => ?_⟩
  by_cases q : j = i
  · subst q
    by_cases hl : j < r.length
    · rw [List.getElem?_set_self hl] at ej; cases ej
    · rw [List.getElem?_eq_none (by simp; omega)] at ej; cases ej
  · rw [List.getElem?_set_ne (fun z => q z.symm)] at ej ⊢
    exact h.at_ j e ej
theorem EnvR.start {K : Frg} {φ : Wd} {H : Hp} {ds : List D} {vs : List V} (N : List Str) (h : RepL K φ H ds vs) :
    EnvR K φ H (ds.map some ++ List.replicate (N.length - ds.length) none) (L2.start N vs) := by
  unfold L2.start
  rw [h.len]
  refine ⟨by simp [h.len], fun i d e => ?_⟩
  by_cases hi : i < ds.length
  · rw [List.getElem?_append_left (by simpa using hi), List.getElem?_map] at e
    cases q : ds[i]? with
    | none => rw [q] at e; cases e
    | some x =>
      rw [q] at e; cases e
      obtain ⟨v, e1, e2⟩ := h.get q
      exact ⟨v, by rw [List.getElem?_append_left (by simpa [h.len] using hi), List.getElem?_map, e1]; rfl, e2⟩
  · rw [List.getElem?_append_right (by simpa using hi), List.getElem?_replicate] at e
    split at e <;> cases e

/-! ### a place under construction -/
abbrev Wd.lock (φ : Wd) (p : Addr) : Wd := ⟨φ.ar, p :: φ.lk⟩
theorem Mo.lock {φ : Wd} {H : Hp} {p : Addr} {o : HO} (h : H p = none) : Mo φ H (φ.lock p) (upd H p o) :=
  ⟨fun a u n e => ⟨⟨n.1, fun z => (List.mem_cons.mp z).elim (fun q => ne_of_none e h q) n.2⟩, by rw [upd_ne (ne_of_none e h)]; exact e⟩, fun _ _ e => e⟩
theorem Mo.unlock {φ : Wd} {H : Hp} {p : Addr} : Mo (φ.lock p) H φ H := ⟨fun a u n e => ⟨⟨n.1, fun z => n.2 (List.mem_cons_of_mem _ z)⟩, e⟩, fun _ _ e => e⟩
theorem Mo.relock {φ : Wd} {H : Hp} {p : Addr} {o : HO} (hp : p ∈ φ.lk) : Mo φ H φ (upd H p o) :=
  ⟨fun a u n e => ⟨n, by rw [upd_ne (fun z => n.2 (by rw [z]; exact hp))]; exact e⟩, fun _ _ e => e⟩
theorem Sto.lock {K : Frg} {φ : Wd} {M : Mem} {H : Hp} {p : Addr} {o : HO} (S : Sto K φ M H) (h : H p = none) : Sto K (φ.lock p) M (upd H p o) := by
  refine ⟨S.len, S.nd, fun a ha z => ?_, fun i a mo e1 e2 => (S.ob i a mo e1 e2).mo (Mo.lock h) (upd_ne fun z => ?_)⟩
  · by_cases q : a = p
    · rw [q, upd_same] at z; cases z
    · rw [upd_ne q] at z
      rcases List.mem_cons.mp ha with w | w
      · exact q w
      · exact S.lk a w z
  · have q := S.mem (List.mem_of_getElem? e1)
    rw [z] at q; exact q h
theorem Sto.unlock {K : Frg} {φ : Wd} {M : Mem} {H : Hp} {p : Addr} (S : Sto K (φ.lock p) M H) : Sto K φ M H :=
  ⟨S.len, S.nd, fun a ha => S.lk a (List.mem_cons_of_mem _ ha), fun i a mo e1 e2 => (S.ob i a mo e1 e2).mo Mo.unlock rfl⟩
theorem Sto.relock {K : Frg} {φ : Wd} {M : Mem} {H : Hp} {p : Addr} {o : HO} (S : Sto K φ M H) (hp : p ∈ φ.lk) (na : p ∉ φ.ar) : Sto K φ M (upd H p o) := by
  refine ⟨S.len, S.nd, fun a ha z => ?_, fun i a mo e1 e2 => (S.ob i a mo e1 e2).mo (Mo.relock hp) (upd_ne fun z => na (z ▸ List.mem_of_getElem? e1))⟩
  by_cases q : a = p
  · rw [q, upd_same] at z; cases z
  · rw [upd_ne q] at z; exact S.lk a ha z
theorem EnvR.mo {K : Frg} {φ φ' : Wd} {H H' : Hp} {r : Env'} {σ : L2.St} (g : Mo φ H φ' H') (h : EnvR K φ H r σ) : EnvR K φ' H' r σ :=
  ⟨h.len, fun i d e => let ⟨v, e1, e2⟩ := h.at_ i d e; ⟨v, e1, Rep.mo g d v e2⟩⟩
end LF
set_option Elab.async false
set_option linter.all false
set_option maxRecDepth 100000
set_option maxHeartbeats 2000000
/-! LF2: what a construct does on plain data; the judgements; names, constants, operators, tests, displays, statements. -/
namespace LF
open PySem PySem.Spec PyProof.Rows L2

/-- a raised exception: its class by name, its fields -/
structure Exn where
  c : Str
  ns : List Str
  ds : List D
inductive Out (α : Type) where
  | ok (a : α) (M : Mem) | ex (e : Exn) (M : Mem) | no
/-- a statement's end -/
inductive SO where
  | nx (r : Env') (M : Mem) | rt (d : D) (M : Mem) | bk (r : Env') (M : Mem) | ct (r : Env') (M : Mem) | ex (e : Exn) (r : Env') (M : Mem) | no
def Out.bind {α β : Type} (o : Out α) (f : α → Mem → Out β) : Out β := match o with
  | .ok a M => f a M
  | .ex e M => .ex e M
  | .no => .no
def Out.bindS {α : Type} (o : Out α) (r : Env') (f : α → Mem → SO) : SO := match o with
  | .ok a M => f a M
  | .ex e M => .ex e r M
  | .no => .no
def liftO {α : Type} (o : Option α) (M : Mem) : Out α := match o with
  | some a => .ok a M
  | none => .no
abbrev DE := Env' → Mem → Out D
abbrev DT := Env' → Mem → Out Bool
abbrev DA := Env' → Mem → Out (List D)
abbrev DS := Env' → Mem → SO
abbrev DG := D → Env' → Mem → Out Env'
abbrev F1 := D → Mem → Out D
abbrev F2 := D → D → Mem → Out D
abbrev FN := List D → Mem → Out D
/-- an exception's own dict -/
def XF (K : Frg) (φ : Wd) (H : Hp) (ns : List Str) (ds : List D) (dd : Option Addr) : Prop := ∃ fv : List (Str × V), ((dd = none ∧ fv = []) ∨ ∃ d, dd = some d ∧ φ.out d ∧ H d = some (.xd fv)) ∧ fv.map (·.1) = ns ∧ RepL K φ H ds (fv.map (·.2))
def RepX (K : Frg) (φ : Wd) (H : Hp) (e : Exn) (cls : Value) (dd : Option Addr) : Prop := cls = .ref (He.ga K e.c) ∧ XF K φ H e.ns e.ds dd
theorem XF.mo {K : Frg} {φ φ' : Wd} {H H' : Hp} (g : Mo φ H φ' H') {ns : List Str} {ds : List D} {dd : Option Addr} (h : XF K φ H ns ds dd) : XF K φ' H' ns ds dd := by
  obtain ⟨fv, h1, h2, h3⟩ := h
  refine ⟨fv, ?_, h2, RepL.mo g _ _ h3⟩
  rcases h1 with h1 | ⟨d, h4, h5, h6⟩
  · exact .inl h1
  · exact .inr ⟨d, h4, (g.out _ _ h5 h6).1, (g.out _ _ h5 h6).2⟩
theorem RepX.mo {K : Frg} {φ φ' : Wd} {H H' : Hp} (g : Mo φ H φ' H') {e : Exn} {cls : Value} {dd : Option Addr} (h : RepX K φ H e cls dd) : RepX K φ' H' e cls dd := ⟨h.1, h.2.mo g⟩

/-- an outcome meets what is wanted -/
def Okd {α β : Type} (K : Frg) (φ : Wd) (H : Hp) (R : Wd → Hp → α → β → Prop) (o : Out α) (Q : β → Hp → Prop) (W : XK) : Prop := match o with
  | .ok a M => ∀ b φ' H', Grow φ H φ' H' → Sto K φ' M H' → R φ' H' a b → Q b H'
  | .ex e M => ∀ cls dd φ' H', Grow φ H φ' H' → Sto K φ' M H' → RepX K φ' H' e cls dd → W cls dd H'
  | .no => False
def OkS (K : Frg) (φ : Wd) (H : Hp) (o : SO) (E : Ends) (W : WX) : Prop := match o with
  | .nx r M => ∀ σ' φ' H', Grow φ H φ' H' → Sto K φ' M H' → EnvR K φ' H' r σ' → E.nx σ' H'
  | .rt d M => ∀ v φ' H', Grow φ H φ' H' → Sto K φ' M H' → Rep K φ' H' d v → E.rt v H'
  | .bk r M => ∀ σ' φ' H', Grow φ H φ' H' → Sto K φ' M H' → EnvR K φ' H' r σ' → E.bk σ' H'
  | .ct r M => ∀ σ' φ' H', Grow φ H φ' H' → Sto K φ' M H' → EnvR K φ' H' r σ' → E.ct σ' H'
  | .ex e r M => ∀ cls dd σ' φ' H', Grow φ H φ' H' → Sto K φ' M H' → EnvR K φ' H' r σ' → RepX K φ' H' e cls dd → W cls dd σ' H'
  | .no => False
abbrev RE (K : Frg) : Wd → Hp → D → V → Prop := fun φ H d v => Rep K φ H d v
abbrev RT : Wd → Hp → Bool → Bool → Prop := fun _ _ a b => b = a
abbrev RA (K : Frg) : Wd → Hp → List D → List V → Prop := fun φ H d v => RepL K φ H d v
section
variable {K : Frg} {φ φ1 : Wd} {H H1 : Hp} {α β γ δ : Type} {R1 : Wd → Hp → α → γ → Prop} {R2 : Wd → Hp → β → δ → Prop} {Q : δ → Hp → Prop} {Q1 : γ → Hp → Prop} {W : XK}
theorem Okd.grow {o : Out β} (g : Grow φ H φ1 H1) (h : Okd K φ H R2 o Q W) : Okd K φ1 H1 R2 o Q W := by
  cases o with
  | ok a M => exact fun b φ' H' g' => h b φ' H' (g.trans g')
  | ex e M => exact fun c d φ' H' g' => h c d φ' H' (g.trans g')
  | no => exact h
theorem Okd.bind {o : Out α} {f : α → Mem → Out β} (h : Okd K φ H R2 (o.bind f) Q W)
    (k : ∀ a M1 b φ1 H1, o = .ok a M1 → Grow φ H φ1 H1 → Sto K φ1 M1 H1 → R1 φ1 H1 a b → Okd K φ1 H1 R2 (f a M1) Q W → Q1 b H1) : Okd K φ H R1 o Q1 W := by
  cases o with
  | ok a M => exact fun b φ' H' g S r => k a M b φ' H' rfl g S r (Okd.grow g h)
  | ex e M => exact h
  | no => exact h
/-- nothing changes -/
theorem Okd.here {M : Mem} {b : β} {v : δ} (S : Sto K φ M H) (r : R2 φ H b v) (h : Okd K φ H R2 (.ok b M) Q W) : Q v H := h v φ H Grow.refl S r
end
section
variable {K : Frg} {φ φ1 : Wd} {H H1 : Hp} {E : Ends} {W : WX}
theorem OkS.grow {o : SO} (g : Grow φ H φ1 H1) (h : OkS K φ H o E W) : OkS K φ1 H1 o E W := by
  cases o with
  | nx r M => exact fun b φ' H' g' => h b φ' H' (g.trans g')
  | rt r M => exact fun b φ' H' g' => h b φ' H' (g.trans g')
  | bk r M => exact fun b φ' H' g' => h b φ' H' (g.trans g')
  | ct r M => exact fun b φ' H' g' => h b φ' H' (g.trans g')
  | ex e r M => exact fun c d s φ' H' g' => h c d s φ' H' (g.trans g')
  | no => exact h
theorem OkS.bind {α γ : Type} {R1 : Wd → Hp → α → γ → Prop} {Q1 : γ → Hp → Prop} {o : Out α} {r : Env'} {σ : L2.St} {f : α → Mem → SO} (er : EnvR K φ H r σ) (h : OkS K φ H (o.bindS r f) E W)
    (k : ∀ a M1 b φ1 H1, o = .ok a M1 → Grow φ H φ1 H1 → Sto K φ1 M1 H1 → R1 φ1 H1 a b → OkS K φ1 H1 (f a M1) E W → Q1 b H1) : Okd K φ H R1 o Q1 (fun c d H' => W c d σ H') := by
  cases o with
  | ok a M => exact fun b φ' H' g S r => k a M b φ' H' rfl g S r (OkS.grow g h)
  | ex e M => exact fun c d φ' H' g S x => h c d σ φ' H' g S (er.grow g) x
  | no => exact h
end

/-! ### the judgements -/
def SimE (K : Frg) (W : WX) (te : TE) (de : DE) : Prop := ∀ φ M H σ r Q, Sto K φ M H → EnvR K φ H r σ → Okd K φ H (RE K) (de r M) Q (fun c d H' => W c d σ H') → te σ H Q
def SimT (K : Frg) (W : WX) (te : TT) (de : DT) : Prop := ∀ φ M H σ r Q, Sto K φ M H → EnvR K φ H r σ → Okd K φ H RT (de r M) Q (fun c d H' => W c d σ H') → te σ H Q
def SimA (K : Frg) (W : WX) (te : TA) (de : DA) : Prop := ∀ φ M H σ r Q, Sto K φ M H → EnvR K φ H r σ → Okd K φ H (RA K) (de r M) Q (fun c d H' => W c d σ H') → te σ H Q
def SimS (K : Frg) (W : WX) (ts : TS) (ds : DS) : Prop := ∀ φ M H σ r E, Sto K φ M H → EnvR K φ H r σ → OkS K φ H (ds r M) E W → ts E σ H
def SimG (K : Frg) (W : WX) (g : TG) (dg : DG) : Prop := ∀ φ M H σ r x d Q, Sto K φ M H → EnvR K φ H r σ → Rep K φ H d x → (match dg d r M with
  | .ok r1 M1 => ∀ σ' φ' H', Grow φ H φ' H' → Sto K φ' M1 H' → EnvR K φ' H' r1 σ' → Q σ' H'
  | _ => False) → g x σ H Q
def SimGs (K : Frg) (W : WX) (g : TGs) (dg : List D → Env' → Mem → Out Env') : Prop := ∀ φ M H σ r xs ds Q, Sto K φ M H → EnvR K φ H r σ → RepL K φ H ds xs → (match dg ds r M with
  | .ok r1 M1 => ∀ σ' φ' H', Grow φ H φ' H' → Sto K φ' M1 H' → EnvR K φ' H' r1 σ' → Q σ' H'
  | _ => False) → g xs σ H Q
/-- by values -/
def Op1 (K : Frg) (r : V → Hp → VK → Prop) (f : F1) : Prop := ∀ φ M H x a Q W, Sto K φ M H → Rep K φ H a x → Okd K φ H (RE K) (f a M) Q W → r x H Q
def Op2 (K : Frg) (r : R2) (f : F2) : Prop := ∀ φ M H x y a b Q W, Sto K φ M H → Rep K φ H a x → Rep K φ H b y → Okd K φ H (RE K) (f a b M) Q W → r x y H Q
def OpN (K : Frg) (r : List V → Hp → VK → Prop) (f : FN) : Prop := ∀ φ M H xs ds Q W, Sto K φ M H → RepL K φ H ds xs → Okd K φ H (RE K) (f ds M) Q W → r xs H Q
def OpTr (K : Frg) (r : V → Hp → (Bool → Hp → Prop) → Prop) (f : D → Mem → Out Bool) : Prop := ∀ φ M H x a Q W, Sto K φ M H → Rep K φ H a x → Okd K φ H RT (f a M) Q W → r x H Q

def DEx (X : Cx) (W : WX) (e : Expr) (de : DE) : Prop := ∃ te, PE X e te ∧ SimE X.K W te de
def DTx (X : Cx) (W : WX) (e : Expr) (de : DT) : Prop := ∃ te, PT X e te ∧ SimT X.K W te de
def DWx (X : Cx) (W : WX) (e : Expr) (de : DT) : Prop := ∃ te, PW X e te ∧ SimT X.K W te de
def DAx (X : Cx) (W : WX) (es : List Expr) (de : DA) : Prop := ∃ te, PA X es te ∧ SimA X.K W te de
def DSx (X : Cx) (W : WX) (st : Stmt) (ds : DS) : Prop := ∃ ts, PS X st ts ∧ SimS X.K W ts ds
def DBx (X : Cx) (W : WX) (st : List Stmt) (ds : DS) : Prop := ∃ ts, PSs X st ts ∧ SimS X.K W ts ds
def DGx (X : Cx) (W : WX) (tg : Expr) (dg : DG) : Prop := ∃ g, PG X tg g ∧ SimG X.K W g dg
def DGsx (X : Cx) (W : WX) (tg : List Expr) (dg : List D → Env' → Mem → Out Env') : Prop := ∃ g, PGs X tg g ∧ SimGs X.K W g dg

/-! ### names and constants -/
def dVar (i : Nat) : DE := fun r M => match r[i]? with
  | some (some d) => .ok d M
  | _ => .no
def dC (d : D) : DE := fun _ M => .ok d M
section
variable {X : Cx} {W : WX} {pos : Pos}
theorem sim_var {K : Frg} {W : WX} {i : Nat} : SimE K W (tVar i) (dVar i) := by
  intro φ M H σ r Q S E h
  unfold dVar at h
  split at h
  · rename_i d e
    obtain ⟨v, e1, e2⟩ := E.at_ i d e
    exact ⟨v, e1, h.here S e2⟩
  · exact h.elim
theorem de_var {i : Nat} {x : Str} (hN : X.N[i]? = some x) (hv : Vis X.env.scope x) (hd : (x == ("__debug__" : Str)) = false := by decide) (hcd : (x == ("__classdict__" : Str)) = false := by decide) : DEx X W (.Name x pos) (dVar i) :=
  ⟨_, pe_var hN hv hd hcd, sim_var⟩
theorem sim_c {K : Frg} {v : V} {d : D} (h : ∀ φ H, Rep K φ H d v) : SimE K W (tC v) (dC d) := fun φ M H σ r Q S E k => k.here S (h φ H)
theorem de_int {i : Int} {j} : DEx X W (.Constant (.int i) j pos) (dC (.int i)) := ⟨_, pe_int, sim_c fun _ _ => by unfold Rep; rfl⟩
theorem de_bl {b : Bool} {j} : DEx X W (.Constant (.bool b) j pos) (dC (.bl b)) := ⟨_, pe_bl, sim_c fun _ _ => by unfold Rep; rfl⟩
theorem de_non {j} : DEx X W (.Constant .none j pos) (dC .non) := ⟨_, pe_non, sim_c fun _ _ => by unfold Rep; rfl⟩
theorem de_str {x : Str} {j} : DEx X W (.Constant (.str x) j pos) (dC (.str x)) := ⟨_, pe_str, sim_c fun _ _ => by unfold Rep; rfl⟩
/-- a module's constant -/
theorem de_gint {x : Str} {i : Int} (hg : Gl X x) (hm : ∃ t, X.mg x = some (.int i t)) (hd : (x == ("__debug__" : Str)) = false := by decide) : DEx X W (.Name x pos) (dC (.int i)) := by
  obtain ⟨t, hm⟩ := hm
  exact ⟨_, pe_glob (v := .int i) hg hm ⟨t, rfl⟩ hd, sim_c fun _ _ => by unfold Rep; rfl⟩
theorem de_gstr {x z : Str} (hg : Gl X x) (hm : ∃ t, X.mg x = some (.str z t)) (hd : (x == ("__debug__" : Str)) = false := by decide) : DEx X W (.Name x pos) (dC (.str z)) := by
  obtain ⟨t, hm⟩ := hm
  exact ⟨_, pe_glob (v := .str z) hg hm ⟨t, rfl⟩ hd, sim_c fun _ _ => by unfold Rep; rfl⟩

/-! ### operators, comparisons -/
def dBin (f : F2) (da db : DE) : DE := fun r M => (da r M).bind fun x M1 => (db r M1).bind fun y M2 => f x y M2
def dUn (f : F1) (da : DE) : DE := fun r M => (da r M).bind fun x M1 => f x M1
theorem sim_op {K : Frg} {r2 : R2} {f : F2} {ta tb : TE} {da db : DE} (ho : Op2 K r2 f) (ha : SimE K W ta da) (hb : SimE K W tb db) : SimE K W (tOp r2 ta tb) (dBin f da db) := by
  intro φ M H σ r Q S E h
  refine ha φ M H σ r _ S E (Okd.bind h fun a M1 x φ1 H1 _ g1 S1 r1 h1 => ?_)
  refine hb φ1 M1 H1 σ r _ S1 (E.grow g1) (Okd.bind h1 fun b M2 y φ2 H2 _ g2 S2 r2 h2 => ?_)
  exact ho φ2 M2 H2 x y a b Q _ S2 (Rep.grow g2 _ _ r1) r2 h2
variable {a b c : Expr} {da db dc : DE} {ta' tb' : DT}
theorem de_bin {op : Operator} {r2 : R2} {f : F2} (h1 : OpR X (binaryOp op) r2) (ho : Op2 X.K r2 f) (ha : DEx X W a da) (hb : DEx X W b db) : DEx X W (.BinOp a op b pos) (dBin f da db) := by
  obtain ⟨_, p1, s1⟩ := ha
  obtain ⟨_, p2, s2⟩ := hb
  exact ⟨_, pe_op h1 p1 p2, sim_op ho s1 s2⟩
theorem de_un {op : UnaryOp} {r1 : V → Hp → VK → Prop} {f : F1} (h1 : UnR X (unaryOp op) r1) (ho : Op1 X.K r1 f) (ha : DEx X W a da) : DEx X W (.UnaryOp op a pos) (dUn f da) := by
  obtain ⟨_, p1, s1⟩ := ha
  refine ⟨_, pe_un h1 p1, fun φ M H σ r Q S E h => ?_⟩
  refine s1 φ M H σ r _ S E (Okd.bind h fun a M1 x φ1 H1 _ g1 S1 r1 h1 => ?_)
  exact ho φ1 M1 H1 x a Q _ S1 r1 h1
theorem de_cmp {op : CmpOp} {r2 : R2} {f : F2} (h1 : OpR X (compareOp op) r2) (ho : Op2 X.K r2 f) (ha : DEx X W a da) (hb : DEx X W b db) (hm : behindInMarks op b = false := by first | exact nomark _ | rfl) : DEx X W (.Compare a [op] [b] pos) (dBin f da db) := by
  obtain ⟨_, p1, s1⟩ := ha
  obtain ⟨_, p2, s2⟩ := hb
  exact ⟨_, pe_cmpR h1 p1 p2 hm, sim_op ho s1 s2⟩
/-- a value that is True or False, as a test -/
def dTest (da : DE) : DT := fun r M => (da r M).bind fun x M1 => match x with
  | .bl b => .ok b M1
  | _ => .no
theorem sim_test {K : Frg} {ta : TE} (ha : SimE K W ta da) : SimT K W (tTest ta) (dTest da) := by
  intro φ M H σ r Q S E h
  refine ha φ M H σ r _ S E (Okd.bind h fun a M1 x φ1 H1 _ g1 S1 r1 h1 => ?_)
  cases a with
  | bl b =>
    unfold Rep at r1
    exact ⟨b, r1, h1.here S1 rfl⟩
  | _ => exact h1.elim
theorem dt_cmp {op : CmpOp} {r2 : R2} {f : F2} (h1 : OpR X (compareOp op) r2) (ho : Op2 X.K r2 f) (ha : DEx X W a da) (hb : DEx X W b db) (hm : behindInMarks op b = false := by first | exact nomark _ | rfl) : DTx X W (.Compare a [op] [b] pos) (dTest (dBin f da db)) := by
  obtain ⟨_, p1, s1⟩ := ha
  obtain ⟨_, p2, s2⟩ := hb
  exact ⟨_, pt_cmpR h1 p1 p2 hm, sim_test (sim_op ho s1 s2)⟩
theorem dt_val (ha : DEx X W a da) (he : ∀ whole, isTrue a X.env whole = (do let v ← whole; standAt a.pos; holding [v] (truthy v)) := by intro _; rfl) : DTx X W a (dTest da) := by
  obtain ⟨_, p1, s1⟩ := ha
  exact ⟨_, pt_val p1 he, sim_test s1⟩
/-- a < b < c -/
def dChain (f f' : F2) (da db dc : DE) : DE := fun r M => (da r M).bind fun x M1 => (db r M1).bind fun y M2 => (f x y M2).bind fun z M3 => match z with
  | .bl true => (dc r M3).bind fun w M4 => f' y w M4
  | .bl false => .ok (.bl false) M3
  | _ => .no
end
end LF
set_option Elab.async false
set_option linter.all false
set_option maxRecDepth 100000
set_option maxHeartbeats 2000000
/-! LF3: chains, and, or, not, conditional expressions, displays, calls, statements. -/
namespace LF
open PySem PySem.Spec PyProof.Rows L2
section
variable {X : Cx} {W : WX} {pos : Pos} {a b c : Expr} {da db dc : DE} {ta' tb' : DT} {rest : List Expr}
theorem sim_chain {K : Frg} {r2 r2' : R2} {f f' : F2} {ta tb tc : TE} (ho : Op2 K r2 f) (ho' : Op2 K r2' f') (ha : SimE K W ta da) (hb : SimE K W tb db) (hc : SimE K W tc dc) : SimE K W (tChain r2 r2' ta tb tc) (dChain f f' da db dc) := by
  intro φ M H σ r Q S E h
  refine ha φ M H σ r _ S E (Okd.bind h fun a M1 x φ1 H1 _ g1 S1 r1 h1 => ?_)
  refine hb φ1 M1 H1 σ r _ S1 (E.grow g1) (Okd.bind h1 fun b M2 y φ2 H2 _ g2 S2 r2 h2 => ?_)
  refine ho φ2 M2 H2 x y a b _ _ S2 (Rep.grow g2 _ _ r1) r2 (Okd.bind h2 fun z M3 v φ3 H3 _ g3 S3 r3 h3 => ?_)
  cases z with
  | bl k =>
    unfold Rep at r3
    refine ⟨k, r3, ?_⟩
    cases k with
    | true =>
      rw [if_pos rfl]
      refine hc φ3 M3 H3 σ r _ S3 ((E.grow g1).grow (g2.trans g3)) (Okd.bind h3 fun w M4 u φ4 H4 _ g4 S4 r4 h4 => ?_)
      exact ho' φ4 M4 H4 y u b w Q _ S4 (Rep.grow (g3.trans g4) _ _ r2) r4 h4
    | false =>
      rw [if_neg Bool.false_ne_true]
      exact h3.here S3 (by show Rep _ _ _ _ _; unfold Rep; rfl)
  | _ => exact h3.elim
theorem de_chain {op op' : CmpOp} {r2 r2' : R2} {f f' : F2} (h1 : OpR X (compareOp op) r2) (ho : Op2 X.K r2 f) (h2 : OpR X (compareOp op') r2') (ho' : Op2 X.K r2' f') (ha : DEx X W a da) (hb : DEx X W b db) (hc : DEx X W c dc)
    (hm : lastMarks [op, op'] [b, c] = false := by with_unfolding_all rfl) : DEx X W (.Compare a [op, op'] [b, c] pos) (dChain f f' da db dc) := by
  obtain ⟨_, p1, s1⟩ := ha
  obtain ⟨_, p2, s2⟩ := hb
  obtain ⟨_, p3, s3⟩ := hc
  exact ⟨_, pe_chain h1 h2 p1 p2 p3 hm, sim_chain ho ho' s1 s2 s3⟩
theorem dt_chain {op op' : CmpOp} {r2 r2' : R2} {f f' : F2} (h1 : OpR X (compareOp op) r2) (ho : Op2 X.K r2 f) (h2 : OpR X (compareOp op') r2') (ho' : Op2 X.K r2' f') (ha : DEx X W a da) (hb : DEx X W b db) (hc : DEx X W c dc)
    (hm : lastMarks [op, op'] [b, c] = false := by with_unfolding_all rfl) : DTx X W (.Compare a [op, op'] [b, c] pos) (dTest (dChain f f' da db dc)) := by
  obtain ⟨_, p1, s1⟩ := ha
  obtain ⟨_, p2, s2⟩ := hb
  obtain ⟨_, p3, s3⟩ := hc
  exact ⟨_, pt_chain h1 h2 p1 p2 p3 hm, sim_test (sim_chain ho ho' s1 s2 s3)⟩
/-! ### and, or, not as tests -/
def dAnd (t u : DT) : DT := fun r M => (t r M).bind fun b M1 => match b with
  | true => u r M1
  | false => .ok false M1
def dOr (t u : DT) : DT := fun r M => (t r M).bind fun b M1 => match b with
  | true => .ok true M1
  | false => u r M1
def dNot (t : DT) : DT := fun r M => (t r M).bind fun b M1 => .ok (!b) M1
theorem sim_and {K : Frg} {t u : TT} {dt du : DT} (ha : SimT K W t dt) (hb : SimT K W u du) : SimT K W (tAnd t u) (dAnd dt du) := by
  intro φ M H σ r Q S E h
  refine ha φ M H σ r _ S E (Okd.bind h fun b M1 x φ1 H1 _ g1 S1 r1 h1 => ?_)
  have e : x = b := r1
  subst e
  cases x with
  | true => rw [if_pos rfl]; exact hb φ1 M1 H1 σ r _ S1 (E.grow g1) h1
  | false => rw [if_neg Bool.false_ne_true]; exact h1.here S1 rfl
theorem sim_or {K : Frg} {t u : TT} {dt du : DT} (ha : SimT K W t dt) (hb : SimT K W u du) : SimT K W (tOr t u) (dOr dt du) := by
  intro φ M H σ r Q S E h
  refine ha φ M H σ r _ S E (Okd.bind h fun b M1 x φ1 H1 _ g1 S1 r1 h1 => ?_)
  have e : x = b := r1
  subst e
  cases x with
  | true => rw [if_pos rfl]; exact h1.here S1 rfl
  | false => rw [if_neg Bool.false_ne_true]; exact hb φ1 M1 H1 σ r _ S1 (E.grow g1) h1
theorem dt_w (h : DWx X W a ta') : DTx X W a ta' := let ⟨_, p, s⟩ := h; ⟨_, p.pt, s⟩
theorem dw_and1 (ha : DTx X W a ta') : DWx X W (.BoolOp .And [a] pos) ta' := let ⟨_, p, s⟩ := ha; ⟨_, pw_and1 p, s⟩
theorem dw_or1 (ha : DTx X W a ta') : DWx X W (.BoolOp .Or [a] pos) ta' := let ⟨_, p, s⟩ := ha; ⟨_, pw_or1 p, s⟩
theorem dw_and (ha : DTx X W a ta') (hb : DWx X W (.BoolOp .And (b :: rest) pos) tb') : DWx X W (.BoolOp .And (a :: b :: rest) pos) (dAnd ta' tb') := by
  obtain ⟨_, p1, s1⟩ := ha
  obtain ⟨_, p2, s2⟩ := hb
  exact ⟨_, pw_and p1 p2, sim_and s1 s2⟩
theorem dw_or (ha : DTx X W a ta') (hb : DWx X W (.BoolOp .Or (b :: rest) pos) tb') : DWx X W (.BoolOp .Or (a :: b :: rest) pos) (dOr ta' tb') := by
  obtain ⟨_, p1, s1⟩ := ha
  obtain ⟨_, p2, s2⟩ := hb
  exact ⟨_, pw_or p1 p2, sim_or s1 s2⟩
theorem dt_not (ha : DTx X W a ta') : DTx X W (.UnaryOp .Not a pos) (dNot ta') := by
  obtain ⟨_, p, s⟩ := ha
  refine ⟨_, pt_not p, fun φ M H σ r Q S E h => ?_⟩
  refine s φ M H σ r _ S E (Okd.bind h fun b M1 x φ1 H1 _ g1 S1 r1 h1 => ?_)
  have e : x = b := r1
  subst e
  exact h1.here S1 rfl
/-! ### .. as values -/
def dAndV (da db : DE) : DE := fun r M => (da r M).bind fun x M1 => match x with
  | .bl true => db r M1
  | .bl false => .ok (.bl false) M1
  | _ => .no
def dOrV (da db : DE) : DE := fun r M => (da r M).bind fun x M1 => match x with
  | .bl true => .ok (.bl true) M1
  | .bl false => db r M1
  | _ => .no
def dNotV (da : DE) : DE := fun r M => (da r M).bind fun x M1 => match x with
  | .bl b => .ok (.bl (!b)) M1
  | _ => .no
theorem rep_bl {K : Frg} {φ : Wd} {H : Hp} {b : Bool} : Rep K φ H (.bl b) (.bl b) := by unfold Rep; rfl
theorem rep_int {K : Frg} {φ : Wd} {H : Hp} {b : Int} : Rep K φ H (.int b) (.int b) := by unfold Rep; rfl
theorem rep_str {K : Frg} {φ : Wd} {H : Hp} {b : Str} : Rep K φ H (.str b) (.str b) := by unfold Rep; rfl
theorem rep_non {K : Frg} {φ : Wd} {H : Hp} : Rep K φ H .non .non := by unfold Rep; rfl
theorem de_one {op} (h : DEx X W a da) : DEx X W (.BoolOp op [a] pos) da := let ⟨_, p, s⟩ := h; ⟨_, pe_one p, s⟩
theorem de_and (ha : DEx X W a da) (hb : DEx X W (.BoolOp .And (b :: rest) pos) db) : DEx X W (.BoolOp .And (a :: b :: rest) pos) (dAndV da db) := by
  obtain ⟨_, p1, s1⟩ := ha
  obtain ⟨_, p2, s2⟩ := hb
  refine ⟨_, pe_and p1 p2, fun φ M H σ r Q S E h => ?_⟩
  refine s1 φ M H σ r _ S E (Okd.bind h fun d M1 x φ1 H1 _ g1 S1 r1 h1 => ?_)
  cases d with
  | bl k =>
    unfold RE Rep at r1
    refine ⟨k, r1, ?_⟩
    cases k with
    | true => rw [if_pos rfl]; exact s2 φ1 M1 H1 σ r _ S1 (E.grow g1) h1
    | false => rw [if_neg Bool.false_ne_true]; exact h1.here S1 rep_bl
  | _ => exact h1.elim
theorem de_or (ha : DEx X W a da) (hb : DEx X W (.BoolOp .Or (b :: rest) pos) db) : DEx X W (.BoolOp .Or (a :: b :: rest) pos) (dOrV da db) := by
  obtain ⟨_, p1, s1⟩ := ha
  obtain ⟨_, p2, s2⟩ := hb
  refine ⟨_, pe_or p1 p2, fun φ M H σ r Q S E h => ?_⟩
  refine s1 φ M H σ r _ S E (Okd.bind h fun d M1 x φ1 H1 _ g1 S1 r1 h1 => ?_)
  cases d with
  | bl k =>
    unfold RE Rep at r1
    refine ⟨k, r1, ?_⟩
    cases k with
    | true => rw [if_pos rfl]; exact h1.here S1 rep_bl
    | false => rw [if_neg Bool.false_ne_true]; exact s2 φ1 M1 H1 σ r _ S1 (E.grow g1) h1
  | _ => exact h1.elim
theorem de_not (ha : DEx X W a da) : DEx X W (.UnaryOp .Not a pos) (dNotV da) := by
  obtain ⟨_, p1, s1⟩ := ha
  refine ⟨_, pe_not p1, fun φ M H σ r Q S E h => ?_⟩
  refine s1 φ M H σ r _ S E (Okd.bind h fun d M1 x φ1 H1 _ g1 S1 r1 h1 => ?_)
  cases d with
  | bl k =>
    unfold RE Rep at r1
    exact ⟨k, r1, h1.here S1 rep_bl⟩
  | _ => exact h1.elim
def dIfE (t : DT) (da db : DE) : DE := fun r M => (t r M).bind fun b M1 => match b with
  | true => da r M1
  | false => db r M1
theorem de_ifexp (ht : DTx X W c ta') (ha : DEx X W a da) (hb : DEx X W b db) : DEx X W (.IfExp c a b pos) (dIfE ta' da db) := by
  obtain ⟨_, p, s⟩ := ht
  obtain ⟨_, p1, s1⟩ := ha
  obtain ⟨_, p2, s2⟩ := hb
  refine ⟨_, pe_ifExp p p1 p2, fun φ M H σ r Q S E h => ?_⟩
  refine s φ M H σ r _ S E (Okd.bind h fun k M1 x φ1 H1 _ g1 S1 r1 h1 => ?_)
  have e : x = k := r1
  subst e
  cases x with
  | true => rw [if_pos rfl]; exact s1 φ1 M1 H1 σ r _ S1 (E.grow g1) h1
  | false => rw [if_neg Bool.false_ne_true]; exact s2 φ1 M1 H1 σ r _ S1 (E.grow g1) h1
/-! ### argument lists, displays -/
def dNil : DA := fun _ M => .ok [] M
def dCons (da : DE) (dr : DA) : DA := fun r M => (da r M).bind fun x M1 => (dr r M1).bind fun xs M2 => .ok (x :: xs) M2
variable {es : List Expr} {dr : DA}
theorem da_nil : DAx X W [] dNil := ⟨_, pa_nil, fun φ M H σ r Q S E h => h.here S RepL.nil⟩
theorem da_cons (ha : DEx X W a da) (hr : DAx X W es dr) (hs : starEach (a :: es) X.env = (false, eval a X.env) :: starEach es X.env := by rfl) : DAx X W (a :: es) (dCons da dr) := by
  obtain ⟨_, p1, s1⟩ := ha
  obtain ⟨_, p2, s2⟩ := hr
  refine ⟨_, pa_cons p1 p2 hs, fun φ M H σ r Q S E h => ?_⟩
  refine s1 φ M H σ r _ S E (Okd.bind h fun d M1 x φ1 H1 _ g1 S1 r1 h1 => ?_)
  refine s2 φ1 M1 H1 σ r _ S1 (E.grow g1) (Okd.bind h1 fun ds M2 xs φ2 H2 _ g2 S2 r2 h2 => ?_)
  exact h2.here S2 (RepL.cons (Rep.grow g2 _ _ r1) r2)
def lineB (n : Nat) : Bool := Nat.ble n 100000
theorem lineB_ok {n : Nat} (h : lineB n = true) : n ≤ sizeLine := Nat.le_trans (Nat.le_of_ble_eq_true h) (by rw [sizeLine_eq]; decide)
/-- a tuple, a list that will never change, a list of the arena -/
def dTup (da : DA) : DE := fun r M => (da r M).bind fun ds M1 => match lineB ds.length with
  | true => .ok (.tup ds) M1
  | false => .no
def dLst (da : DA) : DE := fun r M => (da r M).bind fun ds M1 => match lineB ds.length with
  | true => .ok (.lst ds) M1
  | false => .no
def dLstA (da : DA) : DE := fun r M => (da r M).bind fun ds M1 => match lineB ds.length with
  | true => .ok (.obj M1.length) (M1 ++ [.lst ds])
  | false => .no
theorem rep_tup_new {K : Frg} {φ : Wd} {M : Mem} {H : Hp} {p : Addr} {ds : List D} {xs : List V} (S : Sto K φ M H) (h : H p = none) (r : RepL K φ H ds xs) : Rep K φ (upd H p (.tup xs)) (.tup ds) (.ref p) := by
  unfold Rep
  exact ⟨p, xs, rfl, .inl ⟨S.fresh h, .inl upd_same⟩, RepL.grow (Grow.new h) _ _ r⟩
theorem rep_lst_new {K : Frg} {φ : Wd} {M : Mem} {H : Hp} {p : Addr} {ds : List D} {xs : List V} (S : Sto K φ M H) (h : H p = none) (r : RepL K φ H ds xs) : Rep K φ (upd H p (.lst xs)) (.lst ds) (.ref p) := by
  unfold Rep
  exact ⟨p, xs, rfl, .inl ⟨S.fresh h, .inl upd_same⟩, RepL.grow (Grow.new h) _ _ r⟩
theorem de_tup {x1} (ha : DAx X W es dr) : DEx X W (.Tuple es x1 pos) (dTup dr) := by
  obtain ⟨_, p1, s1⟩ := ha
  refine ⟨_, pe_tup p1, fun φ M H σ r Q S E h => ?_⟩
  refine s1 φ M H σ r _ S E (Okd.bind h fun ds M1 xs φ1 H1 _ g1 S1 r1 h1 => ?_)
  have r1 : RepL X.K φ1 H1 ds xs := r1
  cases hl : lineB ds.length with
  | true =>
    rw [hl] at h1
    exact ⟨by rw [r1.len]; exact lineB_ok hl, fun p hp => h1 _ _ _ (Grow.new hp) (S1.new hp) (rep_tup_new S1 hp r1)⟩
  | false => rw [hl] at h1; exact h1.elim
theorem de_lst (ha : DAx X W es dr) : DEx X W (.List es pos) (dLst dr) := by
  obtain ⟨_, p1, s1⟩ := ha
  refine ⟨_, pe_lst p1, fun φ M H σ r Q S E h => ?_⟩
  refine s1 φ M H σ r _ S E (Okd.bind h fun ds M1 xs φ1 H1 _ g1 S1 r1 h1 => ?_)
  have r1 : RepL X.K φ1 H1 ds xs := r1
  cases hl : lineB ds.length with
  | true =>
    rw [hl] at h1
    exact ⟨by rw [r1.len]; exact lineB_ok hl, fun p hp => h1 _ _ _ (Grow.new hp) (S1.new hp) (rep_lst_new S1 hp r1)⟩
  | false => rw [hl] at h1; exact h1.elim
theorem rep_obj_new {K : Frg} {φ : Wd} {M : Mem} {H : Hp} {p : Addr} (S : φ.ar.length = M.length) : Rep K (φ.add p) H (.obj M.length) (.ref p) := by
  unfold Rep
  exact ⟨p, by show (φ.ar ++ [p])[M.length]? = some p; rw [← S]; simp, rfl⟩
theorem de_lstA (ha : DAx X W es dr) : DEx X W (.List es pos) (dLstA dr) := by
  obtain ⟨_, p1, s1⟩ := ha
  refine ⟨_, pe_lst p1, fun φ M H σ r Q S E h => ?_⟩
  refine s1 φ M H σ r _ S E (Okd.bind h fun ds M1 xs φ1 H1 _ g1 S1 r1 h1 => ?_)
  have r1 : RepL X.K φ1 H1 ds xs := r1
  cases hl : lineB ds.length with
  | true =>
    rw [hl] at h1
    refine ⟨by rw [r1.len]; exact lineB_ok hl, fun p hp => h1 _ _ _ (Grow.alloc hp) (S1.alloc hp ⟨xs, upd_same, RepL.grow (Grow.alloc hp) _ _ r1⟩) ?_⟩
    exact rep_obj_new S1.len
  | false => rw [hl] at h1; exact h1.elim
/-! ### calls of built-ins -/
def dCB (f : FN) (da : DA) : DE := fun r M => (da r M).bind f
variable {e : Expr} {p : Pos} {x : Str}
theorem sim_cb {K : Frg} {rN : List V → Hp → VK → Prop} {f : FN} {t : TA} (ho : OpN K rN f) (ha : SimA K W t dr) : SimE K W (tCB rN t) (dCB f dr) := by
  intro φ M H σ r Q S E h
  refine ha φ M H σ r _ S E (Okd.bind h fun ds M1 xs φ1 H1 _ g1 S1 r1 h1 => ?_)
  exact ho φ1 M1 H1 xs ds Q _ S1 r1 h1
theorem de_callB {id : String} {rN : List V → Hp → VK → Prop} {f : FN} (hc : CallR X (.builtin id) rN) (ho : OpN X.K rN f) (hg : Gl X x) (hm : X.mg x = none) (hv : bootBuiltins x = some (.builtin id)) (ha : DAx X W (e :: es) dr)
    (hn : x ≠ "__name__" := by decide) (hdb : (x == ("__debug__" : Str)) = false := by decide) (he : starEach (e :: es) X.env = (false, eval e X.env) :: starEach es X.env := by rfl) (hpl : (backTo pos (starEach es X.env)).any (·.1) = false := by rfl) :
    DEx X W (.Call (.Name x p) (e :: es) [] pos) (dCB f dr) := by
  obtain ⟨_, p1, s1⟩ := ha
  exact ⟨_, pe_callB hc hg hm hv p1 hn hdb he hpl, sim_cb ho s1⟩
theorem de_callTy {T : String} {rN : List V → Hp → VK → Prop} {f : FN} (hc : CallR X (.type T) rN) (ho : OpN X.K rN f) (hg : Gl X x) (hm : X.mg x = none) (hv : bootBuiltins x = some (.type T)) (ha : DAx X W (e :: es) dr)
    (hn : x ≠ "__name__" := by decide) (hdb : (x == ("__debug__" : Str)) = false := by decide) (he : starEach (e :: es) X.env = (false, eval e X.env) :: starEach es X.env := by rfl) (hpl : (backTo pos (starEach es X.env)).any (·.1) = false := by rfl) :
    DEx X W (.Call (.Name x p) (e :: es) [] pos) (dCB f dr) := by
  obtain ⟨_, p1, s1⟩ := ha
  exact ⟨_, pe_callTy hc hg hm hv p1 hn hdb he hpl, sim_cb ho s1⟩
/-! ### calls of defs -/
/-- a def's promise: it does what F does -/
def SpD (K : Frg) (n : Nat) (F : FN) : Sp := fun vs H Q E => ∃ φ M ds, ds.length = n ∧ Sto K φ M H ∧ RepL K φ H ds vs ∧ Okd K φ H (RE K) (F ds M) Q E
def dCall (n : Nat) (F : FN) (da : DA) : DE := fun r M => (da r M).bind fun ds M1 => match Nat.beq ds.length n with
  | true => F ds M1
  | false => .no
theorem sim_call {K : Frg} {n : Nat} {F : FN} {t : TA} (ha : SimA K W t dr) : SimE K W (tCallS (SpD K n F) (WE W) t) (dCall n F dr) := by
  intro φ M H σ r Q S E h
  refine ha φ M H σ r _ S E (Okd.bind h fun ds M1 xs φ1 H1 _ g1 S1 r1 h1 => ?_)
  cases hn : Nat.beq ds.length n with
  | true =>
    rw [hn] at h1
    exact ⟨φ1, M1, ds, Nat.eq_of_beq_eq_true hn, S1, r1, h1⟩
  | false => rw [hn] at h1; exact h1.elim
/-- a def that stands at the module's name x -/
structure DefOk (P : Program) (w : World) (K : Frg) (mg : Str → Option Value) (base : Heap) (k : Nat) (x : Str) (n : Nat) (F : FN) : Prop where
  ex : ∃ f fd ps, mg x = some (.ref f) ∧ PySem.W.keepIn K (.ref f) = true ∧ Binds K fd ps [] ∧ FnOk P w K mg base (L2.CX P w) k f fd ps (SpD K n F)
theorem de_call {k n : Nat} {F : FN} (G : DefOk X.prog X.w X.K X.mg X.base k x n F) (hr : Room k X.A) (tk : Takes X W) (hg : Gl X x) (ha : DAx X W (e :: es) dr)
    (hdb : (x == ("__debug__" : Str)) = false := by decide) (he : starEach (e :: es) X.env = (false, eval e X.env) :: starEach es X.env := by rfl) (hpl : (backTo pos (starEach es X.env)).any (·.1) = false := by rfl) :
    DEx X W (.Call (.Name x p) (e :: es) [] pos) (dCall n F dr) := by
  obtain ⟨f, fd, ps, hm, kp, hb, hF⟩ := G.ex
  obtain ⟨_, p1, s1⟩ := ha
  exact ⟨_, pe_callS hF hr hg hm kp hb (fun σ => passAt tk σ) p1 hdb he hpl, sim_call s1⟩
end
end LF
set_option Elab.async false
set_option linter.all false
set_option maxRecDepth 100000
set_option maxHeartbeats 2000000
/-! LF4: statements, loops, raise, a def by its body. -/
namespace LF
open PySem PySem.Spec PyProof.Rows L2
section
variable {X : Cx} {W : WX} {pos : Pos} {e : Expr} {de : DE} {dt : DT} {st : Stmt} {rest : List Stmt} {d1 d2 : DS}
def dNext : DS := fun r M => .nx r M
def dSeq (a b : DS) : DS := fun r M => match a r M with
  | .nx r1 M1 => b r1 M1
  | o => o
theorem db_nil : DBx X W [] dNext := ⟨_, pss_nil, fun φ M H σ r E S er h => h σ φ H Grow.refl S er⟩
theorem db_one (h : DSx X W st d1) : DBx X W [st] d1 := let ⟨_, p, s⟩ := h; ⟨_, pss_one p, s⟩
theorem sim_seq {K : Frg} {t u : TS} (h1 : SimS K W t d1) (h2 : SimS K W u d2) : SimS K W (tSeq t u) (dSeq d1 d2) := by
  intro φ M H σ r E S er h
  refine h1 φ M H σ r { E with nx := u E } S er ?_
  unfold dSeq at h
  cases q : d1 r M with
  | nx r1 M1 =>
    rw [q] at h
    exact fun σ' φ' H' g S' er' => h2 φ' M1 H' σ' r1 E S' er' (OkS.grow g h)
  | _ => rw [q] at h; exact h
theorem db_cons (h1 : DSx X W st d1) (h2 : DBx X W rest d2) : DBx X W (st :: rest) (dSeq d1 d2) := by
  obtain ⟨_, p1, s1⟩ := h1
  obtain ⟨_, p2, s2⟩ := h2
  exact ⟨_, pss_cons p1 p2, sim_seq s1 s2⟩
theorem ds_pass : DSx X W (.Pass pos) dNext := ⟨_, ps_pass, fun φ M H σ r E S er h => h σ φ H Grow.refl S er⟩
def dBrk : DS := fun r M => .bk r M
def dCnt : DS := fun r M => .ct r M
theorem ds_break : DSx X W (.Break pos) dBrk := ⟨_, ps_break, fun φ M H σ r E S er h => h σ φ H Grow.refl S er⟩
theorem ds_continue : DSx X W (.Continue pos) dCnt := ⟨_, ps_continue, fun φ M H σ r E S er h => h σ φ H Grow.refl S er⟩
def dExpr (de : DE) : DS := fun r M => (de r M).bindS r fun _ M1 => .nx r M1
theorem ds_expr (he : DEx X W e de) (hs : swapsWith e none pos.line X.env = pure false := by rfl) : DSx X W (.Expr e pos) (dExpr de) := by
  obtain ⟨_, p, s⟩ := he
  refine ⟨_, ps_expr p hs, fun φ M H σ r E S er h => ?_⟩
  exact s φ M H σ r _ S er (OkS.bind er h fun a M1 b φ1 H1 _ g1 S1 _ h1 => h1 σ φ1 H1 Grow.refl S1 (er.grow g1))
def dRet (de : DE) : DS := fun r M => (de r M).bindS r fun d M1 => .rt d M1
theorem ds_ret (he : DEx X W e de) : DSx X W (.Return (some e) pos) (dRet de) := by
  obtain ⟨_, p, s⟩ := he
  refine ⟨_, ps_ret p, fun φ M H σ r E S er h => ?_⟩
  exact s φ M H σ r _ S er (OkS.bind er h fun a M1 b φ1 H1 _ g1 S1 r1 h1 => h1 b φ1 H1 Grow.refl S1 r1)
def dRetN : DS := fun r M => .rt .non M
theorem ds_retN : DSx X W (.Return none pos) dRetN := ⟨_, ps_retN, fun φ M H σ r E S er h => h _ φ H Grow.refl S rep_non⟩
def dIf (t : DT) (a b : DS) : DS := fun r M => (t r M).bindS r fun k M1 => match k with
  | true => a r M1
  | false => b r M1
theorem ds_if {c : Expr} {a b : List Stmt} (hc : DTx X W c dt) (ha : DBx X W a d1) (hb : DBx X W b d2) : DSx X W (.If c a b pos) (dIf dt d1 d2) := by
  obtain ⟨_, p, s⟩ := hc
  obtain ⟨_, p1, s1⟩ := ha
  obtain ⟨_, p2, s2⟩ := hb
  refine ⟨_, ps_if p p1 p2, fun φ M H σ r E S er h => ?_⟩
  refine s φ M H σ r _ S er (OkS.bind er h fun k M1 b φ1 H1 _ g1 S1 r1 h1 => ?_)
  have q : b = k := r1
  subst q
  cases b with
  | true => rw [if_pos rfl]; exact s1 φ1 M1 H1 σ r E S1 (er.grow g1) h1
  | false => rw [if_neg Bool.false_ne_true]; exact s2 φ1 M1 H1 σ r E S1 (er.grow g1) h1
/-! ### targets, assignments -/
def gSlot (i : Nat) : DG := fun d r M => .ok (r.set i (some d)) M
theorem sim_gName {K : Frg} {i : Nat} : SimG K W (gName i) (gSlot i) := fun φ M H σ r x d Q S er rx h => h _ φ H Grow.refl S (er.set rx)
theorem dg_name {i : Nat} {x : Str} (hN : X.N.Nodup) (hi : X.N[i]? = some x) (hx : Loc X.env.scope x) (hf : X.fn x = true ∨ X.env.scope.names.lookup x = some .local := by first | exact .inl rfl | exact .inr rfl | assumption) : DGx X W (.Name x pos) (gSlot i) :=
  ⟨_, pg_name hN hi hx hf, sim_gName⟩
def gsNil : List D → Env' → Mem → Out Env' := fun ds r M => match ds with
  | [] => .ok r M
  | _ => .no
def gsCons (g : DG) (gs : List D → Env' → Mem → Out Env') : List D → Env' → Mem → Out Env' := fun ds r M => match ds with
  | d :: ds => (match g d r M with
    | .ok r1 M1 => gs ds r1 M1
    | _ => .no)
  | [] => .no
theorem dgs_nil : DGsx X W [] gsNil := ⟨_, pgs_nil, fun φ M H σ r xs ds Q S er rx h => by
  cases ds with
  | nil => exact ⟨rx.inv0, h σ φ H Grow.refl S er⟩
  | cons d ds => exact h.elim⟩
theorem dgs_cons {e : Expr} {es : List Expr} {g : DG} {gs : List D → Env' → Mem → Out Env'} (h1 : DGx X W e g) (h2 : DGsx X W es gs)
    (hs : (assignEach (e :: es) X.env).map (·.2) = assign e X.env :: (assignEach es X.env).map (·.2) := by rfl) : DGsx X W (e :: es) (gsCons g gs) := by
  obtain ⟨_, p1, s1⟩ := h1
  obtain ⟨_, p2, s2⟩ := h2
  refine ⟨_, pgs_cons p1 p2 hs, fun φ M H σ r xs ds Q S er rx h => ?_⟩
  cases ds with
  | nil => exact h.elim
  | cons d ds =>
    obtain ⟨v, rr, rfl, r1, r2⟩ := rx.inv
    have h : (match (match g d r M with
      | .ok r1 M1 => gs ds r1 M1
      | _ => .no) with
      | .ok r1 M1 => ∀ σ' φ' H', Grow φ H φ' H' → Sto X.K φ' M1 H' → EnvR X.K φ' H' r1 σ' → Q σ' H'
      | _ => False) := h
    refine ⟨v, rr, rfl, s1 φ M H σ r v d _ S er r1 ?_⟩
    cases q : g d r M with
    | ok r3 M3 =>
      rw [q] at h
      dsimp only at h
      intro σ' φ' H' g' S' er'
      refine s2 φ' M3 H' σ' r3 rr ds _ S' er' (RepL.grow g' _ _ r2) ?_
      cases q2 : gs ds r3 M3 with
      | ok r4 M4 => rw [q2] at h; exact fun σ2 φ2 H2 g2 => h σ2 φ2 H2 (g'.trans g2)
      | _ => rw [q2] at h; exact h.elim
    | _ => rw [q] at h; exact h.elim
def gTupD (n : Nat) (gs : List D → Env' → Mem → Out Env') : DG := fun d r M => match d with
  | .tup ds => (match Nat.beq ds.length n with
    | true => gs ds r M
    | false => .no)
  | _ => .no
theorem dg_tup {es : List Expr} {k n : Nat} {gs : List D → Env' → Mem → Out Env'} (hc : X.calm = true) (h : DGsx X W es gs) (hn : (assignEach es X.env).length = n := by rfl) (hst : (assignEach es X.env).findIdx? (·.1) = none := by rfl) : DGx X W (.Tuple es k pos) (gTupD n gs) := by
  obtain ⟨_, p, s⟩ := h
  refine ⟨_, pg_tup hc p hn hst, fun φ M H σ r x d Q S er rx h => ?_⟩
  cases d with
  | tup ds =>
    unfold Rep at rx
    obtain ⟨a, xs, rfl, h1, h2⟩ := rx
    have h : (match (match Nat.beq ds.length n with
      | true => gs ds r M
      | false => .no) with
      | .ok r1 M1 => ∀ σ' φ' H', Grow φ H φ' H' → Sto X.K φ' M1 H' → EnvR X.K φ' H' r1 σ' → Q σ' H'
      | _ => False) := h
    cases hb : Nat.beq ds.length n with
    | true =>
      rw [hb] at h
      exact ⟨a, xs, rfl, h1.sq, by rw [h2.len]; exact Nat.eq_of_beq_eq_true hb, s φ M H σ r xs ds Q S er h2 h⟩
    | false => rw [hb] at h; exact h.elim
  | _ => exact h.elim
def dAsg (de : DE) (g : DG) : DS := fun r M => (de r M).bindS r fun d M1 => match g d r M1 with
  | .ok r1 M2 => .nx r1 M2
  | _ => .no
theorem sim_asg {K : Frg} {te : TE} {g : TG} {dg : DG} (he : SimE K W te de) (hg : SimG K W g dg) : SimS K W (tAsg te g) (dAsg de dg) := by
  intro φ M H σ r E S er h
  refine he φ M H σ r _ S er (OkS.bind er h fun d M1 x φ1 H1 _ g1 S1 r1 h1 => ?_)
  refine hg φ1 M1 H1 σ r x d _ S1 (er.grow g1) r1 ?_
  cases q : dg d r M1 with
  | ok r2 M2 => rw [q] at h1; exact h1
  | _ => rw [q] at h1; exact h1.elim
theorem ds_set {i : Nat} {x : Str} {pos' : Pos} (hN : X.N.Nodup) (hi : X.N[i]? = some x) (hx : Loc X.env.scope x) (he : DEx X W e de) (hs : swapsWith e (some (.Name x pos')) pos.line X.env = pure false := by rfl)
    (hf : X.fn x = true ∨ X.env.scope.names.lookup x = some .local := by first | exact .inl rfl | exact .inr rfl | assumption) : DSx X W (.Assign [.Name x pos'] e pos) (dAsg de (gSlot i)) := by
  obtain ⟨_, p, s⟩ := he
  exact ⟨_, ps_set hN hi hx p hs hf, sim_asg s sim_gName⟩
theorem ds_asg {tg : Expr} {dg : DG} (he : DEx X W e de) (hg : DGx X W tg dg) (hs : swapsWithSole [tg] e pos.line X.env = pure false := by rfl) (hw : swappedStores [tg] e X.env = pure none := by rfl)
    (h1 : (assignEach [tg] X.env).map (·.2) = [assign tg X.env] := by rfl) : DSx X W (.Assign [tg] e pos) (dAsg de dg) := by
  obtain ⟨_, p, s⟩ := he
  obtain ⟨_, p2, s2⟩ := hg
  exact ⟨_, ps_asg p p2 hs hw h1, sim_asg s s2⟩
/-- x op= e -/
def dAug (i : Nat) (f : F2) (de : DE) : DS := fun r M => match r[i]? with
  | some (some x) => (de r M).bindS r fun y M1 => match f x y M1 with
    | .ok z M2 => .nx (r.set i (some z)) M2
    | _ => .no
  | _ => .no
theorem ds_aug {i : Nat} {x : Str} {op : Operator} {ti : TIp} {f : F2} {pos' : Pos} (hN : X.N.Nodup) (hi : X.N[i]? = some x) (hx : Loc X.env.scope x) (he : DEx X W e de) (ho : PIp X op ti) (hf2 : Op2 X.K ti f)
    (hf : X.fn x = true ∨ X.env.scope.names.lookup x = some .local := by first | exact .inl rfl | exact .inr rfl | assumption) : DSx X W (.AugAssign (.Name x pos') op e pos) (dAug i f de) := by
  obtain ⟨_, p, s⟩ := he
  refine ⟨_, ps_aug hN hi hx p ho hf, fun φ M H σ r E S er h => ?_⟩
  unfold dAug at h
  split at h
  · rename_i d ed
    obtain ⟨v, e1, e2⟩ := er.at_ i d ed
    refine ⟨v, e1, s φ M H σ r _ S er (OkS.bind er h fun y M1 w φ1 H1 _ g1 S1 r1 h1 => ?_)⟩
    cases q : f d y M1 with
    | ok z M2 =>
      rw [q] at h1
      refine hf2 φ1 M1 H1 v w d y _ (fun _ _ _ => False) S1 (Rep.grow g1 _ _ e2) r1 ?_
      rw [q]
      exact fun b φ' H' g' S' r' => h1 _ φ' H' g' S' ((er.grow (g1.trans g')).set r')
    | _ => rw [q] at h1; exact h1.elim
  · exact h.elim
/-! ### loops -/
structure Src where
  items : List D
  chk : Mem → Bool
abbrev FzS (H H' : Hp) : Prop := ∀ a o u, H a = some (.frz o u) → H' a = some (.frz o u)
def Serves (K : Frg) (φ1 : Wd) (H1 : Hp) (src : Src) (J : It) : Prop := ∀ (i : Nat) φ M H, Mo φ1 H1 φ H → FzS H1 H → Sto K φ M H → src.chk M = true → (i = src.items.length → J.stop i H) ∧
  ∀ d, src.items[i]? = some d → J.go i H ∧ ∀ x H', J.yld i H x H' → ∃ φ', Grow φ H φ' H' ∧ Sto K φ' M H' ∧ Rep K φ' H' d x
abbrev DI := Env' → Mem → Out Src
def SimI (K : Frg) (W : WX) (wi : TI) (di : DI) : Prop := ∀ φ M H σ r R, Sto K φ M H → EnvR K φ H r σ → Okd K φ H (fun φ H => Serves K φ H) (di r M) R (fun c d H' => W c d σ H') → wi σ H R
def DIx (X : Cx) (W : WX) (tg iter : Expr) (di : DI) : Prop := ∃ wi, PI X tg iter wi ∧ SimI X.K W wi di
def forL (chk : Mem → Bool) (dg : DG) (body : DS) : List D → Env' → Mem → SO
  | [], r, M => (match chk M with
    | true => .nx r M
    | false => .no)
  | d :: ds, r, M => match chk M with
    | true => (match dg d r M with
      | .ok r1 M1 => (match body r1 M1 with
        | .nx r2 M2 => forL chk dg body ds r2 M2
        | .ct r2 M2 => forL chk dg body ds r2 M2
        | .bk r2 M2 => .nx r2 M2
        | o => o)
      | _ => .no)
    | false => .no
def dFor (di : DI) (dg : DG) (body : DS) : DS := fun r M => (di r M).bindS r fun src M1 => forL src.chk dg body src.items r M1
theorem sim_for {K : Frg} {wi : TI} {g : TG} {tb : TS} {di : DI} {dg : DG} {body : DS} (hi : SimI K W wi di) (hg : SimG K W g dg) (hb : SimS K W tb body) : SimS K W (tFor wi g tb) (dFor di dg body) := by
  intro φ M H σ r E S er h
  refine hi φ M H σ r _ S er (OkS.bind er h fun src M1 J φ1 H1 _ g1 S1 sv h1 => ?_)
  refine ⟨fun i m σ H => m = src.items.length - i ∧ i ≤ src.items.length ∧ ∃ φ M r, Grow φ1 H1 φ H ∧ Sto K φ M H ∧ EnvR K φ H r σ ∧ OkS K φ H (forL src.chk dg body (src.items.drop i) r M) E W,
    ⟨_, rfl, Nat.zero_le _, φ1, M1, r, Grow.refl, S1, er.grow g1, h1⟩, ?_⟩
  rintro i m σ2 H2 ⟨rfl, hi, φ2, M2, r2, g2, S2, er2, h2⟩
  by_cases hlt : i < src.items.length
  · have hd : src.items.drop i = src.items[i] :: src.items.drop (i + 1) := List.drop_eq_getElem_cons hlt
    rw [hd] at h2
    unfold forL at h2
    cases hc : src.chk M2 with
    | false => rw [hc] at h2; exact h2.elim
    | true =>
      rw [hc] at h2
      obtain ⟨_, sv2⟩ := sv i φ2 M2 H2 g2.mo g2.frz S2 hc
      obtain ⟨go, yl⟩ := sv2 src.items[i] (List.getElem?_eq_getElem hlt)
      refine .inr ⟨go, fun σ' H' => ∃ φ M r, Grow φ1 H1 φ H' ∧ Sto K φ M H' ∧ EnvR K φ H' r σ' ∧ OkS K φ H' (forL src.chk dg body (src.items.drop (i + 1)) r M) E W, fun σ' H' n => ⟨_, by omega, rfl, hlt, n⟩, fun x H3 hy => ?_⟩
      obtain ⟨φ3, g3, S3, r3⟩ := yl x H3 hy
      refine hg φ3 M2 H3 σ2 r2 x src.items[i] _ S3 (er2.grow g3) r3 ?_
      cases q : dg src.items[i] r2 M2 with
      | ok r4 M4 =>
        rw [q] at h2
        dsimp only at h2
        intro σ' φ' H' g' S' er'
        refine hb φ' M4 H' σ' r4 _ S' er' ?_
        have h3 := OkS.grow (g3.trans g') h2
        cases q2 : body r4 M4 with
        | nx r5 M5 => rw [q2] at h3; exact fun σ5 φ5 H5 g5 S5 er5 => ⟨φ5, M5, r5, (g2.trans (g3.trans g')).trans g5, S5, er5, OkS.grow g5 h3⟩
        | ct r5 M5 => rw [q2] at h3; exact fun σ5 φ5 H5 g5 S5 er5 => ⟨φ5, M5, r5, (g2.trans (g3.trans g')).trans g5, S5, er5, OkS.grow g5 h3⟩
        | bk r5 M5 => rw [q2] at h3; exact h3
        | rt d M5 => rw [q2] at h3; exact h3
        | ex x r5 M5 => rw [q2] at h3; exact h3
        | no => rw [q2] at h3; exact h3
      | _ => rw [q] at h2; exact h2.elim
  · have e : i = src.items.length := by omega
    subst e
    rw [List.drop_length] at h2
    unfold forL at h2
    cases hc : src.chk M2 with
    | false => rw [hc] at h2; exact h2.elim
    | true =>
      rw [hc] at h2
      exact .inl ⟨(sv _ φ2 M2 H2 g2.mo g2.frz S2 hc).1 rfl, h2 σ2 φ2 H2 Grow.refl S2 er2⟩
theorem ds_for {tg iter : Expr} {body : List Stmt} {di : DI} {dg : DG} {db : DS} (hp : PassesOwn (model X.prog X.w) X.A X.env X.xe) (hc : X.calm = true) (hi : DIx X W tg iter di) (hg : DGx X W tg dg) (hb : DBx X W body db)
    (hs : ∀ x, foldedSetIterable iter X.env x = pure x := by intro _; rfl) : DSx X W (.For tg iter body [] pos) (dFor di dg db) := by
  obtain ⟨_, p, s⟩ := hi
  obtain ⟨_, p1, s1⟩ := hg
  obtain ⟨_, p2, s2⟩ := hb
  exact ⟨_, ps_for hp hc p p1 p2 hs, sim_for s s1 s2⟩
def whileN (c : DT) (b : DS) : Nat → Env' → Mem → SO
  | 0, _, _ => .no
  | n + 1, r, M => (c r M).bindS r fun k M1 => match k with
    | true => (match b r M1 with
      | .nx r2 M2 => whileN c b n r2 M2
      | .ct r2 M2 => whileN c b n r2 M2
      | .bk r2 M2 => .nx r2 M2
      | o => o)
    | false => .nx r M1
def dWhile (n : Nat) (c : DT) (b : DS) : DS := fun r M => whileN c b n r M
theorem ds_while {c : Expr} {body : List Stmt} {db : DS} (n : Nat) (hp : PassesOwn (model X.prog X.w) X.A X.env X.xe) (hc : DTx X W c dt) (hb : DBx X W body db) : DSx X W (.While c body [] pos) (dWhile n dt db) := by
  obtain ⟨_, p, s⟩ := hc
  obtain ⟨_, p1, s1⟩ := hb
  refine ⟨_, ps_while hp p p1, fun φ M H σ r E S er h => ?_⟩
  refine ⟨fun m σ H => ∃ φ M r, Sto X.K φ M H ∧ EnvR X.K φ H r σ ∧ OkS X.K φ H (whileN dt db m r M) E W, ⟨n, φ, M, r, S, er, h⟩, ?_⟩
  rintro m σ2 H2 ⟨φ2, M2, r2, S2, er2, h2⟩
  cases m with
  | zero => exact h2.elim
  | succ m =>
    unfold whileN at h2
    refine s φ2 M2 H2 σ2 r2 _ S2 er2 (OkS.bind er2 h2 fun k M3 b φ3 H3 _ g3 S3 r3 h3 => ?_)
    have q : b = k := r3
    subst q
    cases b with
    | false => rw [if_neg Bool.false_ne_true]; exact h3 σ2 φ3 H3 Grow.refl S3 (er2.grow g3)
    | true =>
      rw [if_pos rfl]
      refine ⟨fun σ' H' => ∃ φ M r, Sto X.K φ M H' ∧ EnvR X.K φ H' r σ' ∧ OkS X.K φ H' (whileN dt db m r M) E W, fun σ' H' n => ⟨m, Nat.lt_succ_self m, n⟩, ?_⟩
      refine s1 φ3 M3 H3 σ2 r2 _ S3 (er2.grow g3) ?_
      have h3 : OkS X.K φ3 H3 (match db r2 M3 with
        | .nx r2 M2 => whileN dt db m r2 M2
        | .ct r2 M2 => whileN dt db m r2 M2
        | .bk r2 M2 => .nx r2 M2
        | o => o) E W := h3
      cases q2 : db r2 M3 with
      | nx r5 M5 => rw [q2] at h3; exact fun σ5 φ5 H5 g5 S5 er5 => ⟨φ5, M5, r5, S5, er5, OkS.grow g5 h3⟩
      | ct r5 M5 => rw [q2] at h3; exact fun σ5 φ5 H5 g5 S5 er5 => ⟨φ5, M5, r5, S5, er5, OkS.grow g5 h3⟩
      | bk r5 M5 => rw [q2] at h3; exact h3
      | rt d M5 => rw [q2] at h3; exact h3
      | ex x r5 M5 => rw [q2] at h3; exact h3
      | no => rw [q2] at h3; exact h3
/-! ### raise X('..'), X an own class without __init__ -/
def dRaise (c : Str) : DS := fun r M => .ex ⟨c, [], []⟩ r M
/-- what the top says of such a class -/
structure ExcOk (K : Frg) (mg : Str → Option Value) (x : Str) : Prop where
  g : mg x = some (.ref (He.ga K x))
  e : PySem.W.excIn K (He.ga K x) He.veBase "ValueError.__new__" = true
  k : PySem.W.keepIn K (.ref (He.ga K x)) = true
  b : PySem.W.subIn K (.ref (He.ga K x)) (.type "BaseException") = some true
  t : PySem.W.typeIn K (.ref (He.ga K x)) = some (.type "type")
theorem ds_raise {x m : Str} {j : Nat} {p p2 pos pos2 : Pos} (T : ExcOk X.K X.mg x) (hc : X.calm = true) (tk : Takes X W) (hg : Gl X x) (hdb : (x == ("__debug__" : Str)) = false := by decide) :
    DSx X W (.Raise (some (.Call (.Name x p) [.Constant (.str m) j p2] [] pos)) none pos2) (dRaise x) := by
  refine ⟨_, ps_raise hc tk (pmk_own PySem.F.excBase_ValueError T.e T.g T.k (raises_own T.b T.t) hg hdb), fun φ M H σ r E S er h => ?_⟩
  exact h _ _ σ φ H Grow.refl S er ⟨rfl, [], .inl ⟨rfl, rfl⟩, rfl, RepL.nil⟩
end

/-! ### a def by its body -/
def runB (n : Nat) (b : DS) : FN := fun ds M => match b (ds.map some ++ List.replicate (n - ds.length) none) M with
  | .nx _ M1 => .ok .non M1
  | .rt d M1 => .ok d M1
  | .ex e _ M1 => .ex e M1
  | _ => .no
section
variable {P : Program} {w : World} {K : Frg} {mg : Str → Option Value} {base : Heap}
theorem fn_by {x qual : Str} {params : Arguments} {body : List Stmt} {scope : Scope} {dvs : List V} {kws : List (Str × V)} {f : Addr} {fd : FuncData} {N ps : List Str} {k : Nat} {b : DS} {F : FN} (G : FunD K x qual params body scope dvs kws f fd) (S : FnScope N ps scope)
    (hb : ∀ (cdv : Value) (A : Around) (outer : List Env) (s : Shared) (H : Hp) (E : XK), Room k (A.deeper (envOfC qual scope s.heap.objs.size f cdv)) → Takes (cxOf (L2.CX P w) P w K mg base N qual scope f cdv A outer s H E) (fun cls d _ H => E cls d H) →
      PassesOwn (model P w) (A.deeper (envOfC qual scope s.heap.objs.size f cdv)) (envOfC qual scope s.heap.objs.size f cdv) (cxOf (L2.CX P w) P w K mg base N qual scope f cdv A outer s H E).xe →
      DBx (cxOf (L2.CX P w) P w K mg base N qual scope f cdv A outer s H E) (fun cls d _ H => E cls d H) body b)
    (hF : ∀ ds M, ds.length = ps.length → F ds M ≠ .no → F ds M = runB N.length b ds M) : FnOk P w K mg base (L2.CX P w) (k + 1) f fd ps (SpD K ps.length F) := by
  refine G.ok S (fun vs H Q E h => ?_) (fun cdv A outer s H vs Q E hr h => ?_)
  · obtain ⟨φ, M, ds, e, _, r, _⟩ := h
    rw [r.len, e]
  · obtain ⟨φ, M, ds, e, St, r, h⟩ := h
    obtain ⟨t, p, sim⟩ := hb cdv A outer s H E hr (takes_of rfl rfl rfl rfl) (passes_of rfl)
    refine ⟨t, p, sim φ M H _ (ds.map some ++ List.replicate (N.length - ds.length) none) _ St (EnvR.start N r) ?_⟩
    have ne : F ds M ≠ .no := fun z => by rw [z] at h; exact h
    rw [hF ds M e ne] at h
    unfold runB at h
    cases q : b (ds.map some ++ List.replicate (N.length - ds.length) none) M with
    | nx r1 M1 => rw [q] at h; exact fun σ' φ' H' g S' er' => h _ φ' H' g S' rep_non
    | rt d M1 => rw [q] at h; exact h
    | ex x r1 M1 => rw [q] at h; exact fun c dd σ' φ' H' g S' _ x => h c dd φ' H' g S' x
    | bk r1 M1 => rw [q] at h; exact h.elim
    | ct r1 M1 => rw [q] at h; exact h.elim
    | no => rw [q] at h; exact h.elim
end
end LF
set_option Elab.async false
set_option linter.all false
set_option maxRecDepth 100000
set_option maxHeartbeats 2000000
/-! LF5: what operators and built-ins do on plain data. -/
namespace LF
open PySem PySem.Spec PyProof.Rows L2
section
variable {K : Frg} {φ : Wd} {M : Mem} {H : Hp} {W : XK} {Q : VK}
theorem okI {i : Int} (S : Sto K φ M H) (h : Okd K φ H (RE K) (.ok (.int i) M) Q W) : Q (.int i) H := h.here S rep_int
theorem okB {i : Bool} (S : Sto K φ M H) (h : Okd K φ H (RE K) (.ok (.bl i) M) Q W) : Q (.bl i) H := h.here S rep_bl
theorem okT {i : Str} (S : Sto K φ M H) (h : Okd K φ H (RE K) (.ok (.str i) M) Q W) : Q (.str i) H := h.here S rep_str
theorem rep_int_inv {i : Int} {v : V} (h : Rep K φ H (.int i) v) : v = .int i := by unfold Rep at h; exact h
theorem rep_str_inv {i : Str} {v : V} (h : Rep K φ H (.str i) v) : v = .str i := by unfold Rep at h; exact h
theorem rep_bl_inv {i : Bool} {v : V} (h : Rep K φ H (.bl i) v) : v = .bl i := by unfold Rep at h; exact h
theorem rep_non_inv {v : V} (h : Rep K φ H .non v) : v = .non := by unfold Rep at h; exact h
end
/-! ### arithmetic -/
def fI2 (p : Int → Int → Bool) (g : Int → Int → D) : F2 := fun x y M => match x, y with
  | .int i, .int j => (match p i j with
    | true => .ok (g i j) M
    | false => .no)
  | _, _ => .no
theorem op2_I {K : Frg} {C : Int → Int → Prop} {p : Int → Int → Bool} {g : Int → Int → Int} (hp : ∀ i j, p i j = true → C i j) : Op2 K (rI C fun i j => .int (g i j)) (fI2 p fun i j => .int (g i j)) := by
  intro φ M H x y a b Q W S ra rb h
  cases a with
  | int i =>
    cases b with
    | int j =>
      have h : Okd K φ H (RE K) (match p i j with
        | true => .ok (.int (g i j)) M
        | false => .no) Q W := h
      cases q : p i j with
      | true => rw [q] at h; exact ⟨i, j, rep_int_inv ra, rep_int_inv rb, hp i j q, okI S h⟩
      | false => rw [q] at h; exact h.elim
    | _ => exact h.elim
  | _ => cases b <;> exact h.elim
def yes2 : Int → Int → Bool := fun _ _ => true
theorem op2_I0 {K : Frg} {g : Int → Int → Int} : Op2 K (rI0 fun i j => .int (g i j)) (fI2 yes2 fun i j => .int (g i j)) := by
  intro φ M H x y a b Q W S ra rb h
  cases a with
  | int i =>
    cases b with
    | int j => exact ⟨i, j, rep_int_inv ra, rep_int_inv rb, okI S h⟩
    | _ => exact h.elim
  | _ => cases b <;> exact h.elim
theorem op2_B0 {K : Frg} {g : Int → Int → Bool} : Op2 K (rI0 fun i j => .bl (g i j)) (fI2 yes2 fun i j => .bl (g i j)) := by
  intro φ M H x y a b Q W S ra rb h
  cases a with
  | int i =>
    cases b with
    | int j => exact ⟨i, j, rep_int_inv ra, rep_int_inv rb, okB S h⟩
    | _ => exact h.elim
  | _ => cases b <;> exact h.elim
def small64 (i : Int) : Bool := decide (-(2 ^ 64) < i) && decide (i < 2 ^ 64)
theorem small64_ok {i : Int} (h : small64 i = true) : -(2 ^ 64) < i ∧ i < 2 ^ 64 := by
  obtain ⟨a, b⟩ := Bool.and_eq_true_iff.mp h
  exact ⟨of_decide_eq_true a, of_decide_eq_true b⟩
def fSub : F2 := fI2 yes2 fun i j => .int (i - j)
def fFdiv : F2 := fI2 (fun _ j => decide (0 < j) && decide (j < 1073741824)) fun i j => .int (i / j)
def fMod : F2 := fI2 (fun _ j => decide (0 < j)) fun i j => .int (i % j)
def fShr : F2 := fI2 (fun _ j => decide (0 ≤ j)) fun i j => .int (i / 2 ^ j.toNat)
def fShl : F2 := fI2 (fun i j => (decide (0 ≤ j) && decide (j ≤ 1000000)) && small64 i) fun i j => .int (i * 2 ^ j.toNat)
def fBitAnd : F2 := fI2 yes2 fun i j => .int (Builtin.bitAnd i j)
def fBitOr : F2 := fI2 yes2 fun i j => .int (Builtin.bitOr i j)
def fLt : F2 := fI2 yes2 fun i j => .bl (decide (i < j))
def fLe : F2 := fI2 yes2 fun i j => .bl (decide (i ≤ j))
def fGt : F2 := fI2 yes2 fun i j => .bl (decide (j < i))
def fGe : F2 := fI2 yes2 fun i j => .bl (decide (j ≤ i))
theorem o_sub {K : Frg} : Op2 K (rI0 fun i j => .int (i - j)) fSub := op2_I0
theorem o_fdiv {K : Frg} : Op2 K (rI CDiv fun i j => .int (i / j)) fFdiv := op2_I fun i j h => by
  obtain ⟨a, b⟩ := Bool.and_eq_true_iff.mp h
  exact ⟨of_decide_eq_true a, of_decide_eq_true b⟩
theorem o_mod {K : Frg} : Op2 K (rI (fun _ j => 0 < j) fun i j => .int (i % j)) fMod := op2_I fun i j h => of_decide_eq_true h
theorem o_shr {K : Frg} : Op2 K (rI (fun _ j => 0 ≤ j) fun i j => .int (i / 2 ^ j.toNat)) fShr := op2_I fun i j h => of_decide_eq_true h
theorem o_shl {K : Frg} : Op2 K (rI CPow fun i j => .int (i * 2 ^ j.toNat)) fShl := op2_I fun i j h => by
  obtain ⟨a, b⟩ := Bool.and_eq_true_iff.mp h
  obtain ⟨c, d⟩ := Bool.and_eq_true_iff.mp a
  obtain ⟨e, f⟩ := small64_ok b
  exact ⟨of_decide_eq_true c, of_decide_eq_true d, by omega⟩
theorem o_and {K : Frg} : Op2 K (rI0 fun i j => .int (Builtin.bitAnd i j)) fBitAnd := op2_I0
theorem o_or {K : Frg} : Op2 K (rI0 fun i j => .int (Builtin.bitOr i j)) fBitOr := op2_I0
theorem o_lt {K : Frg} : Op2 K (rI0 fun i j => .bl (decide (i < j))) fLt := op2_B0
theorem o_le {K : Frg} : Op2 K (rI0 fun i j => .bl (decide (i ≤ j))) fLe := op2_B0
theorem o_gt {K : Frg} : Op2 K (rI0 fun i j => .bl (decide (j < i))) fGt := op2_B0
theorem o_ge {K : Frg} : Op2 K (rI0 fun i j => .bl (decide (j ≤ i))) fGe := op2_B0
def fNeg : F1 := fun x M => match x with
  | .int i => .ok (.int (-i)) M
  | _ => .no
theorem o_neg {K : Frg} : Op1 K (rU fun i => .int (-i)) fNeg := by
  intro φ M H x a Q W S ra h
  cases a with
  | int i => exact ⟨i, rep_int_inv ra, okI S h⟩
  | _ => exact h.elim
/-! ### + and * of ints and texts -/
def rAddX : R2 := fun x y H Q => (∃ i j, x = .int i ∧ y = .int j ∧ Q (.int (i + j)) H) ∨ ∃ i j, x = .str i ∧ y = .str j ∧ i.length + j.length ≤ sizeLine ∧ Q (.str (i ++ j)) H
theorem opr_add {X : Cx} : OpR X (binaryOp .Add) rAddX := OpR.or (r := fun x y H Q => ∃ i j, x = .int i ∧ y = .int j ∧ Q (.int (i + j)) H) op_add op_add_str
def fAdd : F2 := fun x y M => match x, y with
  | .int i, .int j => .ok (.int (i + j)) M
  | .str a, .str b => (match lineB (a.length + b.length) with
    | true => .ok (.str (a ++ b)) M
    | false => .no)
  | _, _ => .no
theorem o_add {K : Frg} : Op2 K rAddX fAdd := by
  intro φ M H x y a b Q W S ra rb h
  cases a with
  | int i =>
    cases b with
    | int j => exact .inl ⟨i, j, rep_int_inv ra, rep_int_inv rb, okI S h⟩
    | _ => exact h.elim
  | str s =>
    cases b with
    | str t =>
      have h : Okd K φ H (RE K) (match lineB (s.length + t.length) with
        | true => .ok (.str (s ++ t)) M
        | false => .no) Q W := h
      cases q : lineB (s.length + t.length) with
      | true => rw [q] at h; exact .inr ⟨s, t, rep_str_inv ra, rep_str_inv rb, lineB_ok q, okT S h⟩
      | false => rw [q] at h; exact h.elim
    | _ => exact h.elim
  | _ => cases b <;> exact h.elim
def fMul : F2 := fI2 (fun i j => small64 i || small64 j) fun i j => .int (i * j)
theorem o_mul {K : Frg} : Op2 K (rI CMul fun i j => .int (i * j)) fMul := op2_I fun i j h => by
  rcases Bool.or_eq_true_iff.mp h with a | a
  · exact .inl (small64_ok a)
  · exact .inr (small64_ok a)
/-! ### == and != -/
mutual
/-- data without objects, at most so deep, texts of Python's signs -/
def D.lay : Nat → D → Bool
  | _, .non => true
  | _, .bl _ => true
  | _, .int _ => true
  | _, .str x => PyData.strOk x
  | 0, .tup _ => false
  | 0, .lst _ => false
  | n + 1, .tup ds => D.layL n ds
  | n + 1, .lst ds => D.layL n ds
  | _, .dic _ _ => false
  | _, .obj _ => false
  | _, .exc _ _ _ => false
  | _, .ins _ _ _ => false
def D.layL : Nat → List D → Bool
  | _, [] => true
  | n, d :: ds => D.lay n d && D.layL n ds
end
mutual
def D.eqb : D → D → Bool
  | .non, .non => true
  | .bl a, .bl b => a == b
  | .bl a, .int j => (if a then 1 else 0) == j
  | .int i, .bl b => i == (if b then 1 else 0)
  | .int i, .int j => i == j
  | .str x, .str y => x == y
  | .tup xs, .tup ys => D.eqbL xs ys
  | .lst xs, .lst ys => D.eqbL xs ys
  | _, _ => false
def D.eqbL : List D → List D → Bool
  | [], [] => true
  | x :: xs, y :: ys => D.eqb x y && D.eqbL xs ys
  | _, _ => false
end
mutual
def D.pd : D → PyData
  | .non => .none
  | .bl b => .bool b
  | .int i => .int i
  | .str x => .str x
  | .tup ds => .tuple (D.pdL ds)
  | .lst ds => .list (D.pdL ds)
  | _ => .none
def D.pdL : List D → List PyData
  | [] => []
  | d :: ds => D.pd d :: D.pdL ds
end
mutual
theorem lay_pd : ∀ (n : Nat) (d : D), D.lay n d = true → (D.pd d).canLay0 = true ∧ (D.pd d).depth ≤ n
  | _, .non, _ => ⟨rfl, Nat.zero_le _⟩
  | _, .bl _, _ => ⟨rfl, Nat.zero_le _⟩
  | _, .int _, _ => ⟨rfl, Nat.zero_le _⟩
  | n, .str x, h => by
    cases n <;> exact ⟨(show PyData.strOk x = true by simpa [D.lay] using h), Nat.zero_le _⟩
  | 0, .tup _, h => by simp [D.lay] at h
  | 0, .lst _, h => by simp [D.lay] at h
  | n + 1, .tup ds, h => by
    obtain ⟨a, b⟩ := layL_pd n ds (by simpa [D.lay] using h)
    exact ⟨a, by show PyData.depthAll _ + 1 ≤ n + 1; omega⟩
  | n + 1, .lst ds, h => by
    obtain ⟨a, b⟩ := layL_pd n ds (by simpa [D.lay] using h)
    exact ⟨a, by show PyData.depthAll _ + 1 ≤ n + 1; omega⟩
  | n, .dic _ _, h => by cases n <;> simp [D.lay] at h
  | n, .obj _, h => by cases n <;> simp [D.lay] at h
  | n, .exc _ _ _, h => by cases n <;> simp [D.lay] at h
  | n, .ins _ _ _, h => by cases n <;> simp [D.lay] at h
theorem layL_pd : ∀ (n : Nat) (ds : List D), D.layL n ds = true → PyData.canLayAll0 (D.pdL ds) = true ∧ PyData.depthAll (D.pdL ds) ≤ n
  | _, [], _ => ⟨rfl, Nat.zero_le _⟩
  | n, d :: ds, h => by
    unfold D.layL at h
    obtain ⟨h1, h2⟩ := Bool.and_eq_true_iff.mp h
    obtain ⟨a, b⟩ := lay_pd n d h1
    obtain ⟨c, e⟩ := layL_pd n ds h2
    exact ⟨by show ((D.pd d).canLay0 && _) = true; rw [a, c]; rfl, by show max _ _ ≤ n; omega⟩
end
theorem lay_shaped {d : D} (h : D.lay 64 d = true) : SeqAt.shaped (D.pd d) = true := by
  obtain ⟨a, b⟩ := lay_pd 64 d h
  unfold SeqAt.shaped
  rw [a, decide_eq_true b]; rfl
mutual
theorem eqb_pd : ∀ (n m : Nat) (d e : D), D.lay n d = true → D.lay m e = true → PyData.eqv (D.pd d) (D.pd e) = D.eqb d e
  | n, m, d, e, h, k => by
    cases d <;> cases e <;> first
      | rfl
      | (simp only [D.pd, PyData.eqv, D.eqb]; done)
      | (cases n <;> simp [D.lay] at h; done)
      | (cases m <;> simp [D.lay] at k; done)
      | (rename_i xs ys
         cases n with
         | zero => simp [D.lay] at h
         | succ n =>
           cases m with
           | zero => simp [D.lay] at k
           | succ m =>
             have q := eqbL_pd n m xs ys (by simpa [D.lay] using h) (by simpa [D.lay] using k)
             simpa only [D.pd, PyData.eqv, D.eqb] using q)
theorem eqbL_pd : ∀ (n m : Nat) (ds es : List D), D.layL n ds = true → D.layL m es = true → PyData.eqvAll (D.pdL ds) (D.pdL es) = D.eqbL ds es
  | _, _, [], [], _, _ => rfl
  | _, _, [], _ :: _, _, _ => rfl
  | _, _, _ :: _, [], _, _ => rfl
  | n, m, d :: ds, e :: es, h, k => by
    unfold D.layL at h k
    obtain ⟨h1, h2⟩ := Bool.and_eq_true_iff.mp h
    obtain ⟨k1, k2⟩ := Bool.and_eq_true_iff.mp k
    have a := eqb_pd n m d e h1 k1
    have b := eqbL_pd n m ds es h2 k2
    simp only [D.pdL, PyData.eqvAll, D.eqbL, a, b]
end
section
variable {K : Frg} {φ : Wd} {H : Hp}
mutual
theorem rep_dp : ∀ (n : Nat) (d : D) (v : V), D.lay n d = true → Rep K φ H d v → Dp K H v (D.pd d)
  | _, .non, v, _, h => by rw [rep_non_inv h]; exact .non
  | _, .bl b, v, _, h => by rw [rep_bl_inv h]; exact .bl b
  | _, .int i, v, _, h => by rw [rep_int_inv h]; exact .int i
  | _, .str x, v, _, h => by rw [rep_str_inv h]; exact .str x
  | 0, .tup _, _, h, _ => by simp [D.lay] at h
  | 0, .lst _, _, h, _ => by simp [D.lay] at h
  | n + 1, .tup ds, v, h, r => by
    unfold Rep at r
    obtain ⟨a, xs, rfl, h1, h2⟩ := r
    exact .tup h1.sq (repL_dp n ds xs (by simpa [D.lay] using h) h2)
  | n + 1, .lst ds, v, h, r => by
    unfold Rep at r
    obtain ⟨a, xs, rfl, h1, h2⟩ := r
    exact .lst h1.sq (repL_dp n ds xs (by simpa [D.lay] using h) h2)
  | n, .dic _ _, _, h, _ => by cases n <;> simp [D.lay] at h
  | n, .obj _, _, h, _ => by cases n <;> simp [D.lay] at h
  | n, .exc _ _ _, _, h, _ => by cases n <;> simp [D.lay] at h
  | n, .ins _ _ _, _, h, _ => by cases n <;> simp [D.lay] at h
theorem repL_dp : ∀ (n : Nat) (ds : List D) (vs : List V), D.layL n ds = true → RepL K φ H ds vs → DpAll K H vs (D.pdL ds)
  | _, [], vs, _, h => by rw [h.inv0]; exact .nil
  | n, d :: ds, vs, h, r => by
    obtain ⟨v, w, rfl, r1, r2⟩ := r.inv
    unfold D.layL at h
    obtain ⟨h1, h2⟩ := Bool.and_eq_true_iff.mp h
    exact .cons (rep_dp n d v h1 r1) (repL_dp n ds w h2 r2)
end
end
def fEq : F2 := fun x y M => match D.lay 64 x && D.lay 64 y with
  | true => .ok (.bl (D.eqb x y)) M
  | false => .no
def fNe : F2 := fun x y M => match D.lay 64 x && D.lay 64 y with
  | true => .ok (.bl (!D.eqb x y)) M
  | false => .no
theorem o_eq {K : Frg} : Op2 K (rEqD K) fEq := by
  intro φ M H x y a b Q W S ra rb h
  unfold fEq at h
  cases q : D.lay 64 a && D.lay 64 b with
  | false => rw [q] at h; exact h.elim
  | true =>
    rw [q] at h
    obtain ⟨h1, h2⟩ := Bool.and_eq_true_iff.mp q
    refine ⟨_, _, rep_dp 64 a x h1 ra, rep_dp 64 b y h2 rb, lay_shaped h1, lay_shaped h2, ?_⟩
    rw [eqb_pd 64 64 a b h1 h2]
    exact okB S h
theorem o_ne {K : Frg} : Op2 K (rNeD K) fNe := by
  intro φ M H x y a b Q W S ra rb h
  unfold fNe at h
  cases q : D.lay 64 a && D.lay 64 b with
  | false => rw [q] at h; exact h.elim
  | true =>
    rw [q] at h
    obtain ⟨h1, h2⟩ := Bool.and_eq_true_iff.mp q
    refine ⟨_, _, rep_dp 64 a x h1 ra, rep_dp 64 b y h2 rb, lay_shaped h1, lay_shaped h2, ?_⟩
    rw [eqb_pd 64 64 a b h1 h2]
    exact okB S h
/-! ### s in t, s not in t: one sign -/
def fInS (neg : Bool) : F2 := fun x y M => match x, y with
  | .str a, .str b => (match a.cps.toList with
    | [c] => .ok (.bl (if neg then !decide (c ∈ b.cps.toList) else decide (c ∈ b.cps.toList))) M
    | _ => .no)
  | _, _ => .no
theorem str_one {a : Str} {c : Nat} (h : a.cps.toList = [c]) : a = ⟨#[c]⟩ := by
  obtain ⟨l⟩ := a
  obtain ⟨l⟩ := l
  simp only at h
  rw [h]
def rInX : R2 := fun x y H Q => ∃ (c : Nat) (z : Str), x = .str ⟨#[c]⟩ ∧ y = .str z ∧ Q (.bl (decide (c ∈ z.cps.toList))) H
def rNotInX : R2 := fun x y H Q => ∃ (c : Nat) (z : Str), x = .str ⟨#[c]⟩ ∧ y = .str z ∧ Q (.bl (!decide (c ∈ z.cps.toList))) H
theorem opr_in {X : Cx} : OpR X (compareOp .In) rInX := op_in_sign
theorem opr_notin {X : Cx} : OpR X (compareOp .NotIn) rNotInX := op_notIn_sign
theorem o_in {K : Frg} : Op2 K rInX (fInS false) := by
  intro φ M H x y a b Q W S ra rb h
  cases a with
  | str s =>
    cases b with
    | str t =>
      have h : Okd K φ H (RE K) (match s.cps.toList with
        | [c] => .ok (.bl (if false then !decide (c ∈ t.cps.toList) else decide (c ∈ t.cps.toList))) M
        | _ => .no) Q W := h
      split at h
      · rename_i c q
        exact ⟨c, t, by rw [rep_str_inv ra, str_one q], rep_str_inv rb, okB S h⟩
      · exact h.elim
    | _ => exact h.elim
  | _ => cases b <;> exact h.elim
theorem o_notin {K : Frg} : Op2 K rNotInX (fInS true) := by
  intro φ M H x y a b Q W S ra rb h
  cases a with
  | str s =>
    cases b with
    | str t =>
      have h : Okd K φ H (RE K) (match s.cps.toList with
        | [c] => .ok (.bl (if true then !decide (c ∈ t.cps.toList) else decide (c ∈ t.cps.toList))) M
        | _ => .no) Q W := h
      split at h
      · rename_i c q
        exact ⟨c, t, by rw [rep_str_inv ra, str_one q], rep_str_inv rb, okB S h⟩
      · exact h.elim
    | _ => exact h.elim
  | _ => cases b <;> exact h.elim
end LF
set_option Elab.async false
set_option linter.all false
set_option maxRecDepth 100000
set_option maxHeartbeats 2000000
/-! LF6: items by place, lengths, what is walked, comprehensions. -/
namespace LF
open PySem PySem.Spec PyProof.Rows L2
section
variable {K : Frg} {φ : Wd} {M : Mem} {H : Hp}
theorem rep_atI {ds : List D} {xs : List V} {i : Int} {d : D} (r : RepL K φ H ds xs) (h : atI ds i = some d) : ∃ v, atI xs i = some v ∧ Rep K φ H d v := by
  unfold atI at h ⊢
  rw [r.len]
  cases e : ixN ds.length i with
  | none => rw [e] at h; cases h
  | some j =>
    rw [e] at h
    exact r.get h
/-- what a thing's items are: a tuple's, a list's -/
def seqOf (M : Mem) : D → Option (List D)
  | .tup ds => some ds
  | .lst ds => some ds
  | .obj n => (match M[n]? with
    | some (.lst ds) => some ds
    | some (.ro ds) => some ds
    | _ => none)
  | _ => none
theorem seq_rep {d : D} {v : V} {ds : List D} (S : Sto K φ M H) (r : Rep K φ H d v) (h : seqOf M d = some ds) : ∃ a xs, v = .ref a ∧ (SqL K H a xs ∨ SqT K H a xs) ∧ RepL K φ H ds xs := by
  cases d with
  | tup es =>
    unfold Rep at r
    obtain ⟨a, xs, e, h1, h2⟩ := r
    cases h
    exact ⟨a, xs, e, .inr h1.sq, h2⟩
  | lst es =>
    unfold Rep at r
    obtain ⟨a, xs, e, h1, h2⟩ := r
    cases h
    exact ⟨a, xs, e, .inl h1.sq, h2⟩
  | obj n =>
    unfold Rep at r
    obtain ⟨a, h1, h2⟩ := r
    have h : (match M[n]? with
      | some (.lst ds) => some ds
      | some (.ro ds) => some ds
      | _ => none) = some ds := h
    split at h
    · rename_i es q
      cases h
      obtain ⟨xs, e1, e2⟩ := S.ob n a _ h1 q
      exact ⟨a, xs, h2, .inl (SqL.of e1), e2⟩
    · rename_i es q
      cases h
      obtain ⟨xs, e1, e2⟩ := S.ob n a _ h1 q
      exact ⟨a, xs, h2, .inl (.inl e1), e2⟩
    · cases h
  | _ => cases h
end
/-! ### x[i] -/
def fIx : F2 := fun x y M => match x, y with
  | .str s, .int i => (match lineB s.length, atI s.cps.toList i with
    | true, some c => .ok (.str ⟨#[c]⟩) M
    | _, _ => .no)
  | d, .int i => (match seqOf M d with
    | some ds => liftO (atI ds i) M
    | none => .no)
  | _, _ => .no
theorem o_ix {K : Frg} : Op2 K (rIx K) fIx := by
  intro φ M H x y a b Q W S ra rb h
  cases b with
  | int i =>
    have hy := rep_int_inv rb
    have seq : Okd K φ H (RE K) (match seqOf M a with
      | some ds => liftO (atI ds i) M
      | none => .no) Q W → rIx K x y H Q := fun h => by
      cases e : seqOf M a with
      | none => rw [e] at h; exact h.elim
      | some ds =>
        rw [e] at h
        obtain ⟨p, xs, hx, hs, r⟩ := seq_rep S ra e
        have h : Okd K φ H (RE K) (liftO (atI ds i) M) Q W := h
        cases e2 : atI ds i with
        | none => rw [e2] at h; exact h.elim
        | some d =>
          rw [e2] at h
          obtain ⟨v, h1, h2⟩ := rep_atI r e2
          have q : Q v H := h.here S h2
          rcases hs with hs | hs
          · exact .inl ⟨p, xs, i, v, hx, hy, hs, h1, q⟩
          · exact .inr (.inl ⟨p, xs, i, v, hx, hy, hs, h1, q⟩)
    cases a with
    | str s =>
      have h : Okd K φ H (RE K) (match lineB s.length, atI s.cps.toList i with
        | true, some c => .ok (.str ⟨#[c]⟩) M
        | _, _ => .no) Q W := h
      cases e1 : lineB s.length with
      | false => rw [e1] at h; exact h.elim
      | true =>
        cases e2 : atI s.cps.toList i with
        | none => rw [e1, e2] at h; exact h.elim
        | some c =>
          rw [e1, e2] at h
          exact .inr (.inr ⟨s, i, c, rep_str_inv ra, hy, lineB_ok e1, e2, okT S h⟩)
    | _ => exact seq h
  | _ => cases a <;> exact h.elim
section
variable {X : Cx} {W : WX} {pos : Pos} {a b : Expr} {da db : DE}
theorem de_ix (ha : DEx X W a da) (hb : DEx X W b db) (hs : PlainIx b := by intro _ _; rfl) : DEx X W (.Subscript a b pos) (dBin fIx da db) := by
  obtain ⟨_, p1, s1⟩ := ha
  obtain ⟨_, p2, s2⟩ := hb
  exact ⟨_, pe_ix ix_seq p1 p2 hs, sim_op o_ix s1 s2⟩
end
/-! ### len -/
theorem CallR.or' {X : Cx} {f : Value} {r r' : List V → Hp → VK → Prop} (h : CallR X f r) (h' : CallR X f r') : CallR X f (fun xs H Q => r xs H Q ∨ r' xs H Q) := by
  intro pins s σ H xs us Q I r q
  rcases q with q | q
  · exact h pins s σ H xs us Q I r q
  · exact h' pins s σ H xs us Q I r q
def rLenX (K : Frg) : List V → Hp → VK → Prop := fun xs H Q => (∃ x n, xs = [x] ∧ LenV K x H n ∧ Q (.int n) H) ∨ ∃ d kvs, xs = [.ref d] ∧ H d = some (.dK kvs) ∧ Q (.int kvs.length) H
def fLen : FN := fun ds M => match ds with
  | [.str s] => (match lineB s.length with
    | true => .ok (.int s.length) M
    | false => .no)
  | [.dic ks _] => .ok (.int ks.length) M
  | [.obj n] => (match M[n]? with
    | some (.dic kvs) => .ok (.int kvs.length) M
    | some (.lst es) => .ok (.int es.length) M
    | some (.ro es) => .ok (.int es.length) M
    | _ => .no)
  | [.tup es] => .ok (.int es.length) M
  | [.lst es] => .ok (.int es.length) M
  | _ => .no
theorem o_len {K : Frg} : OpN K (rLenX K) fLen := by
  intro φ M H xs ds Q W S r h
  have seq : ∀ (d : D) (es : List D) (v : V), xs = [v] → Rep K φ H d v → seqOf M d = some es → Okd K φ H (RE K) (.ok (.int es.length) M) Q W → rLenX K xs H Q := fun d es v hx rv e h => by
    obtain ⟨p, ys, hv, hs, r⟩ := seq_rep S rv e
    have q := okI S h
    rw [← r.len] at q
    refine .inl ⟨v, ys.length, hx, ?_, q⟩
    rw [hv]
    rcases hs with hs | hs
    · exact .inl ⟨ys, hs, rfl⟩
    · exact .inr ⟨ys, hs, rfl⟩
  cases ds with
  | nil => exact h.elim
  | cons d r2 =>
    cases r2 with
    | cons d2 r3 => cases d <;> exact h.elim
    | nil =>
      obtain ⟨v, vr, e, rv, rr⟩ := r.inv
      have e2 := rr.inv0
      subst e2
      cases d with
      | str s =>
        have h : Okd K φ H (RE K) (match lineB s.length with
          | true => .ok (.int s.length) M
          | false => .no) Q W := h
        cases q : lineB s.length with
        | false => rw [q] at h; exact h.elim
        | true =>
          rw [q] at h
          exact .inl ⟨v, s.length, e, by rw [rep_str_inv rv]; exact ⟨lineB_ok q, rfl⟩, okI S h⟩
      | dic ks es =>
        unfold Rep at rv
        obtain ⟨a, kv, h1, _, h2, h3, _⟩ := rv
        have q := okI S h
        refine .inr ⟨a, kv, by rw [e, h1], h2, ?_⟩
        rw [← h3, List.length_map] at q
        exact q
      | obj n =>
        have h : Okd K φ H (RE K) (match M[n]? with
          | some (.dic kvs) => .ok (.int kvs.length) M
          | some (.lst es) => .ok (.int es.length) M
          | some (.ro es) => .ok (.int es.length) M
          | _ => .no) Q W := h
        split at h
        · rename_i kvs q
          unfold Rep at rv
          obtain ⟨a, h1, h2⟩ := rv
          obtain ⟨kv, h3, h4⟩ := S.ob n a _ h1 q
          have q := okI S h
          refine .inr ⟨a, kv, by rw [e, h2], h3, ?_⟩
          rw [← h4.len] at q
          exact q
        · rename_i es q
          have sq : seqOf M (.obj n) = some es := by
            simp only [seqOf, q]
          exact seq (.obj n) es v e rv sq h
        · rename_i es q
          have sq : seqOf M (.obj n) = some es := by
            simp only [seqOf, q]
          exact seq (.obj n) es v e rv sq h
        · exact h.elim
      | tup es => exact seq _ es v e rv rfl h
      | lst es => exact seq _ es v e rv rfl h
      | _ => exact h.elim
theorem c_len {X : Cx} : CallR X (.builtin "len") (rLenX X.K) := CallR.or' call_len call_lenD
/-! ### what is walked -/
theorem Mo.trans {φ φ1 φ2 : Wd} {H H1 H2 : Hp} (g : Mo φ H φ1 H1) (k : Mo φ1 H1 φ2 H2) : Mo φ H φ2 H2 :=
  ⟨fun a u n h => let ⟨n1, h1⟩ := g.out a u n h; k.out a u n1 h1, fun i a h => k.get i a (g.get i a h)⟩
noncomputable def isAt (M : Mem) (n : Nat) (mo : MO) : Bool := @decide (M[n]? = some mo) (Classical.propDecidable _)
theorem isAt_ok {M : Mem} {n : Nat} {mo : MO} (h : isAt M n mo = true) : M[n]? = some mo := @of_decide_eq_true _ (Classical.propDecidable _) h
theorem isAt_of {M : Mem} {n : Nat} {mo : MO} (h : M[n]? = some mo) : isAt M n mo = true := @decide_eq_true _ (Classical.propDecidable _) h
def anyM : Mem → Bool := fun _ => true
/-- over a list -/
noncomputable def dItL (de : DE) : DI := fun r M => (de r M).bind fun d M1 => match d with
  | .lst ds => .ok ⟨ds, anyM⟩ M1
  | .obj n => (match M1[n]? with
    | some (.lst ds) => .ok ⟨ds, fun M => isAt M n (.lst ds)⟩ M1
    | some (.ro ds) => .ok ⟨ds, fun M => isAt M n (.ro ds)⟩ M1
    | _ => .no)
  | _ => .no
theorem serves_list {K : Frg} {φ1 : Wd} {H1 : Hp} {a : Addr} {ds : List D} {chk : Mem → Bool} (h : ∀ φ M H, Mo φ1 H1 φ H → Sto K φ M H → chk M = true → ∃ xs, SqL K H a xs ∧ RepL K φ H ds xs) : Serves K φ1 H1 ⟨ds, chk⟩ (Itl K a) := by
  intro i φ M H g _ S c
  obtain ⟨xs, h1, h2⟩ := h φ M H g S c
  refine ⟨fun e => ⟨xs, h1, by rw [h2.len, e]; exact Nat.le_refl _⟩, fun d e => ?_⟩
  obtain ⟨v, e1, e2⟩ := h2.get e
  refine ⟨⟨xs, v, h1, e1⟩, fun x H' y => ?_⟩
  obtain ⟨rfl, y⟩ := y
  have q := y xs h1
  rw [e1] at q; cases q
  exact ⟨φ, Grow.refl, S, e2⟩
section
variable {X : Cx} {W : WX} {pos : Pos} {tg e : Expr} {de : DE}
theorem di_list (he : DEx X W e de) : DIx X W tg e (dItL de) := by
  obtain ⟨_, p, s⟩ := he
  refine ⟨_, pi_list p, fun φ M H σ r R S E h => ?_⟩
  refine s φ M H σ r _ S E (Okd.bind h fun d M1 v φ1 H1 _ g1 S1 rv h1 => ?_)
  cases d with
  | lst ds =>
    unfold RE Rep at rv
    obtain ⟨a, xs, e, st, rl⟩ := rv
    exact ⟨a, e, ⟨xs, st.sq⟩, h1 _ φ1 H1 Grow.refl S1 (serves_list fun φ M H g S c => ⟨xs, (st.mo g).sq, RepL.mo g _ _ rl⟩)⟩
  | obj n =>
    unfold RE Rep at rv
    obtain ⟨a, ha, e⟩ := rv
    have h1 : Okd X.K φ1 H1 (fun φ H => Serves X.K φ H) (match M1[n]? with
      | some (.lst ds) => .ok ⟨ds, fun M => isAt M n (.lst ds)⟩ M1
      | some (.ro ds) => .ok ⟨ds, fun M => isAt M n (.ro ds)⟩ M1
      | _ => .no) R (fun c d H' => W c d σ H') := h1
    split at h1
    · rename_i ds q
      obtain ⟨xs, e1, e2⟩ := S1.ob n a _ ha q
      refine ⟨a, e, ⟨xs, SqL.of e1⟩, h1 _ φ1 H1 Grow.refl S1 (serves_list fun φ M H g S c => ?_)⟩
      obtain ⟨ys, k1, k2⟩ := S.ob n a _ (g.get n a ha) (isAt_ok c)
      exact ⟨ys, SqL.of k1, k2⟩
    · rename_i ds q
      obtain ⟨xs, e1, e2⟩ := S1.ob n a _ ha q
      refine ⟨a, e, ⟨xs, .inl e1⟩, h1 _ φ1 H1 Grow.refl S1 (serves_list fun φ M H g S c => ?_)⟩
      obtain ⟨ys, k1, k2⟩ := S.ob n a _ (g.get n a ha) (isAt_ok c)
      exact ⟨ys, .inl k1, k2⟩
    · exact h1.elim
  | _ => exact h1.elim
/-- over a tuple -/
def dItT (de : DE) : DI := fun r M => (de r M).bind fun d M1 => match d with
  | .tup ds => .ok ⟨ds, anyM⟩ M1
  | _ => .no
theorem di_tup (he : DEx X W e de) : DIx X W tg e (dItT de) := by
  obtain ⟨_, p, s⟩ := he
  refine ⟨_, pi_tup p, fun φ M H σ r R S E h => ?_⟩
  refine s φ M H σ r _ S E (Okd.bind h fun d M1 v φ1 H1 _ g1 S1 rv h1 => ?_)
  cases d with
  | tup ds =>
    unfold RE Rep at rv
    obtain ⟨a, xs, e, st, rl⟩ := rv
    refine ⟨a, e, ⟨xs, st.sq⟩, h1 _ φ1 H1 Grow.refl S1 fun i φ M H g _ S c => ?_⟩
    have h2 := RepL.mo g _ _ rl
    have h1 := (st.mo g).sq
    refine ⟨fun e => ⟨xs, h1, by rw [h2.len, e]; exact Nat.le_refl _⟩, fun d e => ?_⟩
    obtain ⟨v, e1, e2⟩ := h2.get e
    refine ⟨⟨xs, v, h1, e1⟩, fun x H' y => ?_⟩
    obtain ⟨rfl, y⟩ := y
    have q := y xs h1
    rw [e1] at q; cases q
    exact ⟨φ, Grow.refl, S, e2⟩
  | _ => exact h1.elim
/-- over a text -/
def signs (s : Str) : List D := s.cps.toList.map fun c => .str ⟨#[c]⟩
def dItS (de : DE) : DI := fun r M => (de r M).bind fun d M1 => match d with
  | .str s => .ok ⟨signs s, anyM⟩ M1
  | _ => .no
theorem di_str (he : DEx X W e de) : DIx X W tg e (dItS de) := by
  obtain ⟨_, p, s⟩ := he
  refine ⟨_, pi_str p, fun φ M H σ r R S E h => ?_⟩
  refine s φ M H σ r _ S E (Okd.bind h fun d M1 v φ1 H1 _ g1 S1 rv h1 => ?_)
  cases d with
  | str s =>
    refine ⟨s, rep_str_inv rv, h1 _ φ1 H1 Grow.refl S1 fun i φ M H g _ S c => ?_⟩
    refine ⟨fun e => ?_, fun d e => ?_⟩
    · have e : i = (signs s).length := e
      unfold signs at e
      rw [List.length_map, Array.length_toList] at e
      exact Nat.le_of_eq e.symm
    · have e : (signs s)[i]? = some d := e
      unfold signs at e
      rw [List.getElem?_map] at e
      cases q : s.cps.toList[i]? with
      | none => rw [q] at e; cases e
      | some c =>
        rw [q] at e; cases e
        have hi := (List.getElem?_eq_some_iff.mp q).1
        rw [Array.length_toList] at hi
        refine ⟨hi, fun x H' y => ?_⟩
        obtain ⟨rfl, c', h3, rfl⟩ := y
        have q' : s.cps[i]? = some c := by rw [← Array.getElem?_toList]; exact q
        rw [q'] at h3; cases h3
        exact ⟨φ, Grow.refl, S, rep_str⟩
  | _ => exact h1.elim
/-- range(n), range(a, b) -/
def irng (lo : Int) (n : Nat) : List D := (List.range n).map fun (i : Nat) => .int (lo + (i : Nat))
def small62 (i : Int) : Bool := decide (-(2 ^ 62) ≤ i) && decide (i < 2 ^ 62)
theorem small62_ok {i : Int} (h : small62 i = true) : -(2 ^ 62) ≤ i ∧ i < 2 ^ 62 := by
  obtain ⟨a, b⟩ := Bool.and_eq_true_iff.mp h
  exact ⟨of_decide_eq_true a, of_decide_eq_true b⟩
theorem serves_range {K : Frg} {φ1 : Wd} {H1 : Hp} {lo : Int} {n : Nat} : Serves K φ1 H1 ⟨irng lo n, anyM⟩ (Itr lo n) := by
  intro i φ M H g _ S c
  refine ⟨fun e => ?_, fun d e => ?_⟩
  · have e : i = (irng lo n).length := e
    unfold irng at e
    rw [List.length_map, List.length_range] at e
    exact Nat.le_of_eq e.symm
  · have e : (irng lo n)[i]? = some d := e
    unfold irng at e
    rw [List.getElem?_map] at e
    have hi : i < n := by
      by_cases h : i < n
      · exact h
      · rw [List.getElem?_eq_none (by simpa using h)] at e; cases e
    rw [List.getElem?_range hi] at e
    cases e
    refine ⟨hi, fun x H' y => ?_⟩
    obtain ⟨rfl, rfl⟩ := y
    exact ⟨φ, Grow.refl, S, rep_int⟩
def dItR1 (da : DE) : DI := fun r M => (da r M).bind fun d M1 => match d with
  | .int j => (match small62 j with
    | true => .ok ⟨irng 0 j.toNat, anyM⟩ M1
    | false => .no)
  | _ => .no
theorem di_range1 {a : Expr} {da : DE} {p : Pos} (hg : Gl X "range") (hm : X.mg "range" = none) (ha : DEx X W a da) (hs : starEach [a] X.env = [(false, eval a X.env)] := by rfl) : DIx X W tg (.Call (.Name "range" p) [a] [] pos) (dItR1 da) := by
  obtain ⟨_, p1, s1⟩ := ha
  refine ⟨_, pi_range1 hg hm (pa_cons p1 pa_nil hs) hs, fun φ M H σ r R S E h => ?_⟩
  refine s1 φ M H σ r _ S E (Okd.bind h fun d M1 v φ1 H1 _ g1 S1 rv h1 => ?_)
  cases d with
  | int j =>
    have h1 : Okd X.K φ1 H1 (fun φ H => Serves X.K φ H) (match small62 j with
      | true => .ok ⟨irng 0 j.toNat, anyM⟩ M1
      | false => .no) R (fun c d H' => W c d σ H') := h1
    cases q : small62 j with
    | false => rw [q] at h1; exact h1.elim
    | true =>
      rw [q] at h1
      obtain ⟨k1, k2⟩ := small62_ok q
      exact ⟨j, by rw [rep_int_inv rv], k1, k2, h1 _ φ1 H1 Grow.refl S1 serves_range⟩
  | _ => exact h1.elim
def dItR2 (da db : DE) : DI := fun r M => (da r M).bind fun d M1 => (db r M1).bind fun e M2 => match d, e with
  | .int i, .int j => (match small62 i && small62 j with
    | true => .ok ⟨irng i (j - i).toNat, anyM⟩ M2
    | false => .no)
  | _, _ => .no
theorem di_range2 {a b : Expr} {da db : DE} {p : Pos} (hg : Gl X "range") (hm : X.mg "range" = none) (ha : DEx X W a da) (hb : DEx X W b db) (hs : starEach [a, b] X.env = [(false, eval a X.env), (false, eval b X.env)] := by rfl) (hs2 : starEach [b] X.env = [(false, eval b X.env)] := by rfl) :
    DIx X W tg (.Call (.Name "range" p) [a, b] [] pos) (dItR2 da db) := by
  obtain ⟨_, p1, s1⟩ := ha
  obtain ⟨_, p2, s2⟩ := hb
  refine ⟨_, pi_range2 hg hm (pa_cons p1 (pa_cons p2 pa_nil hs2) (by rw [hs, hs2])) hs hs2, fun φ M H σ r R S E h => ?_⟩
  refine s1 φ M H σ r _ S E (Okd.bind h fun d M1 v φ1 H1 _ g1 S1 rv h1 => ?_)
  refine s2 φ1 M1 H1 σ r _ S1 (E.grow g1) (Okd.bind h1 fun e M2 u φ2 H2 _ g2 S2 ru h2 => ?_)
  cases d with
  | int i =>
    cases e with
    | int j =>
      have h2 : Okd X.K φ2 H2 (fun φ H => Serves X.K φ H) (match small62 i && small62 j with
        | true => .ok ⟨irng i (j - i).toNat, anyM⟩ M2
        | false => .no) R (fun c d H' => W c d σ H') := h2
      cases q : small62 i && small62 j with
      | false => rw [q] at h2; exact h2.elim
      | true =>
        rw [q] at h2
        obtain ⟨q1, q2⟩ := Bool.and_eq_true_iff.mp q
        obtain ⟨k1, k2⟩ := small62_ok q1
        obtain ⟨k3, k4⟩ := small62_ok q2
        exact ⟨i, j, by rw [rep_int_inv rv, rep_int_inv ru], ⟨k1, k2, k3, k4⟩, h2 _ φ2 H2 Grow.refl S2 serves_range⟩
    | _ => exact h2.elim
  | _ => cases e <;> exact h2.elim
/-- reversed(range(n)) -/
def dItRR1 (da : DE) : DI := fun r M => (da r M).bind fun d M1 => match d with
  | .int j => (match small62 j with
    | true => .ok ⟨(irng 0 j.toNat).reverse, anyM⟩ M1
    | false => .no)
  | _ => .no
theorem irng_rev {n i : Nat} {d : D} (h : (irng 0 n).reverse[i]? = some d) : i < n ∧ d = .int ((n : Int) - 1 - (i : Nat)) := by
  have hl : (irng 0 n).length = n := by unfold irng; rw [List.length_map, List.length_range]
  have hi : i < n := by
    have z := (List.getElem?_eq_some_iff.mp h).1
    rw [List.length_reverse, hl] at z; exact z
  refine ⟨hi, ?_⟩
  rw [List.getElem?_reverse (by rw [hl]; exact hi), hl] at h
  unfold irng at h
  rw [List.getElem?_map, List.getElem?_range (by omega)] at h
  cases h
  have z : (0 : Int) + ((n - 1 - i : Nat) : Int) = (n : Int) - 1 - (i : Nat) := by omega
  exact congrArg D.int z
theorem di_rrange1 {a : Expr} {da : DE} {p p2 pos2 : Pos} (hg : Gl X "reversed") (hm : X.mg "reversed" = none) (hg2 : Gl X "range") (hm2 : X.mg "range" = none) (ha : DEx X W a da) (na : starEach [a] X.env = (false, eval a X.env) :: starEach [] X.env := by rfl)
    (hs : starEach [.Call (.Name "range" p2) [a] [] pos2] X.env = (false, eval (.Call (.Name "range" p2) [a] [] pos2) X.env) :: starEach [] X.env := by rfl) :
    DIx X W tg (.Call (.Name "reversed" p) [.Call (.Name "range" p2) [a] [] pos2] [] pos) (dItRR1 da) := by
  obtain ⟨_, p1, s1⟩ := ha
  refine ⟨_, pi_revR hg hm (prg_1 hg2 hm2 p1 na) hs, fun φ M H σ r R S E h => ?_⟩
  refine s1 φ M H σ r _ S E (Okd.bind h fun d M1 v φ1 H1 _ g1 S1 rv h1 => ?_)
  cases d with
  | int j =>
    have h1 : Okd X.K φ1 H1 (fun φ H => Serves X.K φ H) (match small62 j with
      | true => .ok ⟨(irng 0 j.toNat).reverse, anyM⟩ M1
      | false => .no) R (fun c d H' => W c d σ H') := h1
    cases q : small62 j with
    | false => rw [q] at h1; exact h1.elim
    | true =>
      rw [q] at h1
      obtain ⟨k1, k2⟩ := small62_ok q
      refine ⟨j, rep_int_inv rv, by decide, by decide, k1, k2, h1 _ φ1 H1 Grow.refl S1 fun i φ M H g _ S c => ⟨fun e => ?_, fun d e => ?_⟩⟩
      · have e : i = (irng 0 j.toNat).reverse.length := e
        unfold irng at e
        rw [List.length_reverse, List.length_map, List.length_range] at e
        have z : (j - 0).toNat = j.toNat := by omega
        show (j - 0).toNat ≤ i
        omega
      · obtain ⟨hi, hd⟩ := irng_rev e
        refine ⟨by show i < (j - 0).toNat; omega, fun x H' y => ?_⟩
        obtain ⟨rfl, rfl⟩ := y
        refine ⟨φ, Grow.refl, S, ?_⟩
        subst hd
        unfold Rep
        congr 1
        omega
  | _ => exact h1.elim
end
end LF
set_option Elab.async false
set_option linter.all false
set_option maxRecDepth 100000
set_option maxHeartbeats 2000000
/-! LF7: list comprehensions. -/
namespace LF
open PySem PySem.Spec PyProof.Rows L2
/-- the names' data with the places vs forgotten -/
def wipeD (r : Env') : List Nat → Env'
  | [] => r
  | v :: vs => (wipeD r vs).set v none
theorem EnvR.wipe {K : Frg} {φ : Wd} {H : Hp} {r : Env'} {σ : L2.St} (h : EnvR K φ H r σ) : ∀ vs : List Nat, EnvR K φ H (wipeD r vs) (L2.wipe σ vs)
  | [] => h
  | v :: vs => by unfold wipeD L2.wipe; exact (EnvR.wipe h vs).unset
theorem wipe_set_in {σ : L2.St} {i : Nat} {x : Option V} : ∀ {vs : List Nat}, i ∈ vs → L2.wipe (σ.set i x) vs = L2.wipe σ vs
  | v :: vs, h => by
    unfold L2.wipe
    by_cases hv : i ∈ vs
    · rw [wipe_set_in hv]
    · have e : i = v := by
        rcases List.mem_cons.mp h with q | q
        · exact q
        · exact absurd q hv
      subst e
      have out : ∀ {ws : List Nat}, i ∉ ws → L2.wipe (σ.set i x) ws = (L2.wipe σ ws).set i x := by
        intro ws
        induction ws with
        | nil => intro _; rfl
        | cons w ws ih =>
          intro hn
          unfold L2.wipe
          rw [ih (fun z => hn (List.mem_cons_of_mem _ z)), List.set_comm _ _ (fun z => hn (by rw [z]; exact List.mem_cons_self))]
      rw [out hv, List.set_set]
theorem wipe_get {σ : L2.St} {j : Nat} : ∀ {vs : List Nat}, (L2.wipe σ vs)[j]? = if j ∈ vs ∧ j < σ.length then some none else σ[j]?
  | [] => by simp [L2.wipe]
  | v :: vs => by
    have ih := wipe_get (σ := σ) (j := j) (vs := vs)
    unfold L2.wipe
    by_cases e : v = j
    · subst e
      by_cases hl : v < σ.length
      · rw [List.getElem?_set_self (by rw [L2.wipe_length]; exact hl), if_pos ⟨List.mem_cons_self, hl⟩]
      · rw [List.getElem?_eq_none (by rw [List.length_set, L2.wipe_length]; omega), if_neg (fun z => hl z.2), List.getElem?_eq_none (by omega)]
    · rw [List.getElem?_set_ne e, ih]
      by_cases hm : j ∈ vs
      · simp [hm]
      · have : j ∉ v :: vs := fun z => (List.mem_cons.mp z).elim (fun q => e q.symm) hm
        rw [if_neg (fun z => hm z.1), if_neg (fun z => this z.1)]
theorem wipe_idem (σ : L2.St) (vs : List Nat) : L2.wipe (L2.wipe σ vs) vs = L2.wipe σ vs := by
  refine List.ext_getElem? fun j => ?_
  rw [wipe_get, wipe_get, L2.wipe_length]
  split
  · rfl
  · rfl
/-- a target within a comprehension: it stores its own names alone -/
def SimC (K : Frg) (vs : List Nat) (g : TG) (dg : DG) : Prop := ∀ φ M H σ r x d Q, Sto K φ M H → EnvR K φ H r σ → Rep K φ H d x → (match dg d r M with
  | .ok r1 M1 => ∀ σ' φ' H', Grow φ H φ' H' → Sto K φ' M1 H' → EnvR K φ' H' r1 σ' → L2.wipe σ' vs = L2.wipe σ vs → Q σ' H'
  | _ => False) → g x σ H Q
def SimCs (K : Frg) (vs : List Nat) (g : TGs) (dg : List D → Env' → Mem → Out Env') : Prop := ∀ φ M H σ r xs ds Q, Sto K φ M H → EnvR K φ H r σ → RepL K φ H ds xs → (match dg ds r M with
  | .ok r1 M1 => ∀ σ' φ' H', Grow φ H φ' H' → Sto K φ' M1 H' → EnvR K φ' H' r1 σ' → L2.wipe σ' vs = L2.wipe σ vs → Q σ' H'
  | _ => False) → g xs σ H Q
def DCx (X : Cx) (vs : List Nat) (tg : Expr) (dg : DG) : Prop := ∃ g, PG X tg g ∧ SimC X.K vs g dg
def DCsx (X : Cx) (vs : List Nat) (tg : List Expr) (dg : List D → Env' → Mem → Out Env') : Prop := ∃ g, PGs X tg g ∧ SimCs X.K vs g dg
section
variable {X : Cx} {vs : List Nat} {pos : Pos}
theorem dc_name {i : Nat} {x : Str} (hN : X.N.Nodup) (hi : X.N[i]? = some x) (hx : Loc X.env.scope x) (hv : i ∈ vs) (hf : X.fn x = true ∨ X.env.scope.names.lookup x = some .local := by first | exact .inl rfl | exact .inr rfl | assumption) : DCx X vs (.Name x pos) (gSlot i) :=
  ⟨_, pg_name hN hi hx hf, fun φ M H σ r x d Q S er rx h => h _ φ H Grow.refl S (er.set rx) (wipe_set_in hv)⟩
theorem dcs_nil : DCsx X vs [] gsNil := ⟨_, pgs_nil, fun φ M H σ r xs ds Q S er rx h => by
  cases ds with
  | nil => exact ⟨rx.inv0, h σ φ H Grow.refl S er rfl⟩
  | cons d ds => exact h.elim⟩
theorem dcs_cons {e : Expr} {es : List Expr} {g : DG} {gs : List D → Env' → Mem → Out Env'} (h1 : DCx X vs e g) (h2 : DCsx X vs es gs)
    (hs : (assignEach (e :: es) X.env).map (·.2) = assign e X.env :: (assignEach es X.env).map (·.2) := by rfl) : DCsx X vs (e :: es) (gsCons g gs) := by
  obtain ⟨_, p1, s1⟩ := h1
  obtain ⟨_, p2, s2⟩ := h2
  refine ⟨_, pgs_cons p1 p2 hs, fun φ M H σ r xs ds Q S er rx h => ?_⟩
  cases ds with
  | nil => exact h.elim
  | cons d ds =>
    obtain ⟨v, rr, rfl, r1, r2⟩ := rx.inv
    have h : (match (match g d r M with
      | .ok r1 M1 => gs ds r1 M1
      | _ => .no) with
      | .ok r1 M1 => ∀ σ' φ' H', Grow φ H φ' H' → Sto X.K φ' M1 H' → EnvR X.K φ' H' r1 σ' → L2.wipe σ' vs = L2.wipe σ vs → Q σ' H'
      | _ => False) := h
    refine ⟨v, rr, rfl, s1 φ M H σ r v d _ S er r1 ?_⟩
    cases q : g d r M with
    | ok r3 M3 =>
      rw [q] at h
      dsimp only at h
      intro σ' φ' H' g' S' er' w'
      refine s2 φ' M3 H' σ' r3 rr ds _ S' er' (RepL.grow g' _ _ r2) ?_
      cases q2 : gs ds r3 M3 with
      | ok r4 M4 => rw [q2] at h; exact fun σ2 φ2 H2 g2 S2 er2 w2 => h σ2 φ2 H2 (g'.trans g2) S2 er2 (w2.trans w')
      | _ => rw [q2] at h; exact h.elim
    | _ => rw [q] at h; exact h.elim
theorem dc_tup {es : List Expr} {k n : Nat} {gs : List D → Env' → Mem → Out Env'} (hc : X.calm = true) (h : DCsx X vs es gs) (hn : (assignEach es X.env).length = n := by rfl) (hst : (assignEach es X.env).findIdx? (·.1) = none := by rfl) : DCx X vs (.Tuple es k pos) (gTupD n gs) := by
  obtain ⟨_, p, s⟩ := h
  refine ⟨_, pg_tup hc p hn hst, fun φ M H σ r x d Q S er rx h => ?_⟩
  cases d with
  | tup ds =>
    unfold Rep at rx
    obtain ⟨a, xs, rfl, h1, h2⟩ := rx
    have h : (match (match Nat.beq ds.length n with
      | true => gs ds r M
      | false => .no) with
      | .ok r1 M1 => ∀ σ' φ' H', Grow φ H φ' H' → Sto X.K φ' M1 H' → EnvR X.K φ' H' r1 σ' → L2.wipe σ' vs = L2.wipe σ vs → Q σ' H'
      | _ => False) := h
    cases hb : Nat.beq ds.length n with
    | true =>
      rw [hb] at h
      exact ⟨a, xs, rfl, h1.sq, by rw [h2.len]; exact Nat.eq_of_beq_eq_true hb, s φ M H σ r xs ds Q S er h2 h⟩
    | false => rw [hb] at h; exact h.elim
  | _ => exact h.elim
end
/-! ### readings that hang on plain data alone -/
def tDE (K : Frg) (W : WX) (de : DE) : TE := fun σ H Q => ∃ φ M r, Sto K φ M H ∧ EnvR K φ H r σ ∧ Okd K φ H (RE K) (de r M) Q (fun c d H' => W c d σ H')
def tDT (K : Frg) (W : WX) (dt : DT) : TT := fun σ H Q => ∃ φ M r, Sto K φ M H ∧ EnvR K φ H r σ ∧ Okd K φ H RT (dt r M) Q (fun c d H' => W c d σ H')
def tDC (K : Frg) (vs : List Nat) (dg : DG) : TG := fun x σ H Q => ∃ φ M r d, Sto K φ M H ∧ EnvR K φ H r σ ∧ Rep K φ H d x ∧ (match dg d r M with
  | .ok r1 M1 => ∀ σ' φ' H', Grow φ H φ' H' → Sto K φ' M1 H' → EnvR K φ' H' r1 σ' → L2.wipe σ' vs = L2.wipe σ vs → Q σ' H'
  | _ => False)
theorem DEx.pe {X : Cx} {W : WX} {e : Expr} {de : DE} (h : DEx X W e de) : PE X e (tDE X.K W de) := by
  obtain ⟨t, p, s⟩ := h
  exact ⟨fun pins sh σ H Q I ⟨φ, M, r, S, E, o⟩ => p.run pins sh σ H Q I (s φ M H σ r Q S E o)⟩
theorem DTx.pt {X : Cx} {W : WX} {e : Expr} {dt : DT} (h : DTx X W e dt) : PT X e (tDT X.K W dt) := by
  obtain ⟨t, p, s⟩ := h
  exact ⟨fun pins sh σ H Q I ⟨φ, M, r, S, E, o⟩ => p.run pins sh σ H Q I (s φ M H σ r Q S E o)⟩
theorem DCx.pg {X : Cx} {vs : List Nat} {e : Expr} {dg : DG} (h : DCx X vs e dg) : PG X e (tDC X.K vs dg) := by
  obtain ⟨t, p, s⟩ := h
  exact ⟨fun pins sh σ H v u Q I rv ⟨φ, M, r, d, S, E, rd, o⟩ => p.run pins sh σ H v u Q I rv (s φ M H σ r v d Q S E rd o)⟩
/-- a clause's tests -/
def dYes : DT := fun _ M => .ok true M
def DPx (X : Cx) (W : WX) (ifs : List Expr) (dt : DT) : Prop := PTs X ifs (tDT X.K W dt)
theorem dp_nil {X : Cx} {W : WX} : DPx X W [] dYes := ⟨fun pins sh σ H Q I ⟨φ, M, r, S, E, o⟩ => (pts_nil (X := X)).run pins sh σ H Q I (o.here S rfl)⟩
theorem dp_one {X : Cx} {W : WX} {c : Expr} {dt : DT} (h : DTx X W c dt) : DPx X W [c] dt := pts_one h.pt
/-- the turns -/
def compL (chk : Mem → Bool) (dg : DG) (dt : DT) (de : DE) (r0 : Env') : List D → List D → Mem → Out (List D)
  | [], acc, M => (match chk M with
    | true => .ok acc M
    | false => .no)
  | d :: ds, acc, M => match chk M with
    | true => (match dg d r0 M with
      | .ok r1 M1 => (match dt r1 M1 with
        | .ok true M2 => (match de r1 M2 with
          | .ok y M3 => (match lineB acc.length with
            | true => compL chk dg dt de r0 ds (acc ++ [y]) M3
            | false => .no)
          | _ => .no)
        | .ok false M2 => compL chk dg dt de r0 ds acc M2
        | _ => .no)
      | _ => .no)
    | false => .no
def dComp (di : DI) (dg : DG) (dt : DT) (de : DE) (vs : List Nat) : DE := fun r M => (di r M).bind fun src M1 => (compL src.chk dg dt de (wipeD r vs) src.items [] M1).bind fun ys M2 => .ok (.lst ys) M2
abbrev Wf : WX := fun _ _ _ _ => False
theorem lineB_lt {n : Nat} (h : lineB n = true) : n < sizeLine := Nat.lt_of_le_of_lt (Nat.le_of_ble_eq_true h) (by rw [sizeLine_eq]; decide)
/-- the state within: D is under construction -/
structure Wk (K : Frg) (φ1 : Wd) (H1 : Hp) (D : Addr) (σ0 : L2.St) (r0 : Env') (φ : Wd) (M : Mem) (H : Hp) (acc : List LF.D) (xs : List V) : Prop where
  S : Sto K φ M H
  lk : φ.lk = D :: φ1.lk
  g : Grow φ1 H1 ⟨φ.ar, φ1.lk⟩ H
  na : D ∉ φ.ar
  hD : H D = some (.lst xs)
  r : RepL K φ H acc xs
  mo : Mo φ1 H1 φ H
  E : EnvR K φ H r0 σ0
theorem sim_comp {K : Frg} {W : WX} {wi : TI} {di : DI} {dg : DG} {dt : DT} {de : DE} {vs : List Nat} (hi : SimI K W wi di) : SimE K W (tLc wi (tDC K vs dg) (tDT K Wf dt) (tDE K Wf de) vs) (dComp di dg dt de vs) := by
  intro φ M H σ r Q S E h
  refine hi φ M H σ r _ S E (Okd.bind h fun src M1 J φ1 H1 _ g1 S1 sv h1 => ?_)
  intro D hD
  have E1 := E.grow g1
  have Wk0 : Wk K φ1 H1 D (L2.wipe σ vs) (wipeD r vs) (φ1.lock D) M1 (upd H1 D (.lst [])) [] [] :=
    ⟨S1.lock hD, rfl, Grow.new hD, fun z => S1.mem z hD, upd_same, RepL.nil, Mo.lock hD, (E1.wipe vs).mo (Mo.lock hD)⟩
  refine ⟨fun i m H => m = src.items.length - i ∧ i ≤ src.items.length ∧ ∃ φ M acc xs, Wk K φ1 H1 D (L2.wipe σ vs) (wipeD r vs) φ M H acc xs ∧
    Okd K φ1 H1 (RE K) ((compL src.chk dg dt de (wipeD r vs) (src.items.drop i) acc M).bind fun ys M2 => .ok (.lst ys) M2) Q (fun c d H' => W c d σ H'), ⟨_, rfl, Nat.zero_le _, _, M1, [], [], Wk0, h1⟩, ?_⟩
  rintro i m H2 ⟨rfl, hi, φ2, M2, acc, xs, w, h2⟩
  by_cases hlt : i < src.items.length
  · have hd : src.items.drop i = src.items[i] :: src.items.drop (i + 1) := List.drop_eq_getElem_cons hlt
    rw [hd] at h2
    unfold compL at h2
    cases hc : src.chk M2 with
    | false => rw [hc] at h2; exact h2.elim
    | true =>
      rw [hc] at h2
      obtain ⟨_, sv2⟩ := sv i φ2 M2 H2 w.mo w.g.frz w.S hc
      obtain ⟨go, yl⟩ := sv2 src.items[i] (List.getElem?_eq_getElem hlt)
      refine .inr ⟨go, fun H' => ∃ φ M acc xs, Wk K φ1 H1 D (L2.wipe σ vs) (wipeD r vs) φ M H' acc xs ∧
        Okd K φ1 H1 (RE K) ((compL src.chk dg dt de (wipeD r vs) (src.items.drop (i + 1)) acc M).bind fun ys M2 => .ok (.lst ys) M2) Q (fun c d H' => W c d σ H'), fun H' n => ⟨_, by omega, rfl, hlt, n⟩, fun x H3 hy => ?_⟩
      obtain ⟨φ3, g3, S3, r3⟩ := yl x H3 hy
      -- a state that has grown
      have up : ∀ {φ4 : Wd} {H4 : Hp} {M4 : Mem}, Grow φ2 H2 φ4 H4 → Sto K φ4 M4 H4 → Wk K φ1 H1 D (L2.wipe σ vs) (wipeD r vs) φ4 M4 H4 acc xs := fun {φ4 H4 M4} g S4 =>
        ⟨S4, g.lk.trans w.lk, ⟨by
          obtain ⟨ψ, e, hψ⟩ := w.g.ext
          obtain ⟨χ, e2, hχ⟩ := g.ext
          refine ⟨ψ ++ χ, by show φ4.ar = _; rw [e2]; have e : φ2.ar = φ1.ar ++ ψ := e; rw [e, List.append_assoc], fun a ha => ?_⟩
          rcases List.mem_append.mp ha with q | q
          · exact hψ a q
          · exact w.g.dom a (hχ a q), rfl, fun a o h n => g.stay a o (w.g.stay a o h n) (by
            intro z
            obtain ⟨ψ, e, hψ⟩ := w.g.ext
            have e : φ2.ar = φ1.ar ++ ψ := e
            rw [e] at z
            rcases List.mem_append.mp z with q | q
            · exact n q
            · rw [hψ a q] at h; cases h), fun a h => w.g.dom a (g.dom a h), fun a o u h => g.frz a o u (w.g.frz a o u h)⟩,
          g.notin w.hD w.na, g.stay _ _ w.hD w.na, RepL.grow g _ _ w.r, w.mo.trans g.mo, w.E.grow g⟩
      refine ⟨φ3, M2, wipeD r vs, src.items[i], S3, w.E.grow g3, r3, ?_⟩
      cases q : dg src.items[i] (wipeD r vs) M2 with
      | ok r4 M4 =>
        rw [q] at h2
        dsimp only at h2
        intro σ4 φ4 H4 g4 S4 er4 w4
        refine ⟨w4.trans (wipe_idem _ _), φ4, M4, r4, S4, er4, ?_⟩
        cases q2 : dt r4 M4 with
        | ok b M5 =>
          rw [q2] at h2
          intro b' φ5 H5 g5 S5 e5
          have e5 : b' = b := e5
          subst e5
          cases b' with
          | false =>
            rw [if_neg Bool.false_ne_true]
            exact ⟨φ5, M5, acc, xs, up ((g3.trans g4).trans g5) S5, h2⟩
          | true =>
            rw [if_pos rfl]
            dsimp only at h2
            refine ⟨φ5, M5, r4, S5, er4.grow g5, ?_⟩
            cases q3 : de r4 M5 with
            | ok y M6 =>
              rw [q3] at h2
              dsimp only at h2
              intro v φ6 H6 g6 S6 r6
              have w6 := up (((g3.trans g4).trans g5).trans g6) S6
              cases q4 : lineB acc.length with
              | false => rw [q4] at h2; exact h2.elim
              | true =>
                rw [q4] at h2
                have hp : D ∈ φ6.lk := by rw [w6.lk]; exact List.mem_cons_self
                have re : Mo φ6 H6 φ6 (upd H6 D (.lst (xs ++ [v]))) := Mo.relock hp
                refine ⟨xs, w6.hD, by rw [w6.r.len]; exact lineB_lt q4, φ6, M6, acc ++ [y], xs ++ [v], ⟨w6.S.relock hp w6.na, w6.lk, ⟨w6.g.ext, rfl, fun a o h n => ?_, fun a h => ?_, fun a o u h => by rw [upd_ne (ne_of_none h hD)]; exact w6.g.frz a o u h⟩, w6.na, upd_same, (RepL.mo re _ _ w6.r).app (.cons (Rep.mo re _ _ r6) .nil), w6.mo.trans re, w6.E.mo re⟩, h2⟩
                · rw [upd_ne (ne_of_none h hD)]; exact w6.g.stay a o h n
                · by_cases z : a = D
                  · rw [z, upd_same] at h; cases h
                  · rw [upd_ne z] at h; exact w6.g.dom a h
            | _ => rw [q3] at h2; exact h2.elim
        | _ => rw [q2] at h2; exact h2.elim
      | _ => rw [q] at h2; exact h2.elim
  · have e : i = src.items.length := by omega
    subst e
    rw [List.drop_length] at h2
    unfold compL at h2
    cases hc : src.chk M2 with
    | false => rw [hc] at h2; exact h2.elim
    | true =>
      rw [hc] at h2
      refine .inl ⟨(sv _ φ2 M2 H2 w.mo w.g.frz w.S hc).1 rfl, ?_⟩
      have un : Mo φ2 H2 ⟨φ2.ar, φ1.lk⟩ H2 := ⟨fun a u n e => ⟨⟨n.1, fun z => n.2 (by rw [w.lk]; exact List.mem_cons_of_mem _ z)⟩, e⟩, fun _ _ e => e⟩
      have Su : Sto K ⟨φ2.ar, φ1.lk⟩ M2 H2 := ⟨w.S.len, w.S.nd, fun a ha => w.S.lk a (by rw [w.lk]; exact List.mem_cons_of_mem _ ha), fun i a mo e1 e2 => (w.S.ob i a mo e1 e2).mo un rfl⟩
      refine h2 (.ref D) ⟨φ2.ar, φ1.lk⟩ H2 w.g Su ?_
      show Rep K _ _ _ _
      unfold Rep
      exact ⟨D, xs, rfl, .inl ⟨⟨w.na, fun z => S1.lk D z hD⟩, .inl w.hD⟩, RepL.mo un _ _ w.r⟩
end LF
set_option Elab.async false
set_option linter.all false
set_option maxRecDepth 100000
set_option maxHeartbeats 2000000
/-! LF8: rules for comprehensions, methods of texts, isinstance, dicts, some built-ins. -/
namespace LF
open PySem PySem.Spec PyProof.Rows L2
section
variable {X : Cx} {W : WX} {pos : Pos}
theorem de_comp {elt tg iter : Expr} {ifs : List Expr} {scope : Scope} {own : List (Str × Nat)} {di : DI} {dg : DG} {dt : DT} {de : DE} (hc : X.calm = true) (hN : X.N.Nodup) (hi : DIx X W tg iter di) (ok : BlkOk X.N X.env.scope scope own)
    (hg : ∀ (s : Shared) (H : Hp) (C : Addr) (cl : List (Str × Addr)) (fp : List Addr), DCx (X.blk s H scope (compEnvC scope cl C X.env) fp) (own.map (·.2)) tg dg) (ht : ∀ (s : Shared) (H : Hp) (C : Addr) (cl : List (Str × Addr)) (fp : List Addr), DPx (X.blk s H scope (compEnvC scope cl C X.env) fp) Wf ifs dt)
    (he : ∀ (s : Shared) (H : Hp) (C : Addr) (cl : List (Str × Addr)) (fp : List Addr), DEx (X.blk s H scope (compEnvC scope cl C X.env) fp) Wf elt de) (hs : ∀ x, foldedSetIterable iter X.env x = pure x := by intro _; rfl) :
    DEx X W (.ListComp elt [⟨tg, iter, ifs, 0⟩] scope pos) (dComp di dg dt de (own.map (·.2))) := by
  obtain ⟨_, p, s⟩ := hi
  exact ⟨_, pe_lc (g := tDC X.K (own.map (·.2)) dg) (tt := tDT X.K Wf dt) (te := tDE X.K Wf de) hc hN p ok (fun s H C cl fp => (hg s H C cl fp).pg) ht (fun s H C cl fp => (he s H C cl fp).pe) hs, sim_comp s⟩
theorem ds_setComp {i : Nat} {y : Str} {py : Pos} {elt tg iter : Expr} {ifs : List Expr} {scope : Scope} {own : List (Str × Nat)} {spos : Pos} {di : DI} {dg : DG} {dt : DT} {de : DE} (hc : X.calm = true) (hN : X.N.Nodup) (hy : X.N[i]? = some y) (hyl : X.env.scope.names.lookup y = some .local)
    (hsw : swapsWith (.ListComp elt [⟨tg, iter, ifs, 0⟩] scope pos) (some (.Name y py)) spos.line X.env = pure true) (hi : DIx X W tg iter di) (ok : BlkOk X.N X.env.scope scope own)
    (hg : ∀ (s : Shared) (H : Hp) (C : Addr) (cl : List (Str × Addr)) (fp : List Addr), DCx (X.blk s H scope (compEnvC scope cl C X.env) fp) (own.map (·.2)) tg dg) (ht : ∀ (s : Shared) (H : Hp) (C : Addr) (cl : List (Str × Addr)) (fp : List Addr), DPx (X.blk s H scope (compEnvC scope cl C X.env) fp) Wf ifs dt)
    (he : ∀ (s : Shared) (H : Hp) (C : Addr) (cl : List (Str × Addr)) (fp : List Addr), DEx (X.blk s H scope (compEnvC scope cl C X.env) fp) Wf elt de) (hs : ∀ x, foldedSetIterable iter X.env x = pure x := by intro _; rfl) :
    DSx X W (.Assign [.Name y py] (.ListComp elt [⟨tg, iter, ifs, 0⟩] scope pos) spos) (dAsg (dComp di dg dt de (own.map (·.2))) (gSlot i)) := by
  obtain ⟨_, p, s⟩ := hi
  exact ⟨_, ps_setLc (g := tDC X.K (own.map (·.2)) dg) (tt := tDT X.K Wf dt) (te := tDE X.K Wf de) hc hN hy hyl hsw p ok (fun s H C cl fp => (hg s H C cl fp).pg) ht (fun s H C cl fp => (he s H C cl fp).pe) hs, sim_asg (sim_comp s) sim_gName⟩
/-! ### s.m(e): methods of texts -/
def dM1 (f : Str → F1) (da db : DE) : DE := fun r M => (da r M).bind fun x M1 => match x with
  | .str s => (db r M1).bind fun y M2 => f s y M2
  | _ => .no
def OpM (K : Frg) (r : V → List V → Hp → VK → Prop) (f : Str → F1) : Prop := ∀ φ M H s y b Q W, Sto K φ M H → Rep K φ H b y → Okd K φ H (RE K) (f s b M) Q W → r (.str s) [y] H Q
theorem de_m1 {id : String} {name : Str} {apos : Pos} {rr : V → List V → Hp → VK → Prop} {f : Str → F1} {o e : Expr} {da db : DE} (slot : Slot "str" name id) (ty : typeOf (.builtin id) = pure (.type "method_descriptor")) (rule : MtR X id rr) (hf : OpM X.K rr f) (ho : DEx X W o da) (he : DEx X W e db)
    (hs : starEach [e] X.env = [(false, eval e X.env)] := by rfl) (hbase : attributeBase o name X.env (eval o X.env) = eval o X.env := by rfl) (hline : (apos.endLine == pos.line) = true := by rfl) :
    DEx X W (.Call (.Attribute o name apos) [e] [] pos) (dM1 f da db) := by
  obtain ⟨_, p1, s1⟩ := ho
  obtain ⟨_, p2, s2⟩ := he
  refine ⟨_, pe_m1 slot ty rule p1 p2 hs hbase hline, fun φ M H σ r Q S E h => ?_⟩
  refine s1 φ M H σ r _ S E (Okd.bind h fun d M1 v φ1 H1 _ g1 S1 rv h1 => ?_)
  cases d with
  | str s =>
    refine ⟨⟨s, rep_str_inv rv⟩, s2 φ1 M1 H1 σ r _ S1 (E.grow g1) (Okd.bind h1 fun y M2 u φ2 H2 _ g2 S2 ru h2 => ?_)⟩
    rw [rep_str_inv rv]
    exact hf φ2 M2 H2 s u y Q _ S2 ru h2
  | _ => exact h1.elim
/-- the texts of a row -/
def strsOf : List D → Option (List Str)
  | [] => some []
  | .str s :: r => (strsOf r).map (s :: ·)
  | _ :: _ => none
theorem strs_rep {K : Frg} {φ : Wd} {H : Hp} : ∀ {ds : List D} {xs : List V} {ss : List Str}, RepL K φ H ds xs → strsOf ds = some ss → xs = ss.map V.str
  | [], xs, ss, r, h => by cases h; exact r.inv0
  | d :: ds, xs, ss, r, h => by
    cases d with
    | str s =>
      obtain ⟨v, w, rfl, r1, r2⟩ := r.inv
      unfold strsOf at h
      cases e : strsOf ds with
      | none => rw [e] at h; cases h
      | some l =>
        rw [e] at h; cases h
        rw [List.map_cons, rep_str_inv r1, strs_rep r2 e]
    | _ => cases h
def mJoin : Str → F1 := fun s y M => match (seqOf M y).bind strsOf with
  | some ss => (match lineB ((ss.map (·.length)).sum + ss.length * s.length) with
    | true => .ok (.str (Txt.join s ss)) M
    | false => .no)
  | none => .no
theorem o_join {K : Frg} : OpM K (fun x xs H Q => ∃ a p, ∃ ys : List Str, x = .str a ∧ xs = [.ref p] ∧ (SqL K H p (ys.map V.str) ∨ SqT K H p (ys.map V.str)) ∧ (ys.map (·.length)).sum + ys.length * a.length ≤ 16777216 ∧ Q (.str (Txt.join a ys)) H) mJoin := by
  intro φ M H s y b Q W S rb h
  unfold mJoin at h
  cases e : seqOf M b with
  | none => rw [e] at h; exact h.elim
  | some ds =>
    rw [e] at h
    cases e2 : strsOf ds with
    | none => rw [Option.bind_some, e2] at h; exact h.elim
    | some ss =>
      rw [Option.bind_some, e2] at h
      dsimp only at h
      obtain ⟨p, xs, hx, hs, r⟩ := seq_rep S rb e
      have ex := strs_rep r e2
      subst ex
      cases q : lineB ((ss.map (·.length)).sum + ss.length * s.length) with
      | false => rw [q] at h; exact h.elim
      | true =>
        rw [q] at h
        exact ⟨s, p, ss, rfl, by rw [hx], hs, by have z := lineB_ok q; rw [sizeLine_eq] at z; exact z, okT S h⟩
theorem de_join {o e : Expr} {apos : Pos} {da db : DE} (ho : DEx X W o da) (he : DEx X W e db) (hs : starEach [e] X.env = [(false, eval e X.env)] := by rfl) (hbase : attributeBase o "join" X.env (eval o X.env) = eval o X.env := by rfl) (hline : (apos.endLine == pos.line) = true := by rfl) :
    DEx X W (.Call (.Attribute o "join" apos) [e] [] pos) (dM1 mJoin da db) := de_m1 F.slot_str_join F.type_str_join mt_join o_join ho he hs hbase hline
def mInt (g : Str → Str → Int) : Str → F1 := fun s y M => match y with
  | .str t => .ok (.int (g s t)) M
  | _ => .no
theorem o_mInt {K : Frg} {g : Str → Str → Int} : OpM K (fun x xs H Q => ∃ a b, x = .str a ∧ xs = [.str b] ∧ Q (.int (g a b)) H) (mInt g) := by
  intro φ M H s y b Q W S rb h
  cases b with
  | str t => exact ⟨s, t, rfl, by rw [rep_str_inv rb], okI S h⟩
  | _ => exact h.elim
theorem de_find {o e : Expr} {apos : Pos} {da db : DE} (ho : DEx X W o da) (he : DEx X W e db) (hs : starEach [e] X.env = [(false, eval e X.env)] := by rfl) (hbase : attributeBase o "find" X.env (eval o X.env) = eval o X.env := by rfl) (hline : (apos.endLine == pos.line) = true := by rfl) :
    DEx X W (.Call (.Attribute o "find" apos) [e] [] pos) (dM1 (mInt Txt.find) da db) := de_m1 F.slot_str_find F.type_str_find mt_find o_mInt ho he hs hbase hline
theorem de_rfind {o e : Expr} {apos : Pos} {da db : DE} (ho : DEx X W o da) (he : DEx X W e db) (hs : starEach [e] X.env = [(false, eval e X.env)] := by rfl) (hbase : attributeBase o "rfind" X.env (eval o X.env) = eval o X.env := by rfl) (hline : (apos.endLine == pos.line) = true := by rfl) :
    DEx X W (.Call (.Attribute o "rfind" apos) [e] [] pos) (dM1 (mInt Txt.rfind) da db) := de_m1 F.slot_str_rfind F.type_str_rfind mt_rfind o_mInt ho he hs hbase hline
/-! ### isinstance, a built-in class -/
/-- the built-in type of a thing -/
def tagOf (M : Mem) : D → Option String
  | .non => some "NoneType"
  | .bl _ => some "bool"
  | .int _ => some "int"
  | .str _ => some "str"
  | .tup _ => some "tuple"
  | .lst _ => some "list"
  | .dic _ _ => some "dict"
  | .obj n => (match M[n]? with
    | some (.lst _) => some "list"
    | some (.ro _) => some "list"
    | some (.dic _) => some "dict"
    | _ => none)
  | _ => none
theorem tag_ty {K : Frg} {φ : Wd} {M : Mem} {H : Hp} {d : D} {v : V} {t : String} (S : Sto K φ M H) (r : Rep K φ H d v) (h : tagOf M d = some t) : TyX K H v (.type t) := by
  cases d with
  | non => cases h; rw [rep_non_inv r]; exact .base .non
  | bl b => cases h; rw [rep_bl_inv r]; exact .base (.bl b)
  | int i => cases h; rw [rep_int_inv r]; exact .base (.int i)
  | str x => cases h; rw [rep_str_inv r]; exact .base (.str x)
  | tup ds =>
    cases h
    unfold Rep at r
    obtain ⟨a, xs, rfl, h1, _⟩ := r
    rcases h1 with ⟨_, h1⟩ | ⟨o, its, n, e, c, _⟩
    · rcases h1 with h1 | ⟨o, h1⟩
      · exact .base (.tup h1)
      · exact .fTuple h1
    · exact .kTuple e c
  | lst ds =>
    cases h
    unfold Rep at r
    obtain ⟨a, xs, rfl, h1, _⟩ := r
    rcases h1 with ⟨_, h1⟩ | ⟨o, its, n, e, c, _⟩
    · rcases h1 with h1 | ⟨o, h1⟩
      · exact .base (.lst h1)
      · exact .base (.frz h1)
    · exact .kList e c
  | dic ks ds =>
    cases h
    unfold Rep at r
    obtain ⟨a, kv, rfl, _, h1, _⟩ := r
    exact .base (.dK h1)
  | obj n =>
    unfold Rep at r
    obtain ⟨a, h1, rfl⟩ := r
    have h : (match M[n]? with
      | some (.lst _) => some "list"
      | some (.ro _) => some "list"
      | some (.dic _) => some "dict"
      | _ => none) = some t := h
    split at h
    · rename_i q; cases h
      obtain ⟨xs, e, _⟩ := S.ob n a _ h1 q
      exact .base (.lst e)
    · rename_i q; cases h
      obtain ⟨xs, e, _⟩ := S.ob n a _ h1 q
      rcases e with e | ⟨o, e⟩
      · exact .base (.lst e)
      · exact .base (.frz e)
    · rename_i q; cases h
      obtain ⟨xs, e, _⟩ := S.ob n a _ h1 q
      exact .base (.dK e)
    · cases h
  | _ => cases h
def dIsB (p : String → Bool) (da : DE) : DE := fun r M => (da r M).bind fun x M1 => match tagOf M1 x with
  | some t => .ok (.bl (p t)) M1
  | none => .no
def tags : List String := ["NoneType", "bool", "int", "str", "tuple", "list", "dict"]
theorem tag_mem {M : Mem} {d : D} {t : String} (h : tagOf M d = some t) : t ∈ tags := by
  unfold tags
  cases d with
  | obj n =>
    have h : (match M[n]? with
      | some (.lst _) => some "list"
      | some (.ro _) => some "list"
      | some (.dic _) => some "dict"
      | _ => none) = some t := h
    split at h <;> cases h <;> simp
  | _ => cases h <;> simp
theorem de_isiB {T : String} {x : Str} {p : String → Bool} {e : Expr} {da : DE} {fp np : Pos} (hp : tags.all (fun t => decide (kitB t T = some (p t))) = true) (hg : Gl X "isinstance") (hm : X.mg "isinstance" = none) (hgx : Gl X x) (hmx : X.mg x = none) (hx : bootBuiltins x = some (.type T)) (he : DEx X W e da)
    (hn : x ≠ "__name__" := by decide) (hd : (x == ("__debug__" : Str)) = false := by decide) (hs : starEach [e, .Name x np] X.env = (false, eval e X.env) :: starEach [.Name x np] X.env := by rfl) (hs2 : starEach [.Name x np] X.env = (false, eval (.Name x np) X.env) :: starEach [] X.env := by rfl) (hpl : (backTo pos (starEach [.Name x np] X.env)).any (·.1) = false := by rfl) :
    DEx X W (.Call (.Name "isinstance" fp) [e, .Name x np] [] pos) (dIsB p da) := by
  obtain ⟨_, p1, s1⟩ := he
  refine ⟨_, pe_callB call_isi hg hm (by decide +kernel) (pa_cons p1 (pa_cons (pe_bltn (v := .ty T) hgx hmx hx rfl hn hd) pa_nil hs2) hs) (by decide) (by decide) hs hpl, fun φ M H σ r Q S E h => ?_⟩
  refine s1 φ M H σ r _ S E (Okd.bind h fun d M1 v φ1 H1 _ g1 S1 rv h1 => ?_)
  have h1 : Okd X.K φ1 H1 (RE X.K) (match tagOf M1 d with
    | some t => .ok (.bl (p t)) M1
    | none => .no) Q (fun c d H' => W c d σ H') := h1
  cases q : tagOf M1 d with
  | none => rw [q] at h1; exact h1.elim
  | some t =>
    rw [q] at h1
    have z := of_decide_eq_true (List.all_eq_true.mp hp t (tag_mem q))
    exact ⟨v, .ty T, .type t, .type T, p t, rfl, .ty T, tag_ty S1 rv q, kit_ty z, okB S1 h1⟩
/-! ### max(a, b), int(x) -/
def fMax2 : FN := fun ds M => match ds with
  | [.int i, .int j] => .ok (.int (if j > i then j else i)) M
  | _ => .no
theorem o_max2 {K : Frg} : OpN K (fun xs H Q => ∃ i j, xs = [.int i, .int j] ∧ Q (.int (if j > i then j else i)) H) fMax2 := by
  intro φ M H xs ds Q W S r h
  unfold fMax2 at h
  split at h
  · rename_i i j
    obtain ⟨v, w, rfl, r1, r2⟩ := r.inv
    obtain ⟨v', w', rfl, r3, r4⟩ := r2.inv
    rw [r4.inv0, rep_int_inv r1, rep_int_inv r3]
    exact ⟨i, j, rfl, okI S h⟩
  · exact h.elim
def fMin2 : FN := fun ds M => match ds with
  | [.int i, .int j] => .ok (.int (if j < i then j else i)) M
  | _ => .no
theorem o_min2 {K : Frg} : OpN K (fun xs H Q => ∃ i j, xs = [.int i, .int j] ∧ Q (.int (if j < i then j else i)) H) fMin2 := by
  intro φ M H xs ds Q W S r h
  unfold fMin2 at h
  split at h
  · rename_i i j
    obtain ⟨v, w, rfl, r1, r2⟩ := r.inv
    obtain ⟨v', w', rfl, r3, r4⟩ := r2.inv
    rw [r4.inv0, rep_int_inv r1, rep_int_inv r3]
    exact ⟨i, j, rfl, okI S h⟩
  · exact h.elim
def fIntOf : FN := fun ds M => match ds with
  | [.int i] => .ok (.int i) M
  | [.bl b] => .ok (.int (if b then 1 else 0)) M
  | _ => .no
theorem o_intOf {K : Frg} : OpN K (fun xs H Q => (∃ i, xs = [.int i] ∧ Q (.int i) H) ∨ ∃ k, xs = [.bl k] ∧ Q (.int (if k then 1 else 0)) H) fIntOf := by
  intro φ M H xs ds Q W S r h
  unfold fIntOf at h
  split at h
  · rename_i i
    obtain ⟨v, w, rfl, r1, r2⟩ := r.inv
    rw [r2.inv0, rep_int_inv r1]
    exact .inl ⟨i, rfl, okI S h⟩
  · rename_i b
    obtain ⟨v, w, rfl, r1, r2⟩ := r.inv
    rw [r2.inv0, rep_bl_inv r1]
    exact .inr ⟨b, rfl, okI S h⟩
  · exact h.elim
/-! ### text * 0, text * 1 (and products of ints) -/
def rMulX : R2 := fun x y H Q => (∃ i j, x = .int i ∧ y = .int j ∧ CMul i j ∧ Q (.int (i * j)) H) ∨ ∃ s j, x = .str s ∧ y = .int j ∧ ((j = 0 ∧ Q (.str Str.empty) H) ∨ (j = 1 ∧ Q (.str s) H))
theorem opr_mul {X : Cx} : OpR X (binaryOp .Mult) rMulX := by
  refine OpR.or (r := fun x y H Q => ∃ i j, x = .int i ∧ y = .int j ∧ CMul i j ∧ Q (.int (i * j)) H) op_mul ?_
  intro pins s σ H x y v u Q I rx ry h
  obtain ⟨z, j, rfl, rfl, h⟩ := h
  obtain ⟨t, rfl⟩ := rx
  obtain ⟨t', rfl⟩ := ry
  rcases h with ⟨rfl, h⟩ | ⟨rfl, h⟩
  · exact PySem.P.mul_str_none (by decide) (by decide) ⟨.str Str.empty, H, I.tok _, ⟨_, rfl⟩, h⟩
  · refine SB.mul ⟨by decide, fun _ z => absurd z (by simp), fun _ z => absurd z (by simp)⟩ fun t' k => ⟨.str z, H, I.tok k, ⟨t', ?_⟩, h⟩
    unfold Txt.mul
    rw [if_neg (by decide), if_pos (by simp)]
def fMulX : F2 := fun x y M => match x, y with
  | .int i, .int j => (match small64 i || small64 j with
    | true => .ok (.int (i * j)) M
    | false => .no)
  | .str s, .int j => if j = 0 then .ok (.str Str.empty) M else if j = 1 then .ok (.str s) M else .no
  | _, _ => .no
theorem o_mulX {K : Frg} : Op2 K rMulX fMulX := by
  intro φ M H x y a b Q W S ra rb h
  cases a with
  | int i =>
    cases b with
    | int j =>
      have h : Okd K φ H (RE K) (match small64 i || small64 j with
        | true => .ok (.int (i * j)) M
        | false => .no) Q W := h
      cases q : small64 i || small64 j with
      | false => rw [q] at h; exact h.elim
      | true =>
        rw [q] at h
        refine .inl ⟨i, j, rep_int_inv ra, rep_int_inv rb, ?_, okI S h⟩
        rcases Bool.or_eq_true_iff.mp q with a | a
        · exact .inl (small64_ok a)
        · exact .inr (small64_ok a)
    | _ => exact h.elim
  | str s =>
    cases b with
    | int j =>
      have h : Okd K φ H (RE K) (if j = 0 then .ok (.str Str.empty) M else if j = 1 then .ok (.str s) M else .no) Q W := h
      refine .inr ⟨s, j, rep_str_inv ra, rep_int_inv rb, ?_⟩
      by_cases h0 : j = 0
      · rw [if_pos h0] at h; exact .inl ⟨h0, okT S h⟩
      · rw [if_neg h0] at h
        by_cases h1 : j = 1
        · rw [if_pos h1] at h; exact .inr ⟨h1, okT S h⟩
        · rw [if_neg h1] at h; exact h.elim
    | _ => exact h.elim
  | _ => cases b <;> exact h.elim
end
end LF
set_option Elab.async false
set_option linter.all false
set_option maxRecDepth 100000
set_option maxHeartbeats 4000000
/-! LF9: dicts; try with the error as a value; calls within an except suite; isinstance of errors. -/
namespace LF
open PySem PySem.Spec PyProof.Rows L2
/-! ### dicts -/
def keyOf : D → Option Key
  | .int i => some (.inl i)
  | .str s => some (.inr s)
  | _ => none
theorem key_rep {K : Frg} {φ : Wd} {H : Hp} {d : D} {v : V} {k : Key} (r : Rep K φ H d v) (h : keyOf d = some k) : v = kV k := by
  cases d with
  | int i => cases h; exact rep_int_inv r
  | str s => cases h; exact rep_str_inv r
  | _ => cases h
/-- d[k], k there -/
def fDGet : F2 := fun x y M => match x, keyOf y with
  | .obj n, some k => (match M[n]? with
    | some (.dic kvs) => liftO (lookD kvs k) M
    | _ => .no)
  | _, _ => .no
theorem fDGet_inv {K : Frg} {φ : Wd} {H : Hp} {Q : VK} {W : XK} {x y : D} {M : Mem} (h : Okd K φ H (RE K) (fDGet x y M) Q W) : ∃ n k kvs, x = .obj n ∧ keyOf y = some k ∧ M[n]? = some (.dic kvs) ∧ Okd K φ H (RE K) (liftO (lookD kvs k) M) Q W := by
  cases x with
  | obj n =>
    unfold fDGet at h
    cases hk : keyOf y with
    | none => rw [hk] at h; exact h.elim
    | some k =>
      rw [hk] at h
      dsimp only at h
      split at h
      · rename_i kvs hM
        exact ⟨n, k, kvs, rfl, rfl, hM, h⟩
      · exact h.elim
  | _ => exact h.elim
section
variable {X : Cx} {W : WX} {pos : Pos}
theorem de_dget {o i : Expr} {da db : DE} (hu : X.A.units + 1 < cLine) (ho : DEx X W o da) (hi : DEx X W i db) (hs : NoSl i := by intro _ _; rfl) : DEx X W (.Subscript o i pos) (dBin fDGet da db) := by
  obtain ⟨_, p1, s1⟩ := ho
  obtain ⟨_, p2, s2⟩ := hi
  refine ⟨_, pe_dget hu p1 p2 hs, fun φ M H σ r Q S E h => ?_⟩
  refine s1 φ M H σ r _ S E (Okd.bind h fun x M1 v φ1 H1 _ g1 S1 r1 h1 => ?_)
  refine s2 φ1 M1 H1 σ r _ S1 (E.grow g1) (Okd.bind h1 fun y M2 u φ2 H2 _ g2 S2 r2 h2 => ?_)
  have r1 := Rep.grow g2 _ _ r1
  obtain ⟨n, k, kvs, rfl, hk, hM, h2⟩ := fDGet_inv h2
  unfold Rep at r1
  obtain ⟨a, ha, hv⟩ := r1
  obtain ⟨kv, e1, e2⟩ := S2.ob n a _ ha hM
  cases q : lookD kvs k with
  | none => rw [q] at h2; exact h2.elim
  | some d =>
    rw [q] at h2
    obtain ⟨w, k1, k2⟩ := (e2.look (k := k)).2 d q
    refine ⟨a, w, hv, ?_, h2.here S2 k2⟩
    rw [key_rep r2 hk, ← k1]
    exact DGet.k e1
/-- d[k] = e -/
def putAt (o k v : D) (r : Env') (M : Mem) : SO := match o, keyOf k with
  | .obj n, some k => (match M[n]? with
    | some (.dic kvs) => (match lineB kvs.length with
      | true => .nx r (M.set n (.dic (putD kvs k v)))
      | false => .no)
    | _ => .no)
  | _, _ => .no
theorem putAt_inv {K : Frg} {φ : Wd} {H : Hp} {E : Ends} {W : WX} {x y z : D} {r : Env'} {M : Mem} (h : OkS K φ H (putAt x y z r M) E W) : ∃ n k kvs, x = .obj n ∧ keyOf y = some k ∧ M[n]? = some (.dic kvs) ∧ lineB kvs.length = true ∧ OkS K φ H (.nx r (M.set n (.dic (putD kvs k z)))) E W := by
  cases x with
  | obj n =>
    unfold putAt at h
    cases hk : keyOf y with
    | none => rw [hk] at h; exact h.elim
    | some k =>
      rw [hk] at h
      dsimp only at h
      split at h
      · rename_i kvs hM
        cases q : lineB kvs.length with
        | false => rw [q] at h; exact h.elim
        | true => rw [q] at h; exact ⟨n, k, kvs, rfl, rfl, hM, q, h⟩
      · exact h.elim
  | _ => exact h.elim
def dDPut (do_ dk dv : DE) : DS := fun r M => (dv r M).bindS r fun v M1 => (do_ r M1).bindS r fun o M2 => (dk r M2).bindS r fun k M3 => putAt o k v r M3
theorem ds_dput {o i value : Expr} {pos' : Pos} {da db dv : DE} (hu : X.A.units + 1 < cLine) (ho : DEx X W o da) (hi : DEx X W i db) (hv : DEx X W value dv) (hs : swapsWith value (some (.Subscript o i pos')) pos.line X.env = pure false := by rfl) :
    DSx X W (.Assign [.Subscript o i pos'] value pos) (dDPut da db dv) := by
  obtain ⟨_, p1, s1⟩ := ho
  obtain ⟨_, p2, s2⟩ := hi
  obtain ⟨_, p3, s3⟩ := hv
  refine ⟨_, ps_dput hu p1 p2 p3 hs, fun φ M H σ r E S er h => ?_⟩
  refine s3 φ M H σ r _ S er (OkS.bind er h fun z M1 v φ1 H1 _ g1 S1 rv h1 => ?_)
  refine s1 φ1 M1 H1 σ r _ S1 (er.grow g1) (OkS.bind (er.grow g1) h1 fun x M2 u φ2 H2 _ g2 S2 ru h2 => ?_)
  refine s2 φ2 M2 H2 σ r _ S2 ((er.grow g1).grow g2) (OkS.bind ((er.grow g1).grow g2) h2 fun y M3 w φ3 H3 _ g3 S3 rw_ h3 => ?_)
  replace rv := Rep.grow (g2.trans g3) _ _ rv
  replace ru := Rep.grow g3 _ _ ru
  obtain ⟨n, k, kvs, rfl, hk, hM, q, h3⟩ := putAt_inv h3
  unfold Rep at ru
  obtain ⟨a, ha, hv⟩ := ru
  obtain ⟨kv, e1, e2⟩ := S3.ob n a _ ha hM
  refine ⟨a, upd H3 a (.dK (putK kv k v)), hv, ?_, ?_⟩
  · rw [key_rep rw_ hk]
    exact DPut.k e1 (by rw [e2.len]; exact lineB_lt q)
  · have gp : Grow φ3 H3 φ3 (upd H3 a (.dK (putK kv k v))) := Grow.put (List.mem_of_getElem? ha) (fun ob u z => by rw [e1] at z; cases z)
    exact h3 σ φ3 _ gp (S3.put ha ⟨_, upd_same, RepK.mo gp.mo (e2.put rv)⟩) ((er.grow ((g1.trans g2).trans g3)).grow gp)
/-- {} that will not change -/
theorem de_dnew : DEx X W (.Dict [] [] pos) (dC (.dic [] [])) := ⟨_, pe_dnewK, fun φ M H σ r Q S E h p hp => h (.ref p) φ _ (Grow.new hp) (S.new hp) (by
  show Rep _ _ _ _ _
  unfold Rep
  exact ⟨p, [], rfl, S.fresh hp, upd_same, rfl, RepL.nil⟩)⟩
def dNewDic : DE := fun _ M => .ok (.obj M.length) (M ++ [.dic []])
theorem de_dnewA : DEx X W (.Dict [] [] pos) dNewDic := ⟨_, pe_dnewK, fun φ M H σ r Q S E h p hp => h (.ref p) _ _ (Grow.alloc hp) (S.alloc hp ⟨[], upd_same, RepK.nil⟩) (rep_obj_new S.len)⟩
/-- a display with written keys -/
def dPairs : List (Key × DE) → Env' → Mem → Out (List (Key × D))
  | [], _, M => .ok [] M
  | (k, de) :: ps, r, M => (de r M).bind fun d M1 => (dPairs ps r M1).bind fun l M2 => .ok ((k, d) :: l) M2
def SimP (K : Frg) (W : WX) (trs : List (TE × TE)) (ps : List (Key × DE)) : Prop := ∀ φ M H σ r (Q : List (V × V) → Hp → Prop), Sto K φ M H → EnvR K φ H r σ → Okd K φ H (fun φ H (a : List (Key × D)) (b : List (Key × V)) => RepK K φ H a b) (dPairs ps r M) (fun l H' => Q (l.map fun kv => (kV kv.1, kv.2)) H') (fun c d H' => W c d σ H') → tPairs trs σ H Q
def DPPx (X : Cx) (W : WX) (pos : Pos) (keys : List (Option Expr)) (values : List Expr) (ps : List (Key × DE)) : Prop := ∃ trs, PPs X pos keys values trs ∧ SimP X.K W trs ps
theorem dpp_nil : DPPx X W pos [] [] [] := ⟨_, pps_nil, fun φ M H σ r Q S E h => h [] φ H Grow.refl S RepK.nil⟩
theorem dpp_cons {k v : Expr} {ks : List (Option Expr)} {vs : List Expr} {ps : List (Key × DE)} {kk : Key} {tk : TE} {dv : DE} (hk : PE X k tk) (ek : ∀ σ H Q, tk σ H Q = Q (kV kk) H) (hv : DEx X W v dv) (hr : DPPx X W pos ks vs ps) : DPPx X W pos (some k :: ks) (v :: vs) ((kk, dv) :: ps) := by
  obtain ⟨_, p1, s1⟩ := hv
  obtain ⟨_, p2, s2⟩ := hr
  refine ⟨_, pps_cons hk p1 p2, fun φ M H σ r Q S E h => ?_⟩
  show tk σ H _
  rw [ek]
  refine s1 φ M H σ r _ S E (Okd.bind h fun d M1 v φ1 H1 _ g1 S1 r1 h1 => ?_)
  refine s2 φ1 M1 H1 σ r _ S1 (E.grow g1) (Okd.bind h1 fun l M2 lv φ2 H2 _ g2 S2 r2 h2 => ?_)
  exact h2.here (v := (kk, v) :: lv) S2 (RepK.cons (Rep.grow g2 _ _ r1) r2)
theorem dpp_str {x : Str} {j : Nat} {p : Pos} {v : Expr} {ks : List (Option Expr)} {vs : List Expr} {ps : List (Key × DE)} {dv : DE} (hv : DEx X W v dv) (hr : DPPx X W pos ks vs ps) : DPPx X W pos (some (.Constant (.str x) j p) :: ks) (v :: vs) ((.inr x, dv) :: ps) := dpp_cons pe_str (fun _ _ _ => rfl) hv hr
theorem dpp_int {x : Int} {j : Nat} {p : Pos} {v : Expr} {ks : List (Option Expr)} {vs : List Expr} {ps : List (Key × DE)} {dv : DE} (hv : DEx X W v dv) (hr : DPPx X W pos ks vs ps) : DPPx X W pos (some (.Constant (.int x) j p) :: ks) (v :: vs) ((.inl x, dv) :: ps) := dpp_cons pe_int (fun _ _ _ => rfl) hv hr
def mergeD (a b : List (Key × D)) : List (Key × D) := b.foldl (fun acc kv => putD acc kv.1 kv.2) a
theorem RepK.merge {K : Frg} {φ : Wd} {H : Hp} : ∀ {b : List (Key × D)} {bv : List (Key × V)} {a : List (Key × D)} {av : List (Key × V)}, RepK K φ H a av → RepK K φ H b bv → RepK K φ H (mergeD a b) (mergeK av bv)
  | [], _, _, _, h, k => by
    have k : _ = [] := k
    rw [k]; exact h
  | (x, d) :: b, _, _, _, h, ⟨v, l', e, h1, h2⟩ => by
    rw [e]
    exact RepK.merge (K := K) (φ := φ) (H := H) (b := b) (bv := l') (h.put (k := x) h1) h2
def dDisp (ps : List (Key × DE)) : DE := fun r M => (dPairs ps r M).bind fun kvs M1 => match Nat.ble kvs.length 15 with
  | true => .ok (.obj M1.length) (M1 ++ [.dic (mergeD [] kvs)])
  | false => .no
/-- out of a place under construction -/
theorem unlocked {K : Frg} {φ φ' : Wd} {H H' : Hp} {p : Addr} {o : HO} {M : Mem} (hp : H p = none) (npa : p ∉ φ.ar) (g : Grow (φ.lock p) (upd H p o) φ' H') (S : Sto K φ' M H') : Mo φ' H' ⟨φ'.ar, φ.lk⟩ H' ∧ Grow φ H ⟨φ'.ar, φ.lk⟩ H' ∧ Sto K ⟨φ'.ar, φ.lk⟩ M H' ∧ p ∉ φ'.ar ∧ H' p = some o := by
  have lk : φ'.lk = p :: φ.lk := g.lk
  have un : Mo φ' H' ⟨φ'.ar, φ.lk⟩ H' := ⟨fun a u n e => ⟨⟨n.1, fun z => n.2 (by rw [lk]; exact List.mem_cons_of_mem _ z)⟩, e⟩, fun _ _ e => e⟩
  have back : ∀ a, (upd H p o) a = none → H a = none := fun a h => by
    by_cases q : a = p
    · rw [q]; exact hp
    · rw [upd_ne q] at h; exact h
  have G : Grow φ H ⟨φ'.ar, φ.lk⟩ H' := ⟨let ⟨ψ, e, hψ⟩ := g.ext; ⟨ψ, e, fun a ha => back a (hψ a ha)⟩, rfl, fun a u e n => g.stay a u (by rw [upd_ne (ne_of_none e hp)]; exact e) n, fun a h => back a (g.dom a h), fun a ob u e => g.frz a ob u (by rw [upd_ne (ne_of_none e hp)]; exact e)⟩
  have np : p ∉ φ'.ar := g.notin upd_same npa
  exact ⟨un, G, ⟨S.len, S.nd, fun a ha => S.lk a (by rw [lk]; exact List.mem_cons_of_mem _ ha), fun i a mo e1 e2 => (S.ob i a mo e1 e2).mo un rfl⟩, np, g.stay p o upd_same npa⟩
theorem de_disp {keys : List (Option Expr)} {values : List Expr} {ps : List (Key × DE)} (h : DPPx X W pos keys values ps) (hall : keys.all (·.isSome) = true) (hl : keys.length = values.length) (h0 : keys ≠ []) (h15 : keys.length ≤ 15) : DEx X W (.Dict keys values pos) (dDisp ps) := by
  obtain ⟨_, p1, s1⟩ := h
  refine ⟨_, pe_disp p1 hall hl h0 h15, fun φ M H σ r Q S E h p hp => ?_⟩
  refine s1 (φ.lock p) M (upd H p (.dK [])) σ r _ (S.lock hp) (E.mo (Mo.lock hp)) ?_
  have h : Okd X.K φ H (RE X.K) ((dPairs ps r M).bind fun kvs M1 => match Nat.ble kvs.length 15 with
    | true => .ok (.obj M1.length) (M1 ++ [.dic (mergeD [] kvs)])
    | false => .no) Q (fun c d H' => W c d σ H') := h
  cases q : dPairs ps r M with
  | no => rw [q] at h; exact h.elim
  | ex e M1 =>
    rw [q] at h
    intro cls dd φ' H' g S' x
    obtain ⟨un, G, S2, np, _⟩ := unlocked hp (S.fresh hp).1 g S'
    exact h cls dd _ H' G S2 (x.mo un)
  | ok kvs M1 =>
    rw [q] at h
    intro l φ' H' g S' rl
    obtain ⟨un, G, S2, np, hpd⟩ := unlocked hp (S.fresh hp).1 g S'
    have rl : RepK X.K φ' H' kvs l := rl
    have h : Okd X.K φ H (RE X.K) (match Nat.ble kvs.length 15 with
      | true => .ok (.obj M1.length) (M1 ++ [.dic (mergeD [] kvs)])
      | false => .no) Q (fun c d H' => W c d σ H') := h
    cases q2 : Nat.ble kvs.length 15 with
    | false => rw [q2] at h; exact h.elim
    | true =>
      rw [q2] at h
      refine ⟨hpd, l, rfl, by rw [rl.len]; exact Nat.le_of_ble_eq_true q2, ?_⟩
      -- the new dict comes into the arena
      have mo : Mo φ' H' ⟨φ'.ar ++ [p], φ.lk⟩ (upd H' p (.dK (mergeK [] l))) := ⟨fun a u n e => by
        have na : a ≠ p := fun z => n.2 (by rw [z, g.lk]; exact List.mem_cons_self)
        refine ⟨⟨fun z => ?_, fun z => n.2 (by rw [g.lk]; exact List.mem_cons_of_mem _ z)⟩, by rw [upd_ne na]; exact e⟩
        rcases List.mem_append.mp z with w | w
        · exact n.1 w
        · exact na (List.mem_singleton.mp w), fun i a e => by
          show (φ'.ar ++ [p])[i]? = some a
          rw [List.getElem?_append_left (List.getElem?_eq_some_iff.mp e).1]; exact e⟩
      have G2 : Grow φ H ⟨φ'.ar ++ [p], φ.lk⟩ (upd H' p (.dK (mergeK [] l))) := by
        refine ⟨?_, rfl, fun a u e n => ?_, fun a e => ?_, fun a ob u e => by rw [upd_ne (ne_of_none e hp)]; exact G.frz a ob u e⟩
        · obtain ⟨ψ, e, hψ⟩ := G.ext
          refine ⟨ψ ++ [p], by show φ'.ar ++ [p] = _; have e : φ'.ar = φ.ar ++ ψ := e; rw [e, List.append_assoc], fun a ha => ?_⟩
          rcases List.mem_append.mp ha with w | w
          · exact hψ a w
          · rw [List.mem_singleton.mp w]; exact hp
        · rw [upd_ne (ne_of_none e hp)]; exact G.stay a u e n
        · by_cases w : a = p
          · rw [w]; exact hp
          · rw [upd_ne w] at e; exact G.dom a e
      refine h (.ref p) ⟨φ'.ar ++ [p], φ.lk⟩ _ G2 ⟨by simp [S'.len], ?_, fun a ha z => ?_, fun i a m e1 e2 => ?_⟩ ?_
      · refine List.nodup_append.mpr ⟨S'.nd, by simp, fun a ha b hb => ?_⟩
        have hb' := List.mem_singleton.mp hb
        intro z
        rw [z, hb'] at ha
        exact np ha
      · by_cases w : a = p
        · rw [w, upd_same] at z; cases z
        · rw [upd_ne w] at z; exact S2.lk a ha z
      · have e1 : (φ'.ar ++ [p])[i]? = some a := e1
        by_cases hi : i < φ'.ar.length
        · rw [List.getElem?_append_left hi] at e1
          rw [List.getElem?_append_left (by rw [← S'.len]; exact hi)] at e2
          exact (S'.ob i a m e1 e2).mo mo (upd_ne fun z => np (z ▸ List.mem_of_getElem? e1))
        · rw [List.getElem?_append_right (by omega)] at e1
          rw [List.getElem?_append_right (by rw [← S'.len]; omega), ← S'.len] at e2
          cases hk : i - φ'.ar.length with
          | zero =>
            rw [hk] at e1 e2
            simp at e1 e2
            subst e1; subst e2
            exact ⟨_, upd_same, RepK.merge RepK.nil (RepK.mo mo rl)⟩
          | succ k => rw [hk] at e1; simp at e1
      · show Rep _ _ _ _ _
        unfold Rep
        exact ⟨p, by show (φ'.ar ++ [p])[M1.length]? = some p; rw [← S'.len]; simp, rfl⟩
end
end LF
set_option Elab.async false
set_option linter.all false
set_option maxRecDepth 100000
set_option maxHeartbeats 4000000
/-! LF10: try with the error as a value; defs called within an except suite; isinstance of errors. -/
namespace LF
open PySem PySem.Spec PyProof.Rows L2
/-! ### the caught error comes to be tracked -/
section
variable {X : Cx} {pins : List (Addr × Obj)} {σ : L2.St} {H : Hp} {s : Shared}
theorem track {a C : Addr} {oe : Obj} {vs : Array Value} {dd : Option Addr} (I : Inv X pins σ H s) (ha : s.heap.get? a = some oe) (hd : oe.data = .fields vs) (hc : oe.cls = .ref C) (hdd : oe.dict = dd) (na : H a = none) (nL : a ≠ X.env.locals)
    (new : X.s_0.heap.get? a = none) (np : ∀ p ∈ X.pn ++ pins, p.1 ≠ a) : Inv X pins σ (upd H a (.ext (IsX a C dd))) s := by
  refine ⟨I.ok, I.os, I.bare, ⟨I.base.keep, I.base.slot, fun b o e n hx => ?_, I.base.there, fun b xs e => ?_, fun b o xs e => ?_, fun b ps e => ?_⟩, I.loc, I.cell, ?_, fun x c e => ?_, fun p hp => ?_, fun b o e => ?_, I.len⟩
  · have nb : b ≠ a := fun z => by rw [z, new] at e; cases e
    rw [upd_ne nb]; exact I.base.free b o e n hx
  · have q := I.base.tups b xs e
    rw [upd_ne (ne_of_none q na)]; exact q
  · have q := I.base.frzs b o xs e
    rw [upd_ne (ne_of_none q na)]; exact q
  · obtain ⟨m, q⟩ := I.base.tbls b ps e
    exact ⟨m, by rw [upd_ne (ne_of_none q na)]; exact q⟩
  · rw [upd_ne (fun z => nL z.symm)]; exact I.free
  · have nc : c ≠ a := fun z => by
      obtain ⟨v, o, h1, h2⟩ := I.cell x c e
      rw [z, ha] at h1
      cases h1
      rw [hd] at h2; cases h2
    rw [upd_ne nc]; exact I.freeC x c e
  · obtain ⟨h1, h2, h3⟩ := I.pin p hp
    exact ⟨h1, by rw [upd_ne (np p hp)]; exact h2, h3⟩
  · by_cases q : b = a
    · subst q
      rw [upd_same] at e; cases e
      exact ⟨⟨oe, vs, ha, hc, hdd, hd⟩, ⟨oe, ha⟩, fun h1 h2 ⟨o', vs', k1, k2, k3, k4⟩ st => ⟨o', vs', st _ k1, k2, k3, k4⟩⟩
    · rw [upd_ne q] at e
      refine (I.hok b o e).stay (fun c u _ r => r) (fun c r => ?_) fun c xs r => ?_
      · rw [upd_ne (ne_of_none r na)]; exact r
      · rw [upd_ne (ne_of_none r na)]; exact r
theorem Inv.suiteT (I : Inv X pins σ H s) (a : Addr) : Inv (X.suite a (X.pn ++ pins)) [] σ H s :=
  ⟨I.ok.suite _ _, I.os, I.bare, I.base, I.loc, I.cell, I.free, I.freeC, fun p hp => I.pin p (by rw [List.append_nil] at hp; exact hp), I.hok, I.len⟩
theorem Inv.unsuiteT {a : Addr} {pn' : List (Addr × Obj)} (I : Inv (X.suite a (X.pn ++ pins)) pn' σ H s) (ok : X.Ok) : Inv X pins σ H s :=
  ⟨ok, I.os, I.bare, I.base, I.loc, I.cell, I.free, I.freeC, fun p hp => I.pin p (List.mem_append_left _ hp), I.hok, I.len⟩
end
/-- what the clause 'except x as n' wishes of an error of the body -/
def wAsT (K : Frg) (c : Value) (i : Nat) (ts : TS) (Wout : WX) (D : Ends) : WX := fun cls d σ H =>
  ∃ C, cls = .ref C ∧ ∃ b, PySem.W.exmOne K cls c = some b ∧ (b = true → ∀ a, H a = none → ts { nx := fun σ' H' => D.nx (σ'.set i none) H', rt := D.rt, bk := fun σ' H' => D.bk (σ'.set i none) H', ct := fun σ' H' => D.ct (σ'.set i none) H' } (σ.set i (some (.ref a))) (upd H a (.ext (IsX a C d)))) ∧
    (b = false → Wout cls d σ H)
section
variable {X : Cx} {x n : Str} {c : Value} {i : Nat} {body suite : List Stmt} {b₀ : Stmt} {np pos pos' : Pos} {tb : WX → TS} {ts : TS} {Wout : WX}
theorem ps_try_asT (hs : X.stack = X.env :: X.outer) (hf : X.env.frame = some X.env.locals) (hex : X.ex = []) (hN : X.N.Nodup) (hi : X.N[i]? = some n) (hln : X.env.kindOf n = some .local) (hc : Names X x c) (tk : Takes X Wout)
    (hb : ∀ (W : WX) (pn : List (Addr × Obj)) (xe : Value → Shared → Prop), Takes (X.tr pn xe) W → PassesOwn (model X.prog X.w) X.A X.env xe → PSs (X.tr pn xe) body (tb W))
    (hsu : ∀ (a : Addr) (pn : List (Addr × Obj)), PSs (X.suite a pn) (b₀ :: suite) ts) :
    PS X (.Try body [.ExceptHandler (some (.Name x np)) (some n) (b₀ :: suite) pos'] [] [] pos) (fun D σ H => tb (wAsT X.K c i ts Wout D) D σ H) := by
  refine ⟨fun pins s σ H D I h => ?_⟩
  have ok := I.ok
  have hfr : X.A.frames = some (X.env :: X.outer) := by rw [ok.frames, hs]
  have hloc : Loc X.env.scope n := .inl hln
  refine wpAny_Try_except ?_
  refine wpAny_mono ((hb (wAsT X.K c i ts Wout D) (X.pn ++ pins) (fun e s₁ => wpAny (model X.prog X.w) X.A (noteFrame e X.env) (fun _ s₂ => wpAny (model X.prog X.w) X.A (setFlight e none) (fun _ s₃ =>
    wpAny (model X.prog X.w) X.A (handleBy e X.env [.ExceptHandler (some (.Name x np)) (some n) (b₀ :: suite) pos']) (SP X pins D) X.xe s₃) X.xe s₂) X.xe s₁) (fun u s' xx => ?_) PassesOwn.looking).run [] s σ H D (I.toTry _) h) (fun f s1 hsp => ?_) (fun e s1 he => he)
  · obtain ⟨a, B, sI, pins', σ', H', cls, d, rfl, J', nb, up, sky, na, os, ag, C, hcls, b, hb1, hyes, hno⟩ := xx
    have J : Inv X pins σ' H' sI := J'.ofTry ok
    have sky' : Sky B (X.env :: X.outer) a (Zc cls d) X.env.locals s'.heap := by rw [← hs]; exact sky
    show wpAny (model X.prog X.w) X.A (noteFrame (.ref a) X.env) _ _ _
    refine Sky.land Zc.steady hfr hf sky' fun h3 fl3 up3 => ?_
    have J3 : Inv X pins σ' H' { s' with heap := h3 } := J.landed nb fl3.1 (up.trans up3) os ag
    obtain ⟨oe3, vs3, he3, hz3, hd3⟩ := fl3.there
    have notFr : ∀ {h : Heap} {o : Obj} {vs : Array Value}, h.FunFrames B (X.env :: X.outer) → h.get? a = some o → o.data = .fields vs → a ∉ frs (X.env :: X.outer) := fun {h o vs} ff e dd hm => by
      obtain ⟨_, o', e', hnf⟩ := ff.mem hm
      rw [e] at e'; cases e'
      exact hnf _ dd
    have nfr := notFr fl3.2.2.1 he3 hd3
    have nL : a ≠ X.env.locals := fun z => nfr (List.mem_filterMap.mpr ⟨X.env, List.mem_cons_self, by rw [hf, z]⟩)
    have nF : a ∉ X.fs := fun hm => by
      obtain ⟨e, he, q⟩ := List.mem_filterMap.mp hm
      exact nfr (List.mem_filterMap.mpr ⟨e, List.mem_cons_of_mem _ he, q⟩)
    have nfs : a ∉ frs X.stack := by rw [hs]; exact nfr
    have sInone : sI.heap.get? a = none := by
      cases q : sI.heap.get? a with
      | none => rfl
      | some o =>
        have z := nb a o q nfs
        rw [fl3.2.1] at z; cases z
    have s0none : X.s_0.heap.get? a = none := by
      cases q : X.s_0.heap.get? a with
      | none => rfl
      | some o =>
        obtain ⟨o', z⟩ := J.base.there a o q (by rw [hex]; simp)
        rw [sInone] at z; cases z
    have nps : ∀ p ∈ X.pn ++ pins, p.1 ≠ a := fun p hp z => by
      have q := (J.pin p hp).1
      rw [z, sInone] at q; cases q
    have S3 := J3.suite he3 hd3 na nL nF
    refine wpAny_handleBy_cons (codeAny_handlers_test ?_) (by intro q; cases q)
    have LT : PySem.W.Looks (model X.prog X.w) h3 (typeOf (.ref a)) cls := fun A Q E s k q => wpAny_typeOf_ref (k _ _ he3) (by rw [hz3.1]; exact q)
    have LM := PySem.W.exm_one (M := model X.prog X.w) (J3.kIn) LT hb1
    have test : ∀ {Q : Value → Shared → Prop} {E : Value → Shared → Prop}, Q c { s' with heap := h3 } → wpAny (model X.prog X.w) (X.A.mark (some (.ref a))) (eval (.Name x np) X.env) Q E { s' with heap := h3 } := fun {Q E} q => by
      obtain ⟨hg, hdbg, hm | ⟨hm, hv, hnn⟩⟩ := hc
      · exact ld_glob (X := X.suite a ((a, oe3) :: (X.pn ++ pins))) S3 hg hm q hdbg
      · exact ld_blt (X := X.suite a ((a, oe3) :: (X.pn ++ pins))) S3 hg hm hv q hnn hdbg
    refine test (LM.here ?_)
    cases b with
    | true =>
      refine codeAny_handlers_suite_as ?_
      refine HandSPX.lands_againZ fl3 fun h4 fl4 up4 => ?_
      have J4 : Inv X pins σ' H' { s' with heap := h4 } := J.landed nb fl4.1 ((up.trans up3).trans up4) os ag
      obtain ⟨oe4, vs4, he4, hz4, hd4⟩ := fl4.there
      have J5 := track J4 he4 hd4 (hz4.1.trans hcls) hz4.2 na nL s0none nps
      have S4 := Inv.suiteT J5 a
      refine store_ok (X := X.suite a (X.pn ++ pins)) (v := .ref a) S4 hN hi hloc rfl (fun s5 S5 => ?_) (.inr hln)
      refine wpAny_mono ((hsu a (X.pn ++ pins)).run [] s5 _ _ _ S5 (hyes rfl a na)) (fun f s6 hsp => ?_) (fun _ _ z => False.elim z)
      have end_ : ∀ {σ6 : L2.St} {H6 : Hp} {Q : Shared → Prop}, Inv (X.suite a (X.pn ++ pins)) [] σ6 H6 s6 → (∀ s7, Inv X pins (σ6.set i none) H6 s7 → Q s7) →
          wpAny (model X.prog X.w) X.A (do bindName X.env n .none; unbindBehindTheSuite X.env n pos') (fun _ s7 => Q s7) X.xe s6 := fun {σ6 H6 Q} S6 hq => gone_ok (Inv.unsuiteT S6 ok) hN hi hln hq
      cases f with
      | next =>
        obtain ⟨σ6, H6, S6, q6⟩ := hsp
        exact end_ S6 fun s7 J7 => ⟨_, _, J7, q6⟩
      | brk =>
        obtain ⟨σ6, H6, S6, q6⟩ := hsp
        exact end_ S6 fun s7 J7 => ⟨_, _, J7, q6⟩
      | cont =>
        obtain ⟨σ6, H6, S6, q6⟩ := hsp
        exact end_ S6 fun s7 J7 => ⟨_, _, J7, q6⟩
      | ret u =>
        obtain ⟨v6, σ6, H6, S6, r6, q6⟩ := hsp
        exact end_ S6 fun s7 J7 => ⟨_, _, _, J7, r6, q6⟩
    | false =>
      show wpAny _ X.A (handleBy (.ref a) X.env []) _ _ _
      refine wpAny_handleBy_nil ?_
      obtain ⟨k1, k2, k3, oe, vs, T, oT, ts', he, hz, hd, h1, hr⟩ := id fl3
      unfold PySem.passOn
      refine wpAny_bind (wpAny_field he hd h1 ?_)
      rw [if_neg (show ¬ ((Value.ref T == Value.none) = true) from by simp)]
      have fin : wpAny (model X.prog X.w) X.A (setFlight (.ref a) X.env.frame) (fun _ s4 => wpAny (model X.prog X.w) X.A (throw (.ref a) : Sem Flow) (SP X pins D) X.xe s4) X.xe { s' with heap := h3 } := by
        rw [hf]
        refine HandSPX.setFlight_upZ fl3 fun h4 hh4 up4 => wpAny_throw (tk _ _ ?_)
        exact ⟨a, B, sI, pins, σ', H', cls, d, rfl, J, nb, (up.trans up3).trans up4, .inr (.inr (by rw [hs]; exact hh4)), na, os, ag, hno rfl⟩
      first
        | exact wpAny_bind (wpAny_pure (wpAny_bind fin))
        | exact wpAny_bind fin
  · cases f with
    | next =>
      obtain ⟨σ', H', J', q⟩ := hsp
      exact wpAny_execs_nil ⟨σ', H', J'.ofTry ok, q⟩
    | brk =>
      obtain ⟨σ', H', J', q⟩ := hsp
      exact ⟨σ', H', J'.ofTry ok, q⟩
    | cont =>
      obtain ⟨σ', H', J', q⟩ := hsp
      exact ⟨σ', H', J'.ofTry ok, q⟩
    | ret u =>
      obtain ⟨v, σ', H', J', r, q⟩ := hsp
      exact ⟨v, σ', H', J'.ofTry ok, r, q⟩
end
/-! ### .. on plain data -/
def tDS (K : Frg) (W : WX) (ds : DS) : TS := fun E σ H => ∃ φ M r, Sto K φ M H ∧ EnvR K φ H r σ ∧ OkS K φ H (ds r M) E W
theorem DBx.pss {X : Cx} {W : WX} {st : List Stmt} {ds : DS} (h : DBx X W st ds) : PSs X st (tDS X.K W ds) := by
  obtain ⟨t, p, s⟩ := h
  exact ⟨fun pins sh σ H D I ⟨φ, M, r, S, E, o⟩ => p.run pins sh σ H D I (s φ M H σ r D S E o)⟩
def offS (i : Nat) : SO → SO
  | .nx r M => .nx (r.set i none) M
  | .bk r M => .bk (r.set i none) M
  | .ct r M => .ct (r.set i none) M
  | .rt d M => .rt d M
  | _ => .no
def dTryAs (isa : Str → Option Bool) (i : Nat) (body hand : DS) : DS := fun r M => match body r M with
  | .ex e r1 M1 => (match isa e.c with
    | some true => offS i (hand (r1.set i (some (.exc e.c e.ns e.ds))) M1)
    | some false => .ex e r1 M1
    | none => .no)
  | o => o
theorem ds_try_as {X : Cx} {W : WX} {x n : Str} {i : Nat} {body suite : List Stmt} {b₀ : Stmt} {np pos pos' : Pos} {db dh : DS} {isa : Str → Option Bool} (hs : X.stack = X.env :: X.outer) (hf : X.env.frame = some X.env.locals) (hex : X.ex = []) (hN : X.N.Nodup) (hi : X.N[i]? = some n) (hln : X.env.kindOf n = some .local)
    (hg : Gl X x) (hm : X.mg x = some (.ref (He.ga X.K x))) (hdb : (x == ("__debug__" : Str)) = false) (tk : Takes X W) (hisa : ∀ c b, isa c = some b → PySem.W.exmOne X.K (.ref (He.ga X.K c)) (.ref (He.ga X.K x)) = some b)
    (hb : ∀ (W : WX) (pn : List (Addr × Obj)) (xe : Value → Shared → Prop), Takes (X.tr pn xe) W → PassesOwn (model X.prog X.w) X.A X.env xe → DBx (X.tr pn xe) W body db)
    (hsu : ∀ (a : Addr) (pn : List (Addr × Obj)), DBx (X.suite a pn) Wf (b₀ :: suite) dh) :
    DSx X W (.Try body [.ExceptHandler (some (.Name x np)) (some n) (b₀ :: suite) pos'] [] [] pos) (dTryAs isa i db dh) := by
  refine ⟨_, ps_try_asT (tb := fun W => tDS X.K W db) (ts := tDS X.K Wf dh) hs hf hex hN hi hln ⟨hg, hdb, .inl hm⟩ tk (fun W pn xe tk po => (hb W pn xe tk po).pss) (fun a pn => (hsu a pn).pss), fun φ M H σ r E S er h => ?_⟩
  refine ⟨φ, M, r, S, er, ?_⟩
  unfold dTryAs at h
  cases q : db r M with
  | ex e r1 M1 =>
    rw [q] at h
    dsimp only at h
    intro cls dd σ' φ' H' g S' er' xr
    refine ⟨_, xr.1, ?_⟩
    cases q2 : isa e.c with
    | none => rw [q2] at h; exact h.elim
    | some b =>
      rw [q2] at h
      refine ⟨b, by rw [xr.1]; exact hisa _ _ q2, fun eb a na => ?_, fun eb => ?_⟩
      · subst eb
        dsimp only at h
        have gn : Grow φ' H' φ' (upd H' a (.ext (IsX a (He.ga X.K e.c) dd))) := Grow.new na
        have rp : Rep X.K φ' (upd H' a (.ext (IsX a (He.ga X.K e.c) dd))) (.exc e.c e.ns e.ds) (.ref a) := by
          unfold Rep
          obtain ⟨fv, k1, k2, k3⟩ := xr.2.mo gn.mo
          exact ⟨a, dd, rfl, S'.fresh na, upd_same, fv, k1, k2, k3⟩
        refine ⟨φ', M1, r1.set i (some (.exc e.c e.ns e.ds)), S'.new na, (er'.grow gn).set rp, ?_⟩
        have h2 := OkS.grow (g.trans gn) h
        cases q3 : dh (r1.set i (some (.exc e.c e.ns e.ds))) M1 with
        | nx r2 M2 => rw [q3] at h2; exact fun s2 φ2 H2 g2 S2 er2 => h2 _ φ2 H2 g2 S2 er2.unset
        | bk r2 M2 => rw [q3] at h2; exact fun s2 φ2 H2 g2 S2 er2 => h2 _ φ2 H2 g2 S2 er2.unset
        | ct r2 M2 => rw [q3] at h2; exact fun s2 φ2 H2 g2 S2 er2 => h2 _ φ2 H2 g2 S2 er2.unset
        | rt d2 M2 => rw [q3] at h2; exact h2
        | ex e2 r2 M2 => rw [q3] at h2; exact h2.elim
        | no => rw [q3] at h2; exact h2.elim
      · subst eb
        exact h cls dd σ' φ' H' g S' er' xr
  | nx r1 M1 => rw [q] at h; exact h
  | bk r1 M1 => rw [q] at h; exact h
  | ct r1 M1 => rw [q] at h; exact h
  | rt d1 M1 => rw [q] at h; exact h
  | no => rw [q] at h; exact h
/-! ### defs called within an except suite (they raise nothing and walk nothing) -/
structure FnN (P : Program) (w : World) (K : Frg) (mg : Str → Option Value) (base : Heap) (CX : CXT) (k : Nat) (f : Addr) (fd : FuncData) (ps : List Str) (sp : Sp) : Prop where
  len : ∀ vs H Q E, sp vs H Q E → vs.length = ps.length
  run : ∀ (A : Around) (outer : List Env) (s : Shared) (H : Hp) (args : Args) (us : List Value) (vs : List V) (Q : VK) (E : XK), L2H.RoomH k A → Env0 P w K mg base A outer s H → BindsTo s fd args (ps.zip us) → Vals vs us → sp vs H Q E →
    codeAny (model P w) A (.call (.ref f) args) (CR CX outer P w H s Q E) s
def cxN (CX : CXT) (P : Program) (w : World) (K : Frg) (mg : Str → Option Value) (base : Heap) (N : List Str) (qual : Str) (scope : Scope) (f : Addr) (cd : Value) (A : Around) (outer : List Env) (s : Shared) (H : Hp) (E : XK) : Cx :=
  { cxOf CX P w K mg base N qual scope f cd A outer s H E with calm := false }
theorem inv_startN {CX : CXT} {P : Program} {w : World} {K : Frg} {mg : Str → Option Value} {base : Heap} {N ps : List Str} {qual : Str} {scope : Scope} {f : Addr} {cd : Value} {A : Around} {outer : List Env} {s s1 : Shared} {H : Hp} {E : XK} {us : List Value} {vs : List V}
    (S : FnScope N ps scope) (e0 : Env0 P w K mg base A outer s H) (hl : vs.length = ps.length) (r : Vals vs us)
    (x : InCallC s s.heap.objs.size (bindL (envOfC qual scope s.heap.objs.size f cd).kindOf (ps.zip us) fun _ => none) (cellsFrom (s.heap.objs.size + 1) scope.names []) (bindC (envOfC qual scope s.heap.objs.size f cd).kindOf (ps.zip us) fun _ => none) s1) :
    Inv (cxN CX P w K mg base N qual scope f cd A outer s H E) [] (L2.start N vs) H s1 := by
  have hpl : ps.length ≤ N.length := by have := congrArg List.length S.pre; rw [List.length_take] at this; omega
  obtain ⟨h1, tk, rfl, hk⟩ := x.done
  have noA : ∀ b : Addr, b ∉ (cxN CX P w K mg base N qual scope f cd A outer s H E).ex := fun b z => absurd (show b ∈ ([] : List Addr) from z) (by simp)
  refine ⟨⟨e0.mod, S.kind, rfl, rfl, Nat.le_refl _, fun y z c h1 h2 => ?_, fun y hy => ?_, fun y c _ h => ?_, (fun z => Bool.noConfusion (show false = true from z)), Around.frames_deeper e0.frames, .inr ⟨rfl, rfl⟩, fun b z => absurd z (noA b), e0.bs, e0.bsz, fun b _ _ => noA b, fun b z => absurd z (noA b), e0.funs, e0.frf⟩,
    rfl, e0.bare, Un.kept hk, ⟨_, x.toInCall.ns, fun i y v h1 h2 h3 => ?_⟩, fun y c h => ⟨_, x.cell y c h⟩, e0.hok.fresh (Nat.le_refl _), fun y c h => ?_, fun q hq => absurd (show q ∈ ([] : List (Addr × Obj)) ++ [] from hq) (by simp), e0.hok.kept hk, ?_⟩
  · exact name_of_addr x.apart (PySem.mem_of_lookup h1) (PySem.mem_of_lookup h2)
  · have hy : scope.names.lookup y = some .cell ∨ scope.names.lookup y = some .free := hy
    rcases hy with hy | hy
    · exact cell_has hy
    · exact absurd rfl (S.nofree _ (PySem.mem_of_lookup hy))
  · exact Nat.le_of_lt (x.above y c (PySem.mem_of_lookup h))
  · have hi : i < vs.length := by
      unfold L2.start at h2
      by_cases hi : i < vs.length
      · exact hi
      · rw [List.getElem?_append_right (by simpa using hi)] at h2
        rw [List.getElem?_replicate] at h2
        split at h2 <;> cases h2
    have ha : vs[i]? = some v := by
      unfold L2.start at h2
      rw [List.getElem?_append_left (by simpa using hi), List.getElem?_map] at h2
      cases e : vs[i]? with
      | none => rw [e] at h2; cases h2
      | some a => rw [e] at h2; cases h2; rfl
    obtain ⟨u, hu, rv⟩ := r.get ha
    have hp : ps[i]? = some y := by
      rw [← S.pre, List.getElem?_take_of_lt (by omega)]; exact h1
    have ndP : ps.Nodup := by rw [← S.pre]; exact S.nd.sublist (List.take_sublist _ _)
    refine ⟨u, rv, ?_⟩
    rcases S.par y (List.mem_of_getElem? hp) with k | k
    · exact .inl ⟨k, bindL_get ndP hp hu k⟩
    · obtain ⟨c, e⟩ := cell_has (n := s.heap.objs.size + 1) k
      refine .inr ⟨.inl k, c, e, ?_⟩
      have q := x.cell y c e
      rw [bindC_get ndP hp hu (by show scope.names.lookup y ≠ _; rw [k]; decide)] at q
      exact q
  · exact e0.hok.fresh (Nat.le_of_lt (x.above y c (PySem.mem_of_lookup h)))
  · unfold L2.start
    show _ = N.length
    rw [List.length_append, List.length_map, List.length_replicate]
    omega
theorem fn_ofN {CX : CXT} {P : Program} {w : World} {K : Frg} {mg : Str → Option Value} {base : Heap} {k : Nat} {f : Addr} {name qual : Str} {params : Arguments} {body : List Stmt} {scope : Scope} {dV kV doc pm cdv ct oc : Value} {an od : Option Addr}
    {osl : Array (Option Value)} {N ps : List Str} {sp : Sp} (lk : K.lookup f = some ⟨oc, od, .func (PySem.W.fnOf name qual params body scope dV kV doc pm an cdv ct), osl⟩) (hcd : PySem.W.codeIn K cdv qual = true) (S : FnScope N ps scope)
    (len : ∀ vs H Q E, sp vs H Q E → vs.length = ps.length)
    (hbody : ∀ (A : Around) (outer : List Env) (s : Shared) (H : Hp) (vs : List V) (Q : VK) (E : XK), L2H.RoomH k (A.deeper (envOfC qual scope s.heap.objs.size f cdv)) → sp vs H Q E →
      ∃ t, PSs (cxN CX P w K mg base N qual scope f cdv A outer s H E) body t ∧ t { nx := fun _ H' => Q .non H', rt := Q } (L2.start N vs) H) :
    FnN P w K mg base CX (k + 1) f (PySem.W.fnOf name qual params body scope dV kV doc pm an cdv ct) ps sp := by
  refine ⟨len, fun A outer s H args us vs Q E hr e0 hb r hsp => ?_⟩
  have hl := len _ _ _ _ hsp
  have KX : K.In s.heap := e0.mod.kin.keeps fun b o e => (e0.bs b o e).1
  have lim : s.heap.NoLimit := e0.mod.nolimit.keeps fun b o e => (e0.bs b o e).1
  have hkind : ∀ y ∈ ps.zip us, scope.names.lookup y.1 = some .local ∨ (scope.names.lookup y.1 = some .cell ∧ ((cellsFrom (s.heap.objs.size + 1) scope.names []).lookup y.1).isSome = true) := fun ⟨n, v⟩ hy => by
    rcases S.par n (List.of_mem_zip hy).1 with q | q
    · exact .inl q
    · exact .inr ⟨q, PySem.W.cellsFrom_some _ _ _ (.inl q)⟩
  refine codeAny_call_function hr.depth (KX _ _ lk) rfl S.co S.gen rfl (PySem.W.codeRec_of KX hcd) (hb _ _ _ _ ?_)
  refine wpAny_newFunctionEnv_cells S.kind hkind fun env he s1 x => ?_
  subst he
  refine ⟨lim.keeps x.toInCall.keep, codeAny_func ?_⟩
  obtain ⟨t, ht, hq⟩ := hbody A outer s H vs Q E (hr.deeper _) hsp
  have I : Inv (cxN CX P w K mg base N qual scope f cdv A outer s H E) [] (L2.start N vs) H s1 := inv_startN S e0 hl r x
  refine wpAny_mono (ht.run [] s1 (L2.start N vs) H _ I hq) (fun fl s' hs => ?_) fun e s' hs => hs
  have fin : ∀ {σ' : L2.St} {H' : Hp} {v : V} {u : Value}, Inv (cxN CX P w K mg base N qual scope f cdv A outer s H E) [] σ' H' s' → RelV v u → Q v H' → CE outer P w H s Q u s' :=
    fun {σ' H' v u} J rv q => ⟨v, H', J.os, J.bare, J.base, J.hok, rv, q⟩
  cases fl with
  | ret u =>
    obtain ⟨v, σ', H', J, rv, q⟩ := hs
    exact fin J rv q
  | next =>
    obtain ⟨σ', H', J, q⟩ := hs
    exact fin (v := V.non) (u := Value.none) J rfl q
  | brk =>
    obtain ⟨_, _, _, q⟩ := hs
    exact False.elim q
  | cont =>
    obtain ⟨_, _, _, q⟩ := hs
    exact False.elim q
structure DefOkN (P : Program) (w : World) (K : Frg) (mg : Str → Option Value) (base : Heap) (k : Nat) (x : Str) (n : Nat) (F : FN) : Prop where
  ex : ∃ f fd ps, mg x = some (.ref f) ∧ PySem.W.keepIn K (.ref f) = true ∧ Binds K fd ps [] ∧ FnN P w K mg base (L2.CX P w) k f fd ps (SpD K n F)
theorem fn_byN {P : Program} {w : World} {K : Frg} {mg : Str → Option Value} {base : Heap} {x qual : Str} {params : Arguments} {body : List Stmt} {scope : Scope} {dvs : List V} {kws : List (Str × V)} {f : Addr} {fd : FuncData} {N ps : List Str} {k : Nat} {b : DS} {F : FN} (G : FunD K x qual params body scope dvs kws f fd) (S : FnScope N ps scope)
    (hb : ∀ (cdv : Value) (A : Around) (outer : List Env) (s : Shared) (H : Hp) (E : XK), L2H.RoomH k (A.deeper (envOfC qual scope s.heap.objs.size f cdv)) → Takes (cxN (L2.CX P w) P w K mg base N qual scope f cdv A outer s H E) (fun cls d _ H => E cls d H) →
      DBx (cxN (L2.CX P w) P w K mg base N qual scope f cdv A outer s H E) (fun cls d _ H => E cls d H) body b)
    (hF : ∀ ds M, ds.length = ps.length → F ds M ≠ .no → F ds M = runB N.length b ds M) : FnN P w K mg base (L2.CX P w) (k + 1) f fd ps (SpD K ps.length F) := by
  obtain ⟨oc, od, dV, kV, doc, pm, an, cdv, ct, osl, rfl, lk, hcd, _, _⟩ := G.ex
  refine fn_ofN lk hcd S (fun vs H Q E h => ?_) (fun A outer s H vs Q E hr h => ?_)
  · obtain ⟨φ, M, ds, e, _, r, _⟩ := h
    rw [r.len, e]
  · obtain ⟨φ, M, ds, e, St, r, h⟩ := h
    obtain ⟨t, p, sim⟩ := hb cdv A outer s H E hr (takes_of rfl rfl rfl rfl)
    refine ⟨t, p, sim φ M H _ (ds.map some ++ List.replicate (N.length - ds.length) none) _ St (EnvR.start N r) ?_⟩
    have ne : F ds M ≠ .no := fun z => by rw [z] at h; exact h
    rw [hF ds M e ne] at h
    unfold runB at h
    cases q : b (ds.map some ++ List.replicate (N.length - ds.length) none) M with
    | nx r1 M1 => rw [q] at h; exact fun σ' φ' H' g S' er' => h _ φ' H' g S' rep_non
    | rt d M1 => rw [q] at h; exact h
    | ex x r1 M1 => rw [q] at h; exact fun c dd σ' φ' H' g S' _ x => h c dd φ' H' g S' x
    | bk r1 M1 => rw [q] at h; exact h.elim
    | ct r1 M1 => rw [q] at h; exact h.elim
    | no => rw [q] at h; exact h.elim
theorem de_callN {X : Cx} {W : WX} {p pos : Pos} {e : Expr} {es : List Expr} {x : Str} {k n : Nat} {F : FN} {dr : DA} (G : DefOkN X.prog X.w X.K X.mg X.base k x n F) (hr : L2H.RoomH k X.A) (tk : Takes X W) (hg : Gl X x) (ha : DAx X W (e :: es) dr)
    (hdb : (x == ("__debug__" : Str)) = false := by decide) (he : starEach (e :: es) X.env = (false, eval e X.env) :: starEach es X.env := by rfl) (hpl : (backTo pos (starEach es X.env)).any (·.1) = false := by rfl) :
    DEx X W (.Call (.Name x p) (e :: es) [] pos) (dCall n F dr) := by
  obtain ⟨f, fd, ps, hm, hk, hb, hF⟩ := G.ex
  obtain ⟨_, p1, s1⟩ := ha
  refine ⟨tCallS (SpD X.K n F) (WE W) _, ⟨fun pins s σ H Q I h => ?_⟩, sim_call s1⟩
  refine wpAny_Call_Name_kw (ld_glob I hg hm ?_ hdb)
  refine PySem.W.callWith_K (h₀ := X.base) I.ok.mod.kin hk (thn (p1.run pos pins s σ H _ I h) fun us s1 ⟨vs, H1, I1, r, q⟩ => ⟨I1.kIn, ?_⟩) he hpl
  have hl : us.length = ps.length := by rw [← r.length]; exact hF.len _ _ _ _ q
  have b := hb s1 us I1.kIn (by rw [List.append_nil]; exact hl)
  rw [List.append_nil] at b
  refine wpAny_call (codeAny_mono (hF.run X.A X.stack s1 H1 ⟨us, []⟩ us vs Q (WE W σ) hr I1.env0 b r q) fun r s' hq => ?_)
  cases r with
  | error e => exact passAt tk σ pins H1 s1 e s' I1 hq
  | ok fl =>
    cases fl with
    | ret u => exact I1.after hq
    | next => exact False.elim hq
    | brk => exact False.elim hq
    | cont => exact False.elim hq
end LF
set_option Elab.async false
set_option linter.all false
set_option maxRecDepth 100000
set_option maxHeartbeats 4000000
/-! LF11: isinstance of own classes: errors, instances, plain things. -/
namespace LF
open PySem PySem.Spec PyProof.Rows L2
/-- a thing's class: built-in, an own error's, an own instance's -/
inductive CT where
  | b (T : String) | x (c : Str) | i (c : Str)
def ctOf (M : Mem) : D → Option CT
  | .exc c _ _ => some (.x c)
  | .ins c _ _ => some (.i c)
  | .obj n => (match M[n]? with
    | some (.ins c _) => some (.i c)
    | some (.lst _) => some (.b "list")
    | some (.ro _) => some (.b "list")
    | some (.dic _) => some (.b "dict")
    | _ => none)
  | d => (tagOf M d).map .b
def ctV (K : Frg) : CT → Value
  | .b T => .type T
  | .x c => .ref (He.ga K c)
  | .i c => .ref (He.ga K c)
/-- what the head must say of an instance's class -/
structure InsC (K : Frg) (C : Addr) : Prop where
  cl : Cls K C
  ha : PySem.W.findIn K (.ref C) "__class__" = some (some (.builtin "object.__class__"))
  hn : PySem.W.specialIn K (.builtin "object.__class__") "__get__" = some (some (.builtin "getset_descriptor.__get__"))
  ht : PySem.W.takesIn K (.builtin "object.__class__") = some true
  hm : PySem.W.mroIn K C (.type "object") = some true
def CtOk (K : Frg) : CT → Prop
  | .b _ => True
  | .x c => ExcC K (He.ga K c)
  | .i c => InsC K (He.ga K c)
theorem hasDict_cls {K : Frg} {C : Addr} (h : PySem.W.hasDictIn K C = true) : (PySem.W.clsIn K C).isSome = true := by
  obtain ⟨cd, hc, _⟩ := PySem.W.any_some h
  rw [hc]; rfl
theorem kit_ofD {X : Cx} {pins : List (Addr × Obj)} {σ : L2.St} {H : Hp} {s : Shared} {φ : Wd} {M : Mem} {d : D} {v : V} {u : Value} {ct : CT} (I : Inv X pins σ H s) (S : Sto X.K φ M H) (r : Rep X.K φ H d v) (rx : RelV v u) (h : ctOf M d = some ct) (ok : CtOk X.K ct) :
    ∃ P : Heap → Prop, PySem.W.KitX X.K u (ctV X.K ct) P ∧ P s.heap ∧ u ≠ .builtin "__main__.__loader__#opaque" := by
  have byTag : ∀ t, tagOf M d = some t → ct = .b t → ∃ P : Heap → Prop, PySem.W.KitX X.K u (ctV X.K ct) P ∧ P s.heap ∧ u ≠ .builtin "__main__.__loader__#opaque" := fun t e q => by
    subst q
    exact kit_of I rx (tag_ty S r e)
  cases d with
  | exc c ns ds =>
    cases h
    unfold Rep at r
    obtain ⟨a, dd, rfl, _, h1, fv, h2, _, _⟩ := r
    cases (show u = Value.ref a from rx)
    obtain ⟨⟨o, vs, g1, g2, g3, g4⟩, _, _⟩ := (show ObjOk X.prog X.w H s.heap a (.ext (IsX a (He.ga X.K c) dd)) from I.hok a _ h1)
    have C : ExcC X.K (He.ga X.K c) := ok
    have od : ∃ od, PySem.W.InstAt s.heap a o (He.ga X.K c) od := by
      have no : PySem.W.notCls o = true := by unfold PySem.W.notCls; rw [g4]
      rcases h2 with ⟨e, _⟩ | ⟨d, e, _, e2⟩
      · exact ⟨none, g1, g2, no, by rw [g3, e]; exact True.intro⟩
      · obtain ⟨mA, ⟨od, es, ep, e3, _⟩, _⟩ := (show ObjOk X.prog X.w H s.heap d (.xd fv) from I.hok d _ e2)
        exact ⟨some od, g1, g2, no, by rw [g3, e]; exact e3⟩
    obtain ⟨od, J⟩ := od
    exact ⟨_, PySem.W.kitx_exc (hasDict_cls C.hd) C.hg C.hk C.hs C.ha C.hn C.ht C.hm, J, fun z => nomatch z⟩
  | ins c ns ds =>
    cases h
    unfold Rep at r
    obtain ⟨a, dx, fv, rfl, _, h1, _, _⟩ := r
    have C : InsC X.K (He.ga X.K c) := ok
    exact kit_of I rx (.base (.ins h1 C.cl C.ha C.hn C.ht C.hm))
  | obj n =>
    have h : (match M[n]? with
      | some (.ins c _) => some (.i c)
      | some (.lst _) => some (.b "list")
      | some (.ro _) => some (.b "list")
      | some (.dic _) => some (.b "dict")
      | _ => none) = some ct := h
    cases q : M[n]? with
    | none => rw [q] at h; cases h
    | some mo =>
      rw [q] at h
      cases mo with
      | ins c fs =>
        cases h
        unfold Rep at r
        obtain ⟨a, h1, rfl⟩ := r
        obtain ⟨dx, fv, h2, _⟩ := S.ob n a _ h1 q
        have C : InsC X.K (He.ga X.K c) := ok
        exact kit_of I rx (.base (.ins h2 C.cl C.ha C.hn C.ht C.hm))
      | lst ds => cases h; exact byTag "list" (by simp only [tagOf, q]) rfl
      | ro ds => cases h; exact byTag "list" (by simp only [tagOf, q]) rfl
      | dic kvs => cases h; exact byTag "dict" (by simp only [tagOf, q]) rfl
      | fz kvs => cases h
  | non => cases h; exact byTag _ rfl rfl
  | bl b => cases h; exact byTag _ rfl rfl
  | int i => cases h; exact byTag _ rfl rfl
  | str x => cases h; exact byTag _ rfl rfl
  | tup ds => cases h; exact byTag _ rfl rfl
  | lst ds => cases h; exact byTag _ rfl rfl
  | dic ks ds => cases h; exact byTag _ rfl rfl
/-- isinstance(x, c), isinstance(x, (c1, ..)) -/
def rIs1 (K : Frg) (cv : Value) : List V → Hp → VK → Prop := fun xs H Q => ∃ φ M d v c ct b, xs = [v, c] ∧ Sto K φ M H ∧ Rep K φ H d v ∧ ctOf M d = some ct ∧ CtOk K ct ∧ ClsV c cv ∧ PySem.W.kitOne K (ctV K ct) cv = some b ∧ Q (.bl b) H
def rIsT (K : Frg) (us : List Value) : List V → Hp → VK → Prop := fun xs H Q => ∃ φ M d v tp cs ct b, xs = [v, .ref tp] ∧ H tp = some (.tup cs) ∧ Paired ClsV cs us ∧ Sto K φ M H ∧ Rep K φ H d v ∧ ctOf M d = some ct ∧ CtOk K ct ∧ PySem.W.kitAny K (ctV K ct) us = some b ∧ Q (.bl b) H
section
variable {X : Cx}
theorem call_is1 {cv : Value} : CallR X (.builtin "isinstance") (rIs1 X.K cv) := by
  intro pins s σ H xs us Q I r h
  obtain ⟨φ, M, d, v, c, ct, b, rfl, S, rd, hc, ok, k, e, q⟩ := h
  obtain ⟨u1, u2, rfl, r1, r2⟩ := vals2 r
  have e2 := k.eq r2
  subst e2
  obtain ⟨P, Z, p, hx⟩ := kit_ofD I S rd r1 hc ok
  exact PySem.W.kia_one Z I.kIn p e hx fun tk => ⟨.bl b, H, I.tok tk, rfl, q⟩
theorem call_isT {ws : List Value} : CallR X (.builtin "isinstance") (rIsT X.K ws) := by
  intro pins s σ H xs us Q I r h
  obtain ⟨φ, M, d, v, tp, cs, ct, b, rfl, hT, k, S, rd, hc, ok, e, q⟩ := h
  obtain ⟨u1, u2, rfl, r1, r2⟩ := vals2 r
  cases (show u2 = Value.ref tp from r2)
  obtain ⟨P, Z, p, hx⟩ := kit_ofD I S rd r1 hc ok
  obtain ⟨_, its, rv, o, h1, h2, n, h3⟩ := (show ObjOk X.prog X.w H s.heap tp (.tup cs) from I.hok tp _ hT)
  have e3 := ClsV.all k rv
  subst e3
  obtain ⟨oc, od, dt, sl⟩ := o
  simp only at h2 h3
  subst h2 h3
  exact PySem.W.kia_tup Z I.kIn p h1 e hx fun tk => ⟨.bl b, H, I.tok tk, rfl, q⟩
end
def dIs (isa : CT → Option Bool) (da : DE) : DE := fun r M => (da r M).bind fun x M1 => match (ctOf M1 x).bind isa with
  | some b => .ok (.bl b) M1
  | none => .no
theorem dIs_inv {K : Frg} {φ : Wd} {H : Hp} {Q : VK} {W : XK} {x : D} {M : Mem} {isa : CT → Option Bool} (h : Okd K φ H (RE K) (match (ctOf M x).bind isa with
  | some b => .ok (.bl b) M
  | none => .no) Q W) : ∃ ct b, ctOf M x = some ct ∧ isa ct = some b ∧ Okd K φ H (RE K) (.ok (.bl b) M) Q W := by
  cases q : ctOf M x with
  | none => rw [q] at h; exact h.elim
  | some ct =>
    rw [q, Option.bind_some] at h
    cases q2 : isa ct with
    | none => rw [q2] at h; exact h.elim
    | some b => rw [q2] at h; exact ⟨ct, b, rfl, q2, h⟩
section
variable {X : Cx} {W : WX} {pos : Pos}
/-- one own class -/
theorem de_is1 {x : Str} {isa : CT → Option Bool} {e : Expr} {da : DE} {fp np : Pos} (hisa : ∀ ct b, isa ct = some b → CtOk X.K ct ∧ PySem.W.kitOne X.K (ctV X.K ct) (.ref (He.ga X.K x)) = some b) (hg : Gl X "isinstance") (hm : X.mg "isinstance" = none) (hgx : Gl X x) (hmx : X.mg x = some (.ref (He.ga X.K x))) (he : DEx X W e da)
    (hd : (x == ("__debug__" : Str)) = false := by decide) (hs : starEach [e, .Name x np] X.env = (false, eval e X.env) :: starEach [.Name x np] X.env := by rfl) (hs2 : starEach [.Name x np] X.env = (false, eval (.Name x np) X.env) :: starEach [] X.env := by rfl) (hpl : (backTo pos (starEach [.Name x np] X.env)).any (·.1) = false := by rfl) :
    DEx X W (.Call (.Name "isinstance" fp) [e, .Name x np] [] pos) (dIs isa da) := by
  obtain ⟨_, p1, s1⟩ := he
  refine ⟨_, pe_callB (call_is1 (cv := .ref (He.ga X.K x))) hg hm (by decide +kernel) (pa_cons p1 (pa_cons (pe_glob (v := .ref (He.ga X.K x)) hgx hmx rfl hd) pa_nil hs2) hs) (by decide) (by decide) hs hpl, fun φ M H σ r Q S E h => ?_⟩
  refine s1 φ M H σ r _ S E (Okd.bind h fun d M1 v φ1 H1 _ g1 S1 rv h1 => ?_)
  obtain ⟨ct, b, hc, hi, h1⟩ := dIs_inv h1
  obtain ⟨ok, kt⟩ := hisa ct b hi
  exact ⟨φ1, M1, d, v, _, ct, b, rfl, S1, rv, hc, ok, .own _, kt, okB S1 h1⟩
/-- one built-in class -/
theorem de_is1T {T : String} {x : Str} {isa : CT → Option Bool} {e : Expr} {da : DE} {fp np : Pos} (hisa : ∀ ct b, isa ct = some b → CtOk X.K ct ∧ PySem.W.kitOne X.K (ctV X.K ct) (.type T) = some b) (hg : Gl X "isinstance") (hm : X.mg "isinstance" = none) (hgx : Gl X x) (hmx : X.mg x = none) (hx : bootBuiltins x = some (.type T)) (he : DEx X W e da)
    (hn : x ≠ "__name__" := by decide) (hd : (x == ("__debug__" : Str)) = false := by decide) (hs : starEach [e, .Name x np] X.env = (false, eval e X.env) :: starEach [.Name x np] X.env := by rfl) (hs2 : starEach [.Name x np] X.env = (false, eval (.Name x np) X.env) :: starEach [] X.env := by rfl) (hpl : (backTo pos (starEach [.Name x np] X.env)).any (·.1) = false := by rfl) :
    DEx X W (.Call (.Name "isinstance" fp) [e, .Name x np] [] pos) (dIs isa da) := by
  obtain ⟨_, p1, s1⟩ := he
  refine ⟨_, pe_callB (call_is1 (cv := .type T)) hg hm (by decide +kernel) (pa_cons p1 (pa_cons (pe_bltn (v := .ty T) hgx hmx hx rfl hn hd) pa_nil hs2) hs) (by decide) (by decide) hs hpl, fun φ M H σ r Q S E h => ?_⟩
  refine s1 φ M H σ r _ S E (Okd.bind h fun d M1 v φ1 H1 _ g1 S1 rv h1 => ?_)
  obtain ⟨ct, b, hc, hi, h1⟩ := dIs_inv h1
  obtain ⟨ok, kt⟩ := hisa ct b hi
  exact ⟨φ1, M1, d, v, _, ct, b, rfl, S1, rv, hc, ok, .ty _, kt, okB S1 h1⟩
/-- a row of own classes -/
def PCs (X : Cx) (es : List Expr) (xs : List Str) : Prop := ∃ t, PA X es t ∧ ∀ σ H Q, Q (xs.map fun x => V.ref (He.ga X.K x)) H → t σ H Q
theorem pcs_nil : PCs X [] [] := ⟨_, pa_nil, fun _ _ _ h => h⟩
theorem pcs_cons {x : Str} {np : Pos} {es : List Expr} {xs : List Str} (hgx : Gl X x) (hmx : X.mg x = some (.ref (He.ga X.K x))) (hr : PCs X es xs) (hd : (x == ("__debug__" : Str)) = false := by decide) (hs : starEach (.Name x np :: es) X.env = (false, eval (.Name x np) X.env) :: starEach es X.env := by rfl) : PCs X (.Name x np :: es) (x :: xs) := by
  obtain ⟨t, p, s⟩ := hr
  exact ⟨_, pa_cons (pe_glob (v := .ref (He.ga X.K x)) hgx hmx rfl hd) p hs, fun σ H Q h => s σ H _ h⟩
theorem paired_own {K : Frg} : ∀ xs : List Str, Paired ClsV (xs.map fun x => V.ref (He.ga K x)) (xs.map fun x => Value.ref (He.ga K x))
  | [] => .nil
  | x :: xs => .cons (.own _) (paired_own xs)
theorem de_isT {xs : List Str} {cs : List Expr} {k : Nat} {isa : CT → Option Bool} {e : Expr} {da : DE} {fp tp : Pos} (hisa : ∀ ct b, isa ct = some b → CtOk X.K ct ∧ PySem.W.kitAny X.K (ctV X.K ct) (xs.map fun x => .ref (He.ga X.K x)) = some b) (hg : Gl X "isinstance") (hm : X.mg "isinstance" = none) (hcs : PCs X cs xs) (he : DEx X W e da)
    (hl : xs.length ≤ 100 := by decide) (hs : starEach [e, .Tuple cs k tp] X.env = (false, eval e X.env) :: starEach [.Tuple cs k tp] X.env := by rfl) (hs2 : starEach [.Tuple cs k tp] X.env = (false, eval (.Tuple cs k tp) X.env) :: starEach [] X.env := by rfl) (hpl : (backTo pos (starEach [.Tuple cs k tp] X.env)).any (·.1) = false := by rfl) :
    DEx X W (.Call (.Name "isinstance" fp) [e, .Tuple cs k tp] [] pos) (dIs isa da) := by
  obtain ⟨_, p1, s1⟩ := he
  obtain ⟨t, p2, s2⟩ := hcs
  refine ⟨_, pe_callB (call_isT (ws := xs.map fun x => .ref (He.ga X.K x))) hg hm (by decide +kernel) (pa_cons p1 (pa_cons (pe_tup p2) pa_nil hs2) hs) (by decide) (by decide) hs hpl, fun φ M H σ r Q S E h => ?_⟩
  refine s1 φ M H σ r _ S E (Okd.bind h fun d M1 v φ1 H1 _ g1 S1 rv h1 => ?_)
  refine s2 σ H1 _ ⟨by rw [List.length_map]; exact Nat.le_trans hl (by rw [sizeLine_eq]; decide), fun p hp => ?_⟩
  obtain ⟨ct, b, hc, hi, h1⟩ := dIs_inv h1
  obtain ⟨ok, kt⟩ := hisa ct b hi
  have gp : Grow φ1 H1 φ1 (upd H1 p (.tup (xs.map fun x => V.ref (He.ga X.K x)))) := Grow.new hp
  exact ⟨φ1, M1, d, v, p, _, ct, b, rfl, upd_same, paired_own xs, S1.new hp, Rep.grow gp _ _ rv, hc, ok, kt, h1 _ _ _ gp (S1.new hp) rep_bl⟩
end
/-! ### from a table -/
theorem kitAny_of {K : Frg} {t : Value} {f : Str → Bool} : ∀ {ts : List Str}, (∀ x ∈ ts, PySem.W.kitOne K t (.ref (He.ga K x)) = some (f x)) → PySem.W.kitAny K t (ts.map fun x => .ref (He.ga K x)) = some (ts.any f)
  | [], _ => rfl
  | x :: ts, h => by
    have ih := kitAny_of (K := K) (t := t) (f := f) (ts := ts) fun y hy => h y (List.mem_cons_of_mem _ hy)
    rw [List.map_cons, List.any_cons]
    refine kitAny_cons (h x List.mem_cons_self) (fun e => ?_) (fun e => ?_)
    · rw [ih, e]; rfl
    · rw [e]; rfl
/-- errors' classes that are raised: each with its own ancestors; U: the classes asked for by isinstance, V: by except -/
abbrev XTab := List (Str × List Str)
structure XFacts (K : Frg) (T : XTab) (U V : List Str) : Prop where
  ok : ∀ p ∈ T, ExcC K (He.ga K p.1)
  one : ∀ p ∈ T, ∀ t ∈ U, PySem.W.kitOne K (.ref (He.ga K p.1)) (.ref (He.ga K t)) = some (p.2.contains t)
  val : ∀ p ∈ T, PySem.W.kitOne K (.ref (He.ga K p.1)) (.type "ValueError") = some true
  exm : ∀ p ∈ T, ∀ t ∈ V, PySem.W.exmOne K (.ref (He.ga K p.1)) (.ref (He.ga K t)) = some (p.2.contains t)
def ancOf (T : XTab) (c : Str) : Option (List Str) := (T.find? fun p => p.1 == c).map (·.2)
theorem ancOf_mem {T : XTab} {c : Str} {l : List Str} (h : ancOf T c = some l) : (c, l) ∈ T := by
  unfold ancOf at h
  cases q : T.find? fun p => p.1 == c with
  | none => rw [q] at h; cases h
  | some p =>
    rw [q] at h
    have e := List.find?_some q
    have m := List.mem_of_find?_eq_some q
    obtain ⟨a, b⟩ := p
    cases h
    have e : a = c := beq_iff_eq.mp e
    rw [← e]; exact m
def isX (T : XTab) (ts : List Str) : CT → Option Bool
  | .x c => (ancOf T c).map fun l => ts.any fun t => l.contains t
  | _ => none
def isXv (T : XTab) : CT → Option Bool
  | .x c => (ancOf T c).map fun _ => true
  | _ => none
def exX (T : XTab) (t : Str) (c : Str) : Option Bool := (ancOf T c).map fun l => l.contains t
def inTab (U ts : List Str) : Bool := ts.all fun t => U.contains t
theorem inTab_mem {U ts : List Str} (h : inTab U ts = true) {t : Str} (ht : t ∈ ts) : t ∈ U := by
  have q := List.all_eq_true.mp h t ht
  simpa using q
section
variable {K : Frg} {T : XTab} {U V : List Str}
theorem XFacts.isT (F : XFacts K T U V) {ts : List Str} (ht : inTab U ts = true) : ∀ ct b, isX T ts ct = some b → CtOk K ct ∧ PySem.W.kitAny K (ctV K ct) (ts.map fun x => .ref (He.ga K x)) = some b := by
  intro ct b h
  cases ct with
  | x c =>
    have h : (ancOf T c).map (fun l => ts.any fun t => l.contains t) = some b := h
    cases q : ancOf T c with
    | none => rw [q] at h; cases h
    | some l =>
      rw [q] at h
      cases h
      exact ⟨F.ok _ (ancOf_mem q), kitAny_of fun x hx => F.one _ (ancOf_mem q) _ (inTab_mem ht hx)⟩
  | _ => cases h
theorem XFacts.is1 (F : XFacts K T U V) {t : Str} (ht : inTab U [t] = true) : ∀ ct b, isX T [t] ct = some b → CtOk K ct ∧ PySem.W.kitOne K (ctV K ct) (.ref (He.ga K t)) = some b := by
  intro ct b h
  cases ct with
  | x c =>
    have h : (ancOf T c).map (fun l => [t].any fun t => l.contains t) = some b := h
    cases q : ancOf T c with
    | none => rw [q] at h; cases h
    | some l =>
      rw [q] at h
      cases h
      refine ⟨F.ok _ (ancOf_mem q), ?_⟩
      have z := F.one _ (ancOf_mem q) _ (inTab_mem ht (List.mem_singleton.mpr rfl))
      refine (show PySem.W.kitOne K (.ref (He.ga K c)) (.ref (He.ga K t)) = _ from ?_)
      simpa using z
  | _ => cases h
theorem XFacts.isV (F : XFacts K T U V) : ∀ ct b, isXv T ct = some b → CtOk K ct ∧ PySem.W.kitOne K (ctV K ct) (.type "ValueError") = some b := by
  intro ct b h
  cases ct with
  | x c =>
    have h : (ancOf T c).map (fun _ => true) = some b := h
    cases q : ancOf T c with
    | none => rw [q] at h; cases h
    | some l =>
      rw [q] at h
      cases h
      exact ⟨F.ok _ (ancOf_mem q), F.val _ (ancOf_mem q)⟩
  | _ => cases h
theorem XFacts.ex (F : XFacts K T U V) {t : Str} (ht : inTab V [t] = true) : ∀ c b, exX T t c = some b → PySem.W.exmOne K (.ref (He.ga K c)) (.ref (He.ga K t)) = some b := by
  intro c b h
  unfold exX at h
  cases q : ancOf T c with
  | none => rw [q] at h; cases h
  | some l =>
    rw [q] at h
    cases h
    exact F.exm _ (ancOf_mem q) _ (inTab_mem ht (List.mem_singleton.mpr rfl))
end
end LF
set_option Elab.async false
set_option linter.all false
set_option maxRecDepth 100000
set_option maxHeartbeats 4000000
/-! LF12: calls without arguments; the Hook with the errors' table; defs by their bodies. -/
namespace LF
open PySem PySem.Spec PyProof.Rows L2
section
variable {X : Cx} {W : WX} {p pos : Pos} {x : Str}
theorem de_call0 {k : Nat} {F : FN} (G : DefOk X.prog X.w X.K X.mg X.base k x 0 F) (hr : Room k X.A) (tk : Takes X W) (hg : Gl X x) (hdb : (x == ("__debug__" : Str)) = false := by decide) : DEx X W (.Call (.Name x p) [] [] pos) (dCall 0 F dNil) := by
  obtain ⟨f, fd, ps, hm, kp, hb, hF⟩ := G.ex
  refine ⟨tCallS (SpD X.K 0 F) (WE W) tNil, ⟨fun pins s σ H Q I h => ?_⟩, sim_call (fun φ M H σ r Q S E h => h.here S RepL.nil)⟩
  refine wpAny_Call_Name_kw (ld_glob I hg hm ?_ hdb)
  exact PySem.W.callWith_K0 I.kIn kp (run_fnS (us := []) hF hr hb (passAt tk σ) I .nil h)
end
theorem takes_f {X : Cx} : Takes X Wf := fun _ _ ⟨_, _, _, _, _, _, _, _, _, _, _, _, _, _, _, _, w⟩ => w.elim
def blkB (N : List Str) (sc scope : Scope) (own : List (Str × Nat)) : Bool := decide (scope.kind = .function) && (scope.names.all (fun y => decide (scope.names.lookup y.1 = some y.2)) && (own.all (fun p => decide (N[p.2]? = some p.1)) &&
  (scope.names.all (fun y => decide (y.2 ≠ .free) || (decide (sc.names.lookup y.1 = some .cell) || decide (sc.names.lookup y.1 = some .free))) && scope.names.all (fun y => (decide (y.2 ≠ .local) && decide (y.2 ≠ .cell)) || ((own.map (·.1)).contains y.1 || !N.contains y.1)))))
theorem blk_of {N : List Str} {sc scope : Scope} {own : List (Str × Nat)} (h : blkB N sc scope own = true) : BlkOk N sc scope own := by
  obtain ⟨h1, h⟩ := He.ba h
  obtain ⟨h2, h⟩ := He.ba h
  obtain ⟨h3, h⟩ := He.ba h
  obtain ⟨h4, h5⟩ := He.ba h
  refine ⟨of_decide_eq_true h1, fun y hy => of_decide_eq_true (List.all_eq_true.mp h2 y hy), fun p hp => of_decide_eq_true (List.all_eq_true.mp h3 p hp), fun y hy e => ?_, fun y hy e => ?_⟩
  · have q := List.all_eq_true.mp h4 y hy
    rw [e] at q
    simpa using q
  · have q := List.all_eq_true.mp h5 y hy
    have z : (decide (y.2 ≠ .local) && decide (y.2 ≠ .cell)) = false := by
      rcases e with e | e <;> rw [e] <;> rfl
    rw [z] at q
    simpa using q
theorem room1 {k : Nat} {A : Around} (r : Room k A) : A.units + 1 < cLine := by have := r.un; omega
theorem room1H {k : Nat} {A : Around} (r : L2H.RoomH k A) : A.units + 1 < cLine := by have := r.un; omega
theorem roomS {k j : Nat} {A A' : Around} (r : Room k A) (h : j ≤ k) (hd : A'.depth = A.depth := by rfl) (hu : A'.units = A.units := by rfl) : L2H.RoomH j A' := ⟨by have := r.dp; rw [hd]; omega, by have := r.un; rw [hu]; omega⟩
/-! ### the Hook -/
def excCb (K : Frg) (D : Addr) : Bool := He.eqO (PySem.W.findIn K (.ref D) "__getattribute__") (some (some (.builtin "BaseException.__getattribute__"))) && (He.eqO (PySem.W.findIn K (.ref D) "__getattr__") (some none) &&
  (decide (PySem.W.subIn K (.ref D) (.type "BaseException") = some true) && (PySem.W.hasDictIn K D && (He.eqO (PySem.W.findIn K (.ref D) "__class__") (some (some (.builtin "object.__class__"))) &&
  (He.eqO (PySem.W.specialIn K (.builtin "object.__class__") "__get__") (some (some (.builtin "getset_descriptor.__get__"))) && (decide (PySem.W.takesIn K (.builtin "object.__class__") = some true) && decide (PySem.W.mroIn K D (.type "object") = some true)))))))
theorem excCb_ok {K : Frg} {D : Addr} (h : excCb K D = true) : ExcC K D := by
  obtain ⟨h1, h⟩ := He.ba h
  obtain ⟨h2, h⟩ := He.ba h
  obtain ⟨h3, h⟩ := He.ba h
  obtain ⟨h4, h⟩ := He.ba h
  obtain ⟨h5, h⟩ := He.ba h
  obtain ⟨h6, h⟩ := He.ba h
  obtain ⟨h7, h8⟩ := He.ba h
  exact ⟨He.eqO_ok h1, He.eqO_ok h2, of_decide_eq_true h3, h4, He.eqO_ok h5, He.eqO_ok h6, of_decide_eq_true h7, of_decide_eq_true h8⟩
def xfB (T : XTab) (U V : List Str) (K : Frg) : Bool := T.all fun p => excCb K (He.ga K p.1) && ((U.all fun t => decide (PySem.W.kitOne K (.ref (He.ga K p.1)) (.ref (He.ga K t)) = some (p.2.contains t))) &&
  (decide (PySem.W.kitOne K (.ref (He.ga K p.1)) (.type "ValueError") = some true) && (V.all fun t => decide (PySem.W.exmOne K (.ref (He.ga K p.1)) (.ref (He.ga K t)) = some (p.2.contains t)))))
theorem xfB_ok {T : XTab} {U V : List Str} {K : Frg} (h : xfB T U V K = true) : XFacts K T U V := by
  have h := List.all_eq_true.mp h
  refine ⟨fun p hp => ?_, fun p hp t ht => ?_, fun p hp => ?_, fun p hp t ht => ?_⟩
  · exact excCb_ok (He.ba (h p hp)).1
  · exact of_decide_eq_true (List.all_eq_true.mp (He.ba (He.ba (h p hp)).2).1 t ht)
  · exact of_decide_eq_true (He.ba (He.ba (He.ba (h p hp)).2).2).1
  · exact of_decide_eq_true (List.all_eq_true.mp (He.ba (He.ba (He.ba (h p hp)).2).2).2 t ht)
abbrev AlX : Type := Bool × He.AlD
def obsX (xb : Frg → Bool) (fa : List He.Fa) (fn : List He.DefD) (K : Frg) : AlX := (xb K, He.obsD fa fn K)
def valX (fn : List He.DefD) : AlX := (true, He.valD fn)
def SaysX (xb : Frg → Bool) (fa : List He.Fa) (fn : List He.DefD) (K : Frg) : Prop := xb K = true ∧ He.SaysD fa fn K
def obsXG (n : Nat) (xb : Frg → Bool) (fa : List He.Fa) (fn : List He.DefD) (g : Addr → Option Obj) : AlX := obsX xb fa fn (He.frG g (cStatics :: He.asD g n))
def hookX (n : Nat) (xb : Frg → Bool) (fa : List He.Fa) (fn : List He.DefD) : PySem.W.Hook where
  α := AlX
  obs := fun s => obsXG n xb fa fn s.heap.get?
  val := fun _ => valX fn
  says := fun _ h => ∃ K : PySem.W.Frag, K.In h ∧ SaysX xb fa fn K
  of := fun _ _ e => ⟨_, He.frG_in, congrArg (fun z : AlX => z.1) e, congrArg (fun z : AlX => z.2) e⟩
  keeps := fun _ _ _ ⟨K, hK, c⟩ k => ⟨K, PySem.W.Frag.In.keeps hK k, c⟩
theorem obsXG_eq {n : Nat} {xb : Frg → Bool} {fa : List He.Fa} {fn : List He.DefD} {g : Addr → Option Obj} {s : Shared} (h : ∀ a, g a = s.heap.get? a) : obsXG n xb fa fn g = (hookX n xb fa fn).obs s := by
  have e : g = s.heap.get? := funext h
  rw [e] <;> rfl
theorem excOk {K : Frg} {h : Heap} {mg : Str → Option Value} {x : Str} (X : K.In h) (G : h.Ns mainGlobals mg) (c1 : (He.Fa.glo x).ok K = true) (c2 : (He.Fa.exc x).ok K = true) : ExcOk K mg x := by
  obtain ⟨e, k, b, t⟩ := He.exc_ok c2
  exact ⟨He.glo_ok X G c1, e, k, b, t⟩
/-! ### a def by its body -/
section
variable {P : Program} {w : World} {K : Frg} {mg : Str → Option Value} {base : Heap} {x qual : Str} {params : Arguments} {body : List Stmt} {scope : Scope} {kws : List (Str × V)} {f : Addr} {fd : FuncData} {N ps : List Str} {k n : Nat} {b : DS}
theorem def_by (hm : mg x = some (.ref f)) (G : FunD K x qual params body scope [] kws f fd) (S : FnScope N ps scope) (hn : ps.length = n)
    (hp : ∀ (kV doc pm : Value) (an : Option Addr) (cdv ct : Value) (us : List Value), us.length = ps.length → bindArgs (PySem.W.fnOf x qual params body scope .none kV doc pm an cdv ct) ⟨us, []⟩ = pure (ps.zip us))
    (hb : ∀ (cdv : Value) (A : Around) (outer : List Env) (s : Shared) (H : Hp) (E : XK), Room k (A.deeper (envOfC qual scope s.heap.objs.size f cdv)) → Takes (cxOf (L2.CX P w) P w K mg base N qual scope f cdv A outer s H E) (fun cls d _ H => E cls d H) →
      PassesOwn (model P w) (A.deeper (envOfC qual scope s.heap.objs.size f cdv)) (envOfC qual scope s.heap.objs.size f cdv) (cxOf (L2.CX P w) P w K mg base N qual scope f cdv A outer s H E).xe →
      DBx (cxOf (L2.CX P w) P w K mg base N qual scope f cdv A outer s H E) (fun cls d _ H => E cls d H) body b) : DefOk P w K mg base (k + 1) x n (runB N.length b) := by
  subst hn
  exact ⟨f, fd, ps, hm, G.kp, FunD.bindsN G hp, fn_by G S hb fun _ _ _ _ => rfl⟩
theorem def_byN (hm : mg x = some (.ref f)) (G : FunD K x qual params body scope [] kws f fd) (S : FnScope N ps scope) (hn : ps.length = n)
    (hp : ∀ (kV doc pm : Value) (an : Option Addr) (cdv ct : Value) (us : List Value), us.length = ps.length → bindArgs (PySem.W.fnOf x qual params body scope .none kV doc pm an cdv ct) ⟨us, []⟩ = pure (ps.zip us))
    (hb : ∀ (cdv : Value) (A : Around) (outer : List Env) (s : Shared) (H : Hp) (E : XK), L2H.RoomH k (A.deeper (envOfC qual scope s.heap.objs.size f cdv)) → Takes (cxN (L2.CX P w) P w K mg base N qual scope f cdv A outer s H E) (fun cls d _ H => E cls d H) →
      DBx (cxN (L2.CX P w) P w K mg base N qual scope f cdv A outer s H E) (fun cls d _ H => E cls d H) body b) : DefOkN P w K mg base (k + 1) x n (runB N.length b) := by
  subst hn
  exact ⟨f, fd, ps, hm, G.kp, FunD.bindsN G hp, fn_byN G S hb fun _ _ _ _ => rfl⟩
end
end LF
set_option Elab.async false
set_option linter.all false
set_option maxRecDepth 100000
set_option maxHeartbeats 4000000
/-! LF13: what the combinators come to: rules for simp, each with its way on as a term of its own. -/
namespace LF
open PySem PySem.Spec PyProof.Rows L2
section
variable {α : Type} {r r1 : Env'} {M M1 : Mem} {x y d : D} {e : Exn} {da db dc de : DE} {dr : DA} {f f' : F2} {g : F1} {F : FN} {n i : Nat} {t u : DT} {sa sb : DS} {ds : List D} {b : Bool}
@[simp] theorem dVar_ev : dVar i r M = (match r[i]? with
  | some (some d) => .ok d M
  | _ => .no) := rfl
@[simp] theorem dC_ev : dC d r M = .ok d M := rfl
def binK2 (f : F2) (x : D) (o : Out D) : Out D := o.bind fun y M2 => f x y M2
def binK1 (f : F2) (o : Out D) (db : DE) (r : Env') : Out D := o.bind fun x M1 => binK2 f x (db r M1)
@[simp] theorem dBin_ev : dBin f da db r M = binK1 f (da r M) db r := rfl
@[simp] theorem binK1_ok : binK1 f (.ok x M) db r = binK2 f x (db r M) := rfl
@[simp] theorem binK1_ex : binK1 f (.ex e M) db r = .ex e M := rfl
@[simp] theorem binK1_no : binK1 f .no db r = .no := rfl
@[simp] theorem binK2_ok : binK2 f x (.ok y M) = f x y M := rfl
@[simp] theorem binK2_ex : binK2 f x (.ex e M) = .ex e M := rfl
@[simp] theorem binK2_no : binK2 f x .no = .no := rfl
def unK (g : F1) (o : Out D) : Out D := o.bind g
@[simp] theorem dUn_ev : dUn g da r M = unK g (da r M) := rfl
@[simp] theorem unK_ok : unK g (.ok x M) = g x M := rfl
@[simp] theorem unK_ex : unK g (.ex e M) = .ex e M := rfl
def testK : Out D → Out Bool
  | .ok (.bl b) M => .ok b M
  | .ex e M => .ex e M
  | _ => .no
@[simp] theorem dTest_ev : dTest da r M = testK (da r M) := by
  unfold dTest
  cases da r M with
  | ok a M => cases a <;> rfl
  | _ => rfl
@[simp] theorem testK_ok : testK (.ok (.bl b) M) = .ok b M := rfl
@[simp] theorem testK_ex : testK (.ex e M) = .ex e M := rfl
def chainK3 (f' : F2) (y : D) (o : Out D) (dc : DE) (r : Env') : Out D := o.bind fun z M3 => match z with
  | .bl true => binK2 f' y (dc r M3)
  | .bl false => .ok (.bl false) M3
  | _ => .no
def chainK2 (f f' : F2) (x : D) (o : Out D) (dc : DE) (r : Env') : Out D := o.bind fun y M2 => chainK3 f' y (f x y M2) dc r
def chainK1 (f f' : F2) (o : Out D) (db dc : DE) (r : Env') : Out D := o.bind fun x M1 => chainK2 f f' x (db r M1) dc r
@[simp] theorem dChain_ev : dChain f f' da db dc r M = chainK1 f f' (da r M) db dc r := rfl
@[simp] theorem chainK1_ok : chainK1 f f' (.ok x M) db dc r = chainK2 f f' x (db r M) dc r := rfl
@[simp] theorem chainK1_ex : chainK1 f f' (.ex e M) db dc r = .ex e M := rfl
@[simp] theorem chainK2_ok : chainK2 f f' x (.ok y M) dc r = chainK3 f' y (f x y M) dc r := rfl
@[simp] theorem chainK2_ex : chainK2 f f' x (.ex e M) dc r = .ex e M := rfl
@[simp] theorem chainK3_b : chainK3 f' y (.ok (.bl b) M) dc r = (bif b then binK2 f' y (dc r M) else .ok (.bl false) M) := by cases b <;> rfl
/-! ### tests -/
def andK (o : Out Bool) (u : DT) (r : Env') : Out Bool := o.bind fun b M1 => match b with
  | true => u r M1
  | false => .ok false M1
def orK (o : Out Bool) (u : DT) (r : Env') : Out Bool := o.bind fun b M1 => match b with
  | true => .ok true M1
  | false => u r M1
def notK (o : Out Bool) : Out Bool := o.bind fun b M1 => .ok (!b) M1
@[simp] theorem dAnd_ev : dAnd t u r M = andK (t r M) u r := rfl
@[simp] theorem dOr_ev : dOr t u r M = orK (t r M) u r := rfl
@[simp] theorem dNot_ev : dNot t r M = notK (t r M) := rfl
@[simp] theorem andK_t : andK (.ok true M) u r = u r M := rfl
@[simp] theorem andK_f : andK (.ok false M) u r = .ok false M := rfl
@[simp] theorem andK_ex : andK (.ex e M) u r = .ex e M := rfl
@[simp] theorem orK_t : orK (.ok true M) u r = .ok true M := rfl
@[simp] theorem orK_f : orK (.ok false M) u r = u r M := rfl
@[simp] theorem orK_ex : orK (.ex e M) u r = .ex e M := rfl
@[simp] theorem notK_ok : notK (.ok b M) = .ok (!b) M := rfl
@[simp] theorem notK_ex : notK (.ex e M) = .ex e M := rfl
def andVK (o : Out D) (db : DE) (r : Env') : Out D := o.bind fun x M1 => match x with
  | .bl true => db r M1
  | .bl false => .ok (.bl false) M1
  | _ => .no
def orVK (o : Out D) (db : DE) (r : Env') : Out D := o.bind fun x M1 => match x with
  | .bl true => .ok (.bl true) M1
  | .bl false => db r M1
  | _ => .no
def notVK (o : Out D) : Out D := o.bind fun x M1 => match x with
  | .bl b => .ok (.bl (!b)) M1
  | _ => .no
@[simp] theorem dAndV_ev : dAndV da db r M = andVK (da r M) db r := rfl
@[simp] theorem dOrV_ev : dOrV da db r M = orVK (da r M) db r := rfl
@[simp] theorem dNotV_ev : dNotV da r M = notVK (da r M) := rfl
@[simp] theorem andVK_ok : andVK (.ok (.bl b) M) db r = (bif b then db r M else .ok (.bl false) M) := by cases b <;> rfl
@[simp] theorem andVK_ex : andVK (.ex e M) db r = .ex e M := rfl
@[simp] theorem orVK_ok : orVK (.ok (.bl b) M) db r = (bif b then .ok (.bl true) M else db r M) := by cases b <;> rfl
@[simp] theorem orVK_ex : orVK (.ex e M) db r = .ex e M := rfl
@[simp] theorem notVK_ok : notVK (.ok (.bl b) M) = .ok (.bl (!b)) M := rfl
@[simp] theorem notVK_ex : notVK (.ex e M) = .ex e M := rfl
def ifEK (o : Out Bool) (da db : DE) (r : Env') : Out D := o.bind fun b M1 => match b with
  | true => da r M1
  | false => db r M1
@[simp] theorem dIfE_ev : dIfE t da db r M = ifEK (t r M) da db r := rfl
@[simp] theorem ifEK_t : ifEK (.ok true M) da db r = da r M := rfl
@[simp] theorem ifEK_f : ifEK (.ok false M) da db r = db r M := rfl
@[simp] theorem ifEK_ex : ifEK (.ex e M) da db r = .ex e M := rfl
/-! ### rows, displays, calls -/
def consK2 (x : D) (o : Out (List D)) : Out (List D) := o.bind fun xs M2 => .ok (x :: xs) M2
def consK1 (o : Out D) (dr : DA) (r : Env') : Out (List D) := o.bind fun x M1 => consK2 x (dr r M1)
@[simp] theorem dNil_ev : dNil r M = .ok [] M := rfl
@[simp] theorem dCons_ev : dCons da dr r M = consK1 (da r M) dr r := rfl
@[simp] theorem consK1_ok : consK1 (.ok x M) dr r = consK2 x (dr r M) := rfl
@[simp] theorem consK1_ex : consK1 (.ex e M) dr r = .ex e M := rfl
@[simp] theorem consK2_ok : consK2 x (.ok ds M) = .ok (x :: ds) M := rfl
@[simp] theorem consK2_ex : consK2 x (.ex e M) = .ex e M := rfl
def tupK (o : Out (List D)) : Out D := o.bind fun ds M1 => match lineB ds.length with
  | true => .ok (.tup ds) M1
  | false => .no
def lstK (o : Out (List D)) : Out D := o.bind fun ds M1 => match lineB ds.length with
  | true => .ok (.lst ds) M1
  | false => .no
def lstAK (o : Out (List D)) : Out D := o.bind fun ds M1 => match lineB ds.length with
  | true => .ok (.obj M1.length) (M1 ++ [.lst ds])
  | false => .no
@[simp] theorem dTup_ev : dTup dr r M = tupK (dr r M) := rfl
@[simp] theorem dLst_ev : dLst dr r M = lstK (dr r M) := rfl
@[simp] theorem dLstA_ev : dLstA dr r M = lstAK (dr r M) := rfl
theorem lineB_of {n : Nat} (h : n ≤ 100000) : lineB n = true := Nat.ble_eq_true_of_le h
@[simp] theorem tupK_ok (h : ds.length ≤ 100000) : tupK (.ok ds M) = .ok (.tup ds) M := by
  unfold tupK
  dsimp only [Out.bind]
  rw [lineB_of h]
@[simp] theorem tupK_ex : tupK (.ex e M) = .ex e M := rfl
@[simp] theorem lstK_ok (h : ds.length ≤ 100000) : lstK (.ok ds M) = .ok (.lst ds) M := by
  unfold lstK
  dsimp only [Out.bind]
  rw [lineB_of h]
@[simp] theorem lstK_ex : lstK (.ex e M) = .ex e M := rfl
@[simp] theorem lstAK_ok (h : ds.length ≤ 100000) : lstAK (.ok ds M) = .ok (.obj M.length) (M ++ [.lst ds]) := by
  unfold lstAK
  dsimp only [Out.bind]
  rw [lineB_of h]
@[simp] theorem lstAK_ex : lstAK (.ex e M) = .ex e M := rfl
def cbK (F : FN) (o : Out (List D)) : Out D := o.bind F
@[simp] theorem dCB_ev : dCB F dr r M = cbK F (dr r M) := rfl
@[simp] theorem cbK_ok : cbK F (.ok ds M) = F ds M := rfl
@[simp] theorem cbK_ex : cbK F (.ex e M) = .ex e M := rfl
def callK (n : Nat) (F : FN) (o : Out (List D)) : Out D := o.bind fun ds M1 => match Nat.beq ds.length n with
  | true => F ds M1
  | false => .no
@[simp] theorem dCall_ev : dCall n F dr r M = callK n F (dr r M) := rfl
@[simp] theorem callK_ok (h : ds.length = n) : callK n F (.ok ds M) = F ds M := by
  subst h
  unfold callK
  dsimp only [Out.bind]
  rw [Nat.beq_refl]
@[simp] theorem callK_ex : callK n F (.ex e M) = .ex e M := rfl
/-! ### statements -/
@[simp] theorem dNext_ev : dNext r M = .nx r M := rfl
def seqK (o : SO) (sb : DS) : SO := match o with
  | .nx r1 M1 => sb r1 M1
  | o => o
@[simp] theorem dSeq_ev : dSeq sa sb r M = seqK (sa r M) sb := rfl
@[simp] theorem seqK_nx : seqK (.nx r M) sb = sb r M := rfl
@[simp] theorem seqK_rt : seqK (.rt d M) sb = .rt d M := rfl
@[simp] theorem seqK_bk : seqK (.bk r M) sb = .bk r M := rfl
@[simp] theorem seqK_ct : seqK (.ct r M) sb = .ct r M := rfl
@[simp] theorem seqK_ex : seqK (.ex e r M) sb = .ex e r M := rfl
@[simp] theorem dBrk_ev : dBrk r M = .bk r M := rfl
@[simp] theorem dCnt_ev : dCnt r M = .ct r M := rfl
@[simp] theorem dRaise_ev {c : Str} : dRaise c r M = .ex ⟨c, [], []⟩ r M := rfl
@[simp] theorem dRetN_ev : dRetN r M = .rt .non M := rfl
def exprK (o : Out D) (r : Env') : SO := o.bindS r fun _ M1 => .nx r M1
@[simp] theorem dExpr_ev : dExpr de r M = exprK (de r M) r := rfl
@[simp] theorem exprK_ok : exprK (.ok x M) r = .nx r M := rfl
@[simp] theorem exprK_ex : exprK (.ex e M) r = .ex e r M := rfl
def retK (o : Out D) (r : Env') : SO := o.bindS r fun d M1 => .rt d M1
@[simp] theorem dRet_ev : dRet de r M = retK (de r M) r := rfl
@[simp] theorem retK_ok : retK (.ok x M) r = .rt x M := rfl
@[simp] theorem retK_ex : retK (.ex e M) r = .ex e r M := rfl
def ifK (o : Out Bool) (sa sb : DS) (r : Env') : SO := o.bindS r fun k M1 => match k with
  | true => sa r M1
  | false => sb r M1
@[simp] theorem dIf_ev : dIf t sa sb r M = ifK (t r M) sa sb r := rfl
@[simp] theorem ifK_t : ifK (.ok true M) sa sb r = sa r M := rfl
@[simp] theorem ifK_f : ifK (.ok false M) sa sb r = sb r M := rfl
@[simp] theorem ifK_ex : ifK (.ex e M) sa sb r = .ex e r M := rfl
def asgK2 (o : Out Env') : SO := match o with
  | .ok r1 M2 => .nx r1 M2
  | _ => .no
def asgK (o : Out D) (g : DG) (r : Env') : SO := o.bindS r fun d M1 => asgK2 (g d r M1)
@[simp] theorem dAsg_ev {g : DG} : dAsg de g r M = asgK (de r M) g r := rfl
@[simp] theorem asgK_ok {g : DG} : asgK (.ok x M) g r = asgK2 (g x r M) := rfl
@[simp] theorem asgK_ex {g : DG} : asgK (.ex e M) g r = .ex e r M := rfl
@[simp] theorem asgK2_ok : asgK2 (.ok r M) = .nx r M := rfl
@[simp] theorem gSlot_ev : gSlot i d r M = .ok (r.set i (some d)) M := rfl
@[simp] theorem gsNil_ev : gsNil [] r M = .ok r M := rfl
def gsK (o : Out Env') (gs : List D → Env' → Mem → Out Env') (ds : List D) : Out Env' := match o with
  | .ok r1 M1 => gs ds r1 M1
  | _ => .no
@[simp] theorem gsCons_ev {g : DG} {gs : List D → Env' → Mem → Out Env'} : gsCons g gs (d :: ds) r M = gsK (g d r M) gs ds := rfl
@[simp] theorem gsK_ok {gs : List D → Env' → Mem → Out Env'} : gsK (.ok r M) gs ds = gs ds r M := rfl
@[simp] theorem gTupD_ev {gs : List D → Env' → Mem → Out Env'} (h : ds.length = n) : gTupD n gs (.tup ds) r M = gs ds r M := by
  subst h
  unfold gTupD
  dsimp only [Out.bind]
  rw [Nat.beq_refl]
/-! ### loops -/
def forK (o : Out Src) (dg : DG) (body : DS) (r : Env') : SO := o.bindS r fun src M1 => forL src.chk dg body src.items r M1
@[simp] theorem dFor_ev {di : DI} {dg : DG} : dFor di dg sb r M = forK (di r M) dg sb r := rfl
@[simp] theorem forK_ok {src : Src} {dg : DG} : forK (.ok src M) dg sb r = forL src.chk dg sb src.items r M := rfl
@[simp] theorem forK_ex {dg : DG} : forK (.ex e M) dg sb r = .ex e r M := rfl
def forK2 (o : SO) (chk : Mem → Bool) (dg : DG) (body : DS) (ds : List D) : SO := match o with
  | .nx r2 M2 => forL chk dg body ds r2 M2
  | .ct r2 M2 => forL chk dg body ds r2 M2
  | .bk r2 M2 => .nx r2 M2
  | o => o
def forK1 (o : Out Env') (chk : Mem → Bool) (dg : DG) (body : DS) (ds : List D) : SO := match o with
  | .ok r1 M1 => forK2 (body r1 M1) chk dg body ds
  | _ => .no
section
variable {chk : Mem → Bool} {dg : DG}
theorem forL_nil (h : chk M = true) : forL chk dg sb [] r M = .nx r M := by unfold forL; rw [h]
theorem forL_cons (h : chk M = true) : forL chk dg sb (d :: ds) r M = forK1 (dg d r M) chk dg sb ds := by
  rw [forL, h]
  dsimp only
  unfold forK1
  cases dg d r M with
  | ok r1 M1 => dsimp only; unfold forK2; cases sb r1 M1 <;> rfl
  | _ => rfl
@[simp] theorem anyM_ev : anyM M = true := rfl
@[simp] theorem forL_nilA : forL anyM dg sb [] r M = .nx r M := forL_nil rfl
@[simp] theorem forL_consA : forL anyM dg sb (d :: ds) r M = forK1 (dg d r M) anyM dg sb ds := forL_cons rfl
@[simp] theorem forK1_ok : forK1 (.ok r M) chk dg sb ds = forK2 (sb r M) chk dg sb ds := rfl
@[simp] theorem forK2_nx : forK2 (.nx r M) chk dg sb ds = forL chk dg sb ds r M := rfl
@[simp] theorem forK2_ct : forK2 (.ct r M) chk dg sb ds = forL chk dg sb ds r M := rfl
@[simp] theorem forK2_bk : forK2 (.bk r M) chk dg sb ds = .nx r M := rfl
@[simp] theorem forK2_rt : forK2 (.rt d M) chk dg sb ds = .rt d M := rfl
@[simp] theorem forK2_ex : forK2 (.ex e r M) chk dg sb ds = .ex e r M := rfl
/-- a loop that is never left early -/
theorem forL_inv (I : Nat → Env' → Mem → Prop) : ∀ (ds : List D) (k : Nat) (r : Env') (M : Mem), (∀ i d r M, ds[i]? = some d → I (k + i) r M → chk M = true ∧ ∃ r1 M1, dg d r M = .ok r1 M1 ∧ ∃ r2 M2, (sb r1 M1 = .nx r2 M2 ∨ sb r1 M1 = .ct r2 M2) ∧ I (k + i + 1) r2 M2) →
    (∀ r M, I (k + ds.length) r M → chk M = true) → I k r M → ∃ r' M', forL chk dg sb ds r M = .nx r' M' ∧ I (k + ds.length) r' M'
  | [], k, r, M, _, hc, h => ⟨r, M, forL_nil (hc r M h), h⟩
  | d :: ds, k, r, M, st, hc, h => by
    obtain ⟨c, r1, M1, e1, r2, M2, e2, h2⟩ := st 0 d r M rfl h
    obtain ⟨r3, M3, e3, h3⟩ := forL_inv I ds (k + 1) r2 M2 (fun i d r M e hi => by
      have z := st (i + 1) d r M (by simpa using e) (by rw [show k + (i + 1) = k + 1 + i by omega]; exact hi)
      rw [show k + (i + 1) + 1 = k + 1 + i + 1 by omega] at z
      exact z) (fun r M hi => hc r M (by rw [show k + (d :: ds).length = k + 1 + ds.length by simp; omega]; exact hi)) h2
    refine ⟨r3, M3, ?_, by rw [show k + (d :: ds).length = k + 1 + ds.length by simp; omega]; exact h3⟩
    rw [forL_cons c, e1, forK1_ok]
    rcases e2 with e2 | e2 <;> rw [e2]
    · exact e3
    · exact e3
end
/-! ### comprehensions -/
def compK2 (o : Out (List D)) : Out D := o.bind fun ys M2 => .ok (.lst ys) M2
def compK (o : Out Src) (dg : DG) (t : DT) (de : DE) (vs : List Nat) (r : Env') : Out D := o.bind fun src M1 => compK2 (compL src.chk dg t de (wipeD r vs) src.items [] M1)
@[simp] theorem dComp_ev {di : DI} {dg : DG} {vs : List Nat} : dComp di dg t de vs r M = compK (di r M) dg t de vs r := rfl
@[simp] theorem compK_ok {src : Src} {dg : DG} {vs : List Nat} : compK (.ok src M) dg t de vs r = compK2 (compL src.chk dg t de (wipeD r vs) src.items [] M) := rfl
@[simp] theorem compK2_ok : compK2 (.ok ds M) = .ok (.lst ds) M := rfl
@[simp] theorem dYes_ev : dYes r M = .ok true M := rfl
@[simp] theorem wipe_nil : wipeD r [] = r := rfl
@[simp] theorem wipe_cons {v : Nat} {vs : List Nat} : wipeD r (v :: vs) = (wipeD r vs).set v none := rfl
theorem compL_map {g : D → D} {p : D → Bool} : ∀ (ds acc : List D), (∀ d ∈ ds, t (r.set i (some d)) M = .ok (p d) M ∧ (p d = true → de (r.set i (some d)) M = .ok (g d) M)) → acc.length + ds.length ≤ 100000 → compL anyM (gSlot i) t de r ds acc M = .ok (acc ++ (ds.filter p).map g) M
  | [], acc, _, _ => by simp [compL]
  | d :: ds, acc, h, hl => by
    simp only [List.length_cons] at hl
    obtain ⟨h1, h2⟩ := h d List.mem_cons_self
    have ih := fun acc => compL_map (g := g) (p := p) ds acc fun x hx => h x (List.mem_cons_of_mem _ hx)
    unfold compL
    simp only [anyM_ev, gSlot_ev, h1]
    cases q : p d with
    | false =>
      dsimp only
      rw [ih acc (by omega), List.filter_cons_of_neg (by simp [q])]
    | true =>
      dsimp only
      rw [h2 q, lineB_of (by omega : acc.length ≤ 100000)]
      dsimp only
      rw [ih _ (by simp; omega), List.filter_cons_of_pos q]
      simp
def cmpK3 (o : Out D) (chk : Mem → Bool) (dg : DG) (t : DT) (de : DE) (r0 : Env') (ds acc : List D) : Out (List D) := match o with
  | .ok y M3 => (match lineB acc.length with
    | true => compL chk dg t de r0 ds (acc ++ [y]) M3
    | false => .no)
  | _ => .no
def cmpK2 (o : Out Bool) (r1 : Env') (chk : Mem → Bool) (dg : DG) (t : DT) (de : DE) (r0 : Env') (ds acc : List D) : Out (List D) := match o with
  | .ok true M2 => cmpK3 (de r1 M2) chk dg t de r0 ds acc
  | .ok false M2 => compL chk dg t de r0 ds acc M2
  | _ => .no
def cmpK1 (o : Out Env') (chk : Mem → Bool) (dg : DG) (t : DT) (de : DE) (r0 : Env') (ds acc : List D) : Out (List D) := match o with
  | .ok r1 M1 => cmpK2 (t r1 M1) r1 chk dg t de r0 ds acc
  | _ => .no
section
variable {chk : Mem → Bool} {dg : DG} {acc : List D} {r0 : Env'}
theorem compL_cons (h : chk M = true) : compL chk dg t de r0 (d :: ds) acc M = cmpK1 (dg d r0 M) chk dg t de r0 ds acc := by
  rw [compL, h]
  dsimp only
  unfold cmpK1
  cases dg d r0 M with
  | ok r1 M1 =>
    dsimp only
    unfold cmpK2
    cases t r1 M1 with
    | ok b M2 =>
      cases b with
      | true => dsimp only; unfold cmpK3; cases de r1 M2 <;> rfl
      | false => rfl
    | _ => rfl
  | _ => rfl
@[simp] theorem compL_nilA : compL anyM dg t de r0 [] acc M = .ok acc M := rfl
@[simp] theorem compL_consA : compL anyM dg t de r0 (d :: ds) acc M = cmpK1 (dg d r0 M) anyM dg t de r0 ds acc := compL_cons rfl
@[simp] theorem cmpK1_ok : cmpK1 (.ok r M) chk dg t de r0 ds acc = cmpK2 (t r M) r chk dg t de r0 ds acc := rfl
@[simp] theorem cmpK2_t : cmpK2 (.ok true M) r chk dg t de r0 ds acc = cmpK3 (de r M) chk dg t de r0 ds acc := rfl
@[simp] theorem cmpK2_f : cmpK2 (.ok false M) r chk dg t de r0 ds acc = compL chk dg t de r0 ds acc M := rfl
@[simp] theorem cmpK3_ok (h : acc.length ≤ 100000) : cmpK3 (.ok x M) chk dg t de r0 ds acc = compL chk dg t de r0 ds (acc ++ [x]) M := by
  unfold cmpK3
  dsimp only
  rw [lineB_of h]
end
/-! ### sources -/
def itR1K (o : Out D) : Out Src := o.bind fun d M1 => match d with
  | .int j => (match small62 j with
    | true => .ok ⟨irng 0 j.toNat, anyM⟩ M1
    | false => .no)
  | _ => .no
def itRR1K (o : Out D) : Out Src := o.bind fun d M1 => match d with
  | .int j => (match small62 j with
    | true => .ok ⟨(irng 0 j.toNat).reverse, anyM⟩ M1
    | false => .no)
  | _ => .no
def itSK (o : Out D) : Out Src := o.bind fun d M1 => match d with
  | .str s => .ok ⟨signs s, anyM⟩ M1
  | _ => .no
theorem small62_of {j : Int} (h0 : -4611686018427387904 ≤ j) (h1 : j < 4611686018427387904) : small62 j = true := by
  unfold small62
  simp only [Bool.and_eq_true, decide_eq_true_eq]
  exact ⟨by simpa using h0, by simpa using h1⟩
@[simp] theorem dItR1_ev : dItR1 da r M = itR1K (da r M) := rfl
@[simp] theorem itR1K_ok {j : Int} (h0 : -4611686018427387904 ≤ j) (h1 : j < 4611686018427387904) : itR1K (.ok (.int j) M) = .ok ⟨irng 0 j.toNat, anyM⟩ M := by
  unfold itR1K
  dsimp only [Out.bind]
  rw [small62_of h0 h1]
@[simp] theorem itR1K_ex : itR1K (.ex e M) = .ex e M := rfl
@[simp] theorem dItRR1_ev : dItRR1 da r M = itRR1K (da r M) := rfl
@[simp] theorem itRR1K_ok {j : Int} (h0 : -4611686018427387904 ≤ j) (h1 : j < 4611686018427387904) : itRR1K (.ok (.int j) M) = .ok ⟨(irng 0 j.toNat).reverse, anyM⟩ M := by
  unfold itRR1K
  dsimp only [Out.bind]
  rw [small62_of h0 h1]
@[simp] theorem dItS_ev : dItS da r M = itSK (da r M) := rfl
end
end LF
set_option Elab.async false
set_option linter.all false
set_option maxRecDepth 100000
set_option maxHeartbeats 4000000
/-! LF14: what the primitives come to: rules for simp. -/
namespace LF
open PySem PySem.Spec PyProof.Rows L2
section
variable {r : Env'} {M : Mem} {i j : Int} {s t : Str} {x y d : D} {ds : List D} {b c : Bool} {e : Exn}
@[simp] theorem fAdd_int : fAdd (.int i) (.int j) M = .ok (.int (i + j)) M := rfl
theorem fAdd_str (h : s.length + t.length ≤ 100000) : fAdd (.str s) (.str t) M = .ok (.str (s ++ t)) M := by
  unfold fAdd
  dsimp only
  rw [lineB_of h]
@[simp] theorem fSub_int : fSub (.int i) (.int j) M = .ok (.int (i - j)) M := rfl
@[simp] theorem fLt_int : fLt (.int i) (.int j) M = .ok (.bl (decide (i < j))) M := rfl
@[simp] theorem fLe_int : fLe (.int i) (.int j) M = .ok (.bl (decide (i ≤ j))) M := rfl
@[simp] theorem fGt_int : fGt (.int i) (.int j) M = .ok (.bl (decide (j < i))) M := rfl
@[simp] theorem fGe_int : fGe (.int i) (.int j) M = .ok (.bl (decide (j ≤ i))) M := rfl
@[simp] theorem fBitAnd_int : fBitAnd (.int i) (.int j) M = .ok (.int (Builtin.bitAnd i j)) M := rfl
@[simp] theorem fBitOr_int : fBitOr (.int i) (.int j) M = .ok (.int (Builtin.bitOr i j)) M := rfl
@[simp] theorem fNeg_int : fNeg (.int i) M = .ok (.int (-i)) M := rfl
theorem fI2_p {p : Int → Int → Bool} {g : Int → Int → D} (h : p i j = true) : fI2 p g (.int i) (.int j) M = .ok (g i j) M := by
  unfold fI2
  dsimp only
  rw [h]
@[simp] theorem fFdiv_int (h0 : 0 < j) (h1 : j < 1073741824) : fFdiv (.int i) (.int j) M = .ok (.int (i / j)) M := fI2_p (by simp [h0, h1])
@[simp] theorem fMod_int (h0 : 0 < j) : fMod (.int i) (.int j) M = .ok (.int (i % j)) M := fI2_p (by simp [h0])
@[simp] theorem fShr_int (h0 : 0 ≤ j) : fShr (.int i) (.int j) M = .ok (.int (i / 2 ^ j.toNat)) M := fI2_p (by simp [h0])
theorem small64_of {i : Int} (h0 : -18446744073709551616 < i) (h1 : i < 18446744073709551616) : small64 i = true := by
  unfold small64
  simp only [Bool.and_eq_true, decide_eq_true_eq]
  exact ⟨by simpa using h0, by simpa using h1⟩
theorem fShl_int (h0 : 0 ≤ j) (h1 : j ≤ 1000000) (h2 : -18446744073709551616 < i) (h3 : i < 18446744073709551616) : fShl (.int i) (.int j) M = .ok (.int (i * 2 ^ j.toNat)) M := fI2_p (by simp [h0, h1, small64_of h2 h3])
theorem fMulX_r (h2 : -18446744073709551616 < j) (h3 : j < 18446744073709551616) : fMulX (.int i) (.int j) M = .ok (.int (i * j)) M := by
  unfold fMulX
  dsimp only
  rw [small64_of h2 h3, Bool.or_true]
theorem fMulX_l (h2 : -18446744073709551616 < i) (h3 : i < 18446744073709551616) : fMulX (.int i) (.int j) M = .ok (.int (i * j)) M := by
  unfold fMulX
  dsimp only
  rw [small64_of h2 h3, Bool.true_or]
@[simp] theorem fMulX_str : fMulX (.str s) (.int j) M = if j = 0 then .ok (.str Str.empty) M else if j = 1 then .ok (.str s) M else .no := rfl
/-! ### ==, != -/
@[simp] theorem lay_non {n : Nat} : D.lay n .non = true := by cases n <;> rfl
@[simp] theorem lay_bl {n : Nat} : D.lay n (.bl b) = true := by cases n <;> rfl
@[simp] theorem lay_int {n : Nat} : D.lay n (.int i) = true := by cases n <;> rfl
@[simp] theorem lay_str {n : Nat} : D.lay n (.str s) = PyData.strOk s := by cases n <;> rfl
@[simp] theorem lay_tup {n : Nat} : D.lay (n + 1) (.tup ds) = D.layL n ds := rfl
@[simp] theorem lay_lst {n : Nat} : D.lay (n + 1) (.lst ds) = D.layL n ds := rfl
@[simp] theorem layL_nil {n : Nat} : D.layL n [] = true := by cases n <;> rfl
@[simp] theorem layL_cons {n : Nat} : D.layL n (d :: ds) = (D.lay n d && D.layL n ds) := by cases n <;> rfl
theorem fEq_of (h1 : D.lay 64 x = true) (h2 : D.lay 64 y = true) : fEq x y M = .ok (.bl (D.eqb x y)) M := by
  unfold fEq
  rw [h1, h2]
  rfl
theorem fNe_of (h1 : D.lay 64 x = true) (h2 : D.lay 64 y = true) : fNe x y M = .ok (.bl (!D.eqb x y)) M := by
  unfold fNe
  rw [h1, h2]
  rfl
@[simp] theorem fEq_int : fEq (.int i) (.int j) M = .ok (.bl (decide (i = j))) M := rfl
@[simp] theorem fNe_int : fNe (.int i) (.int j) M = .ok (.bl (!decide (i = j))) M := rfl
theorem fEq_str (h1 : PyData.strOk s = true) (h2 : PyData.strOk t = true) : fEq (.str s) (.str t) M = .ok (.bl (s == t)) M := fEq_of (by simp [h1]) (by simp [h2])
theorem fNe_str (h1 : PyData.strOk s = true) (h2 : PyData.strOk t = true) : fNe (.str s) (.str t) M = .ok (.bl (!(s == t))) M := fNe_of (by simp [h1]) (by simp [h2])
mutual
theorem eqb_refl : ∀ (n : Nat) (d : D), D.lay n d = true → D.eqb d d = true
  | _, .non, _ => rfl
  | _, .bl b, _ => by simp [D.eqb]
  | _, .int i, _ => by simp [D.eqb]
  | _, .str s, _ => by simp [D.eqb]
  | 0, .tup _, h => by simp [D.lay] at h
  | 0, .lst _, h => by simp [D.lay] at h
  | n + 1, .tup ds, h => by
    simp only [D.eqb]
    exact eqbL_refl n ds (by simpa using h)
  | n + 1, .lst ds, h => by
    simp only [D.eqb]
    exact eqbL_refl n ds (by simpa using h)
  | n, .dic _ _, h => by cases n <;> simp [D.lay] at h
  | n, .obj _, h => by cases n <;> simp [D.lay] at h
  | n, .exc _ _ _, h => by cases n <;> simp [D.lay] at h
  | n, .ins _ _ _, h => by cases n <;> simp [D.lay] at h
theorem eqbL_refl : ∀ (n : Nat) (ds : List D), D.layL n ds = true → D.eqbL ds ds = true
  | _, [], _ => rfl
  | n, d :: ds, h => by
    simp only [layL_cons, Bool.and_eq_true] at h
    simp only [D.eqbL, Bool.and_eq_true]
    exact ⟨eqb_refl n d h.1, eqbL_refl n ds h.2⟩
end
/-- the same thing -/
theorem fEq_same (h : D.lay 64 x = true) : fEq x x M = .ok (.bl true) M := by rw [fEq_of h h, eqb_refl 64 x h]
theorem fNe_same (h : D.lay 64 x = true) : fNe x x M = .ok (.bl false) M := by rw [fNe_of h h, eqb_refl 64 x h]; rfl
/-! ### places, lengths -/
theorem fIx_str {k : Nat} (h1 : s.length ≤ 100000) (h2 : atI s.cps.toList i = some k) : fIx (.str s) (.int i) M = .ok (.str ⟨#[k]⟩) M := by
  unfold fIx
  dsimp only
  rw [lineB_of h1, h2]
theorem fIx_lst (h : atI ds i = some d) : fIx (.lst ds) (.int i) M = .ok d M := by
  unfold fIx
  simp only [seqOf]
  rw [h]
  rfl
theorem fIx_tup (h : atI ds i = some d) : fIx (.tup ds) (.int i) M = .ok d M := by
  unfold fIx
  simp only [seqOf]
  rw [h]
  rfl
@[simp] theorem fIx_tup0 : fIx (.tup (d :: ds)) (.int 0) M = .ok d M := fIx_tup (L2.atI_nat (j := 0) rfl)
@[simp] theorem fIx_tup1 : fIx (.tup (x :: d :: ds)) (.int 1) M = .ok d M := fIx_tup (L2.atI_nat (j := 1) rfl)
@[simp] theorem fLen_lst : fLen [.lst ds] M = .ok (.int ds.length) M := rfl
@[simp] theorem fLen_tup : fLen [.tup ds] M = .ok (.int ds.length) M := rfl
theorem fLen_str (h : s.length ≤ 100000) : fLen [.str s] M = .ok (.int s.length) M := by
  unfold fLen
  dsimp only
  rw [lineB_of h]
@[simp] theorem fMax2_int : fMax2 [.int i, .int j] M = .ok (.int (if j > i then j else i)) M := rfl
@[simp] theorem fMin2_int : fMin2 [.int i, .int j] M = .ok (.int (if j < i then j else i)) M := rfl
@[simp] theorem fIntOf_int : fIntOf [.int i] M = .ok (.int i) M := rfl
@[simp] theorem fIntOf_bl : fIntOf [.bl b] M = .ok (.int (if b then 1 else 0)) M := rfl
theorem fInS_one {k : Nat} {neg : Bool} : fInS neg (.str ⟨#[k]⟩) (.str t) M = .ok (.bl (if neg then !decide (k ∈ t.cps.toList) else decide (k ∈ t.cps.toList))) M := rfl
/-! ### methods, isinstance -/
def m1K2 (f : Str → F1) (s : Str) (o : Out D) : Out D := o.bind fun y M2 => f s y M2
def m1K (f : Str → F1) (o : Out D) (db : DE) (r : Env') : Out D := o.bind fun x M1 => match x with
  | .str s => m1K2 f s (db r M1)
  | _ => .no
@[simp] theorem dM1_ev {f : Str → F1} {da db : DE} : dM1 f da db r M = m1K f (da r M) db r := rfl
@[simp] theorem m1K_ok {f : Str → F1} {db : DE} : m1K f (.ok (.str s) M) db r = m1K2 f s (db r M) := rfl
@[simp] theorem m1K2_ok {f : Str → F1} : m1K2 f s (.ok y M) = f s y M := rfl
@[simp] theorem m1K2_ex {f : Str → F1} : m1K2 f s (.ex e M) = .ex e M := rfl
@[simp] theorem mInt_str {g : Str → Str → Int} : mInt g s (.str t) M = .ok (.int (g s t)) M := rfl
theorem mJoin_lst {ss : List Str} (h : strsOf ds = some ss) (hl : (ss.map (·.length)).sum + ss.length * s.length ≤ 100000) : mJoin s (.lst ds) M = .ok (.str (Txt.join s ss)) M := by
  unfold mJoin
  simp only [seqOf, Option.bind_some, h]
  rw [lineB_of hl]
def isBK (p : String → Bool) (o : Out D) : Out D := o.bind fun x M1 => match tagOf M1 x with
  | some t => .ok (.bl (p t)) M1
  | none => .no
@[simp] theorem dIsB_ev {p : String → Bool} {da : DE} : dIsB p da r M = isBK p (da r M) := rfl
@[simp] theorem isBK_non {p : String → Bool} : isBK p (.ok .non M) = .ok (.bl (p "NoneType")) M := rfl
@[simp] theorem isBK_bl {p : String → Bool} : isBK p (.ok (.bl b) M) = .ok (.bl (p "bool")) M := rfl
@[simp] theorem isBK_int {p : String → Bool} : isBK p (.ok (.int i) M) = .ok (.bl (p "int")) M := rfl
@[simp] theorem isBK_str {p : String → Bool} : isBK p (.ok (.str s) M) = .ok (.bl (p "str")) M := rfl
@[simp] theorem isBK_tup {p : String → Bool} : isBK p (.ok (.tup ds) M) = .ok (.bl (p "tuple")) M := rfl
@[simp] theorem isBK_lst {p : String → Bool} : isBK p (.ok (.lst ds) M) = .ok (.bl (p "list")) M := rfl
@[simp] theorem isBK_dic {p : String → Bool} {ks : List Key} : isBK p (.ok (.dic ks ds) M) = .ok (.bl (p "dict")) M := rfl
def isK (isa : CT → Option Bool) (o : Out D) : Out D := o.bind fun x M1 => match (ctOf M1 x).bind isa with
  | some b => .ok (.bl b) M1
  | none => .no
@[simp] theorem dIs_ev {isa : CT → Option Bool} {da : DE} : dIs isa da r M = isK isa (da r M) := rfl
theorem isK_exc {isa : CT → Option Bool} {c : Str} {ns : List Str} {q : Bool} (h : isa (.x c) = some q) : isK isa (.ok (.exc c ns ds) M) = .ok (.bl q) M := by
  unfold isK
  dsimp only [Out.bind, ctOf, Option.bind]
  rw [h]
/-! ### dicts -/
theorem fDGet_of {n : Nat} {k : Key} {kvs : List (Key × D)} (hk : keyOf y = some k) (hM : M[n]? = some (.dic kvs)) (h : lookD kvs k = some d) : fDGet (.obj n) y M = .ok d M := by
  unfold fDGet
  rw [hk]
  dsimp only
  rw [hM]
  dsimp only
  rw [h]
  rfl
def dputK3 (o v : D) (k : Out D) (r : Env') : SO := k.bindS r fun k M3 => putAt o k v r M3
def dputK2 (v : D) (o : Out D) (dk : DE) (r : Env') : SO := o.bindS r fun o M2 => dputK3 o v (dk r M2) r
def dputK1 (v : Out D) (do_ dk : DE) (r : Env') : SO := v.bindS r fun v M1 => dputK2 v (do_ r M1) dk r
@[simp] theorem dDPut_ev {do_ dk dv : DE} : dDPut do_ dk dv r M = dputK1 (dv r M) do_ dk r := rfl
@[simp] theorem dputK1_ok {do_ dk : DE} : dputK1 (.ok d M) do_ dk r = dputK2 d (do_ r M) dk r := rfl
@[simp] theorem dputK2_ok {dk : DE} : dputK2 d (.ok x M) dk r = dputK3 x d (dk r M) r := rfl
@[simp] theorem dputK3_ok : dputK3 x d (.ok y M) r = putAt x y d r M := rfl
theorem putAt_of {n : Nat} {k : Key} {kvs : List (Key × D)} (hk : keyOf y = some k) (hM : M[n]? = some (.dic kvs)) (hl : kvs.length ≤ 100000) : putAt (.obj n) y d r M = .nx r (M.set n (.dic (putD kvs k d))) := by
  unfold putAt
  rw [hk]
  dsimp only
  rw [hM]
  dsimp only
  rw [lineB_of hl]
@[simp] theorem dNewDic_ev : dNewDic r M = .ok (.obj M.length) (M ++ [.dic []]) := rfl
@[simp] theorem dDisp_ev {ps : List (Key × DE)} : dDisp ps r M = ((dPairs ps r M).bind fun kvs M1 => match Nat.ble kvs.length 15 with
  | true => .ok (.obj M1.length) (M1 ++ [.dic (mergeD [] kvs)])
  | false => .no) := rfl
/-! ### a def, a try -/
def runK : SO → Out D
  | .nx _ M1 => .ok .non M1
  | .rt d M1 => .ok d M1
  | .ex e _ M1 => .ex e M1
  | _ => .no
theorem runB_ev {n : Nat} {b : DS} : runB n b ds M = runK (b (ds.map some ++ List.replicate (n - ds.length) none) M) := by
  unfold runB runK
  cases b (ds.map some ++ List.replicate (n - ds.length) none) M <;> rfl
@[simp] theorem runK_nx : runK (.nx r M) = .ok .non M := rfl
@[simp] theorem runK_rt : runK (.rt d M) = .ok d M := rfl
@[simp] theorem runK_ex : runK (.ex e r M) = .ex e M := rfl
def tryK (isa : Str → Option Bool) (i : Nat) (o : SO) (hand : DS) : SO := match o with
  | .ex e r1 M1 => (match isa e.c with
    | some true => offS i (hand (r1.set i (some (.exc e.c e.ns e.ds))) M1)
    | some false => .ex e r1 M1
    | none => .no)
  | o => o
@[simp] theorem dTryAs_ev {isa : Str → Option Bool} {i : Nat} {body hand : DS} : dTryAs isa i body hand r M = tryK isa i (body r M) hand := rfl
@[simp] theorem tryK_nx {isa : Str → Option Bool} {i : Nat} {hand : DS} : tryK isa i (.nx r M) hand = .nx r M := rfl
@[simp] theorem tryK_rt {isa : Str → Option Bool} {i : Nat} {hand : DS} : tryK isa i (.rt d M) hand = .rt d M := rfl
theorem tryK_yes {isa : Str → Option Bool} {i : Nat} {hand : DS} (h : isa e.c = some true) : tryK isa i (.ex e r M) hand = offS i (hand (r.set i (some (.exc e.c e.ns e.ds))) M) := by
  unfold tryK
  dsimp only
  rw [h]
@[simp] theorem offS_rt {i : Nat} : offS i (.rt d M) = .rt d M := rfl
@[simp] theorem offS_nx {i : Nat} : offS i (.nx r M) = .nx (r.set i none) M := rfl
end
end LF
set_option Elab.async false
set_option linter.all false
set_option maxRecDepth 100000
set_option maxHeartbeats 4000000
/-! LF15: texts as rows of signs. -/
namespace LF
open PySem PySem.Spec PyProof.Rows L2
/-- the text of these signs -/
def tx (l : List Nat) : Str := ⟨l.toArray⟩
theorem tx_tl (l : List Nat) : (tx l).cps.toList = l := rfl
theorem tx_eta (s : Str) : s = tx s.cps.toList := TL.ext_tl rfl
@[simp] theorem tx_len (l : List Nat) : (tx l).length = l.length := TL.len_tl _
@[simp] theorem tx_app (a b : List Nat) : tx a ++ tx b = tx (a ++ b) := TL.ext_tl (TL.tl_append _ _)
theorem tx_inj {a b : List Nat} (h : tx a = tx b) : a = b := by
  have z := congrArg (fun s : Str => s.cps.toList) h
  exact z
theorem tx_beq (a b : List Nat) : (tx a == tx b) = (a == b) := by
  rw [Bool.eq_iff_iff, beq_iff_eq, beq_iff_eq]
  exact ⟨tx_inj, fun h => by rw [h]⟩
theorem tx_empty : (Str.ofString "") = tx [] := rfl
theorem tx_lit (s : String) : Str.ofString s = tx (s.toList.map Char.toNat) := TL.ext_tl (TL.tl_ofString s)
theorem signs_tx (l : List Nat) : signs (tx l) = l.map fun c => .str (tx [c]) := rfl
/-- a sign of Python's -/
def okN (c : Nat) : Bool := decide (c < 1114112)
theorem strOk_tx {l : List Nat} : PyData.strOk (tx l) = l.all fun c => decide (c < 1114112) := by
  unfold PyData.strOk tx
  simp
theorem strs_tx (l : List Nat) : strsOf (l.map fun c => .str (tx [c])) = some (l.map fun c => tx [c]) := by
  induction l with
  | nil => rfl
  | cons c l ih => simp only [List.map_cons, strsOf, ih, Option.map_some]
theorem join_tx (l : List Nat) : Txt.join (tx []) (l.map fun c => tx [c]) = tx l := by
  refine TL.ext_tl ?_
  rw [TL.join_eq, TL.tl_join]
  induction l with
  | nil => rfl
  | cons c l ih =>
    cases l with
    | nil => rfl
    | cons d l =>
      simp only [List.map_cons] at ih ⊢
      rw [TL.joinL, ih]
      rfl
theorem mJoin_tx {l : List Nat} {M : Mem} (h : l.length ≤ 100000) : mJoin (tx []) (.lst (l.map fun c => .str (tx [c]))) M = .ok (.str (tx l)) M := by
  rw [mJoin_lst (strs_tx l) ?_, join_tx]
  have e : ((l.map fun c => tx [c]).map (·.length)) = l.map fun _ => 1 := by
    rw [List.map_map]
    exact List.map_congr_left fun c _ => tx_len [c]
  rw [e, tx_len]
  have e2 : (l.map fun _ => 1).sum = l.length := by
    clear h e
    induction l with
    | nil => rfl
    | cons c l ih => simp only [List.map_cons, List.sum_cons, List.length_cons, ih]; omega
  rw [e2]
  simpa using h
theorem fIx_tx {l : List Nat} {i : Int} {c : Nat} {M : Mem} (h : l.length ≤ 100000) (e : atI l i = some c) : fIx (.str (tx l)) (.int i) M = .ok (.str (tx [c])) M := fIx_str (by simpa using h) e
theorem fLen_tx {l : List Nat} {M : Mem} (h : l.length ≤ 100000) : fLen [.str (tx l)] M = .ok (.int l.length) M := by
  rw [fLen_str (by simpa using h), tx_len]
theorem fAdd_tx {a b : List Nat} {M : Mem} (h : a.length + b.length ≤ 100000) : fAdd (.str (tx a)) (.str (tx b)) M = .ok (.str (tx (a ++ b))) M := by
  rw [fAdd_str (by simpa using h), tx_app]
theorem fInS_tx {c : Nat} {l : List Nat} {neg : Bool} {M : Mem} : fInS neg (.str (tx [c])) (.str (tx l)) M = .ok (.bl (if neg then !decide (c ∈ l) else decide (c ∈ l))) M := rfl
/-! ### find, rfind of one sign -/
theorem at_one {l : List Nat} {c i : Nat} : StrLaws.At (tx l) (tx [c]) (tx l).length i ↔ l[i]? = some c := StrLaws.subAt_one (tx l) c i
theorem find_tx (l : List Nat) (c : Nat) : Txt.find (tx l) (tx [c]) = if c ∈ l then (l.idxOf c : Int) else -1 := by
  rcases find_whole (tx l) (tx [c]) with ⟨e, h⟩ | ⟨i, e, h1, h2⟩
  · rw [e, if_neg]
    intro hm
    obtain ⟨i, hi, ei⟩ := List.mem_iff_getElem.mp hm
    exact h i (at_one.mpr (by rw [List.getElem?_eq_getElem hi, ei]))
  · have k1 := at_one.mp h1
    have hm : c ∈ l := List.mem_of_getElem? k1
    rw [e, if_pos hm]
    have hi := (List.getElem?_eq_some_iff.mp k1).1
    have hl := List.idxOf_lt_length_of_mem hm
    have q1 : ¬ l.idxOf c < i := fun z => h2 _ z (at_one.mpr (by rw [List.getElem?_eq_getElem hl, List.getElem_idxOf]))
    have q2 : ¬ i < l.idxOf c := fun z => by
      have := List.not_of_lt_findIdx (p := (· == c)) (xs := l) z
      rw [(List.getElem?_eq_some_iff.mp k1).2] at this
      simp at this
    omega
theorem find_sg {s : Str} {c : Nat} : Txt.find s ⟨#[c]⟩ = if c ∈ s.cps.toList then (s.cps.toList.idxOf c : Int) else -1 := by
  have z := find_tx s.cps.toList c
  rw [← tx_eta] at z
  exact z
/-! ### ints -/
theorem or_six {a b : Int} (h0 : 0 ≤ a) (h1 : 0 ≤ b) (h2 : b < 64) : Builtin.bitOr (a * 64) b = a * 64 + b := or_low (k := 6) h0 h1 h2
theorem irng_one (lo : Int) (n : Nat) : irng lo (n + 1) = .int lo :: irng (lo + 1) n := by
  unfold irng
  rw [List.range_succ_eq_map, List.map_cons, List.map_map]
  refine congr (congrArg _ (by simp)) (List.map_congr_left fun i _ => ?_)
  simp only [Function.comp]
  congr 1
  omega
end LF
set_option Elab.async false
set_option linter.all false
set_option maxRecDepth 100000
set_option maxHeartbeats 4000000
/-! LF16: the law's end. -/
namespace LF
open PySem PySem.Spec PyProof.Rows L2
theorem repL_ints {K : Frg} {φ : Wd} {H : Hp} : ∀ ns : List Int, RepL K φ H (ns.map D.int) (ns.map V.int)
  | [] => .nil
  | n :: ns => .cons rep_int (repL_ints ns)
theorem law_sp {K : Frg} {H : Hp} {a : Addr} {ns : List Int} {F : FN} (hS : SqL K H a (ns.map V.int)) (hF : ∃ M, F [.lst (ns.map .int)] [] = .ok (.bl true) M) : SpD K 1 F [.ref a] H (fun v _ => v = .bl true) (fun _ _ _ => False) := by
  obtain ⟨M, e⟩ := hF
  have st : Sto K ⟨[], []⟩ [] H := ⟨rfl, List.nodup_nil, fun b hb => absurd hb (by simp), fun i b mo h => by simp at h⟩
  have rp : Rep K ⟨[], []⟩ H (.lst (ns.map .int)) (.ref a) := by
    unfold Rep
    refine ⟨a, _, rfl, ?_, repL_ints ns⟩
    rcases hS with h | h
    · exact .inl ⟨⟨by simp, by simp⟩, h⟩
    · exact .inr h
  refine ⟨_, _, [.lst (ns.map .int)], rfl, st, RepL.cons rp .nil, ?_⟩
  rw [e]
  exact fun v φ' H' g S r => rep_bl_inv r
theorem law_walk {l : PySem.W.OpenLaw} {n k : Nat} {q : Program} {loose : List Str} {XP : (Str → Option Value) → Heap → Prop} {YP : World → Heap → Prop} {d : DefRec} {x : Str} {F : FN}
    (hm : l.most = some n) (h63 : n ≤ sizeLine) (hd : d.params.defaults = []) (hr : Room k callerA)
    (B : ∀ (w : World) (mg : Str → Option Value) (f : Addr) (h : Heap), YP w h → h.Ns mainGlobals mg → mg d.name = some (.ref f) → ∃ (K : Frg) (fd : FuncData), K.In h ∧ (∀ (s : Shared) (v : Value), BindsTo s fd ⟨[v], []⟩ [(x, v)]) ∧
      ∀ base : Heap, K.In base → base.Ns mainGlobals mg → FnOk l.prog w K mg base (L2.CX l.prog w) k f fd [x] (SpD K 1 F))
    (hF : ∀ ns : List Int, ns.length ≤ n → ∃ M, F [.lst (ns.map .int)] [] = .ok (.bl true) M) : PySem.W.WalkO q loose XP YP l.row.toRowW d [] (fun f vs => PySem.call f vs) := by
  refine Att.attach_call hm hd fun w s0 s1 mg mb f o pm cd doc a vs ns G Y o1 o2 o3 hg ob ii le bt => ?_
  obtain ⟨K, fd, KX, bi, ok⟩ := B w mg f _ Y G.T.g hg
  refine law_call KX G.T.g G.T.b G.T.builtins G.T.nolimit bt ob ii (Nat.le_trans le h63) hr ok bi (fun H _ hS => law_sp hS (hF ns le)) fun H e s' z => ?_
  obtain ⟨_, _, _, _, _, _, _, _, _, _, _, _, z⟩ := z
  exact z
end LF
set_option Elab.async false
set_option linter.all false
set_option maxRecDepth 100000
set_option maxHeartbeats 4000000
/-! LF17: enumerate of a text, all of a row, order of texts, ord, parts of texts and rows, index, x op= e. -/
namespace LF
open PySem PySem.Spec PyProof.Rows L2
/-! ### enumerate(text) -/
/-- a text's signs, each with its place in a new pair -/
def ItES (z : Str) : It := ⟨fun i _ => i < z.cps.size, fun i H v H' => ∃ T c, v = .ref T ∧ H T = none ∧ H' = upd H T (.tup [.int (i : Nat), .str ⟨#[c]⟩]) ∧ z.cps[i]? = some c, fun i _ => i = z.cps.size⟩
theorem draws_str {P : Program} {w : World} {A : Around} (hh : A.handled = none) (it : Addr) (z : Str) (t : Tok) : Draws P w A it [it] z.cps.size (fun i v => ∃ c u, z.cps[i]? = some c ∧ v = .str ⟨#[c]⟩ u) (fun i h => h.IsStrIter it (strIterType z) z t i) := by
  unfold strIterType
  split
  · exact Draws.strAscii hh it z t
  · exact Draws.strWide hh it z t
theorem turn_enumS {P : Program} {w : World} {K : Frg} {elts : List Expr} {kk : Nat} {tpos : Pos} (z : Str) (t : Tok) (e it : Addr) :
    Turn P w K (.Tuple elts kk tpos) (ItES z) [e, it] e (fun i h => (∃ old, IsEnum h e it ((i : Nat) : Int) old) ∧ h.IsStrIter it (strIterType z) z t i ∧ e ≠ it) where
  mem := by simp
  obj := fun i h st b hb => by
    obtain ⟨⟨old, he⟩, ⟨o, ho, hc, hd⟩, _⟩ := st
    have q : b = e ∨ b = it := by simpa using hb
    rcases q with rfl | rfl
    · exact ⟨_, he, fun v q => nomatch q⟩
    · exact ⟨o, ho, fun v q => by rw [hd] at q; cases q⟩
  keep := fun i h h' ⟨⟨old, he⟩, ⟨o, ho, hr⟩, ne⟩ k => ⟨⟨old, k e (by simp) _ he⟩, ⟨o, k it (by simp) o ho, hr⟩, ne⟩
  item := by
    intro X hP hw hK hc i pins s σ H E I hf ⟨⟨old, he⟩, hit, hne⟩ hg
    subst hP hw hK
    have el : e < s.heap.objs.size := Heap.lt_size he
    have il : it < s.heap.objs.size := let ⟨_, q, _⟩ := hit; Heap.lt_size q
    have D := draws_str (P := X.prog) (w := X.w) (A := X.A.in1) (I.ok.hd hc) it z t
    refine wpAny_pyNext_enum_itemD D he hit hg hne (by simpa using hne) fun x h1 tk px ho hit1 hT hz hk => ?_
    obtain ⟨c, u, hc2, rfl⟩ := px
    refine ⟨_, rfl, wpAny_letOwnedTupleGo_enum (s := { s with heap := h1, toks := tk + 1 }) ho fun h2 he2 sb => ?_⟩
    have hT2 : h2.get? s.heap.objs.size = some { cls := .type "tuple", data := .seq #[.int i tk, .str ⟨#[c]⟩ u] } := (sb.2 _ (Nat.ne_of_gt el)).trans hT
    have hn : H s.heap.objs.size = none := I.hok.fresh (Nat.le_refl _)
    have new : ObjOk X.prog X.w (upd H s.heap.objs.size (.tup [.int (i : Nat), .str ⟨#[c]⟩])) h2 s.heap.objs.size (.tup [.int (i : Nat), .str ⟨#[c]⟩]) :=
      ⟨by show 2 ≤ sizeLine; rw [sizeLine_eq]; decide, [.int i tk, .str ⟨#[c]⟩ u], .cons ⟨_, rfl⟩ (.cons ⟨_, rfl⟩ .nil), ⟨_, hT2, rfl, _, rfl⟩⟩
    have I1 : Inv X pins σ (upd H s.heap.objs.size (.tup [.int (i : Nat), .str ⟨#[c]⟩])) { s with heap := h2, toks := tk + 1 } :=
      I.turnedNew (ch := [e, it]) (fun b o hb q => (sb.2 b (fun z => hb (by simp [z]))).trans (hk b o (fun z => hb (by simp [z])) (fun z => hb (by simp [z])) q)) hf (Nat.le_refl _) new
    have hit2 : h2.IsStrIter it (strIterType z) z t (i + 1) := by
      obtain ⟨o, q1, q2⟩ := hit1
      exact ⟨o, (sb.2 it (Ne.symm hne)).trans q1, q2⟩
    have he3 : IsEnum h2 e it ((i + 1 : Nat) : Int) (.str ⟨#[c]⟩ u) := by
      rw [show ((i + 1 : Nat) : Int) = (i : Int) + 1 by omega]
      exact he2
    refine ⟨.ref s.heap.objs.size, _, I1, rfl, ⟨_, c, rfl, hn, rfl, hc2⟩, ⟨⟨_, he3⟩, hit2, hne⟩, fun b hb => ?_⟩
    have q : b = e ∨ b = it := by simpa using hb
    have bl : b < s.heap.objs.size := by rcases q with rfl | rfl <;> assumption
    rw [upd_ne (Nat.ne_of_lt bl)]
    exact (hf b hb).1
  done := by
    intro X hP hw hK hc i pins s σ H E I hf ⟨⟨old, he⟩, hit, hne⟩ hg
    subst hP hw hK
    have hg : i = z.cps.size := hg
    subst hg
    obtain ⟨f0, f1, f2, f3, f4, f5⟩ := hf it (by simp)
    have D := draws_str (P := X.prog) (w := X.w) (A := X.A.in1) (I.ok.hd hc) it z t
    exact wpAny_pyNext_enum_endD D he hit fun h1 eb => ⟨rfl, I.turned (t' := s.toks) (fun b o hb q => eb b o hb q) f0 f1 f3 f4 f5⟩
  self := fun A i s Q E ⟨⟨_, he⟩, _⟩ h => wpAny_pyIter_enum he h
def iEnumS (te : TE) : TI := fun σ H R => te σ H fun v H1 => ∃ z, v = .str z ∧ R (ItES z) H1
theorem pi_enumS {X : Cx} {e : Expr} {te : TE} {p pos tpos : Pos} {elts : List Expr} {kk : Nat} (hg : Gl X "enumerate") (hm : X.mg "enumerate" = none) (he : PE X e te) (h1 : starEach [e] X.env = (false, eval e X.env) :: starEach [] X.env := by rfl) (hs : starEach [e] X.env = [(false, eval e X.env)] := by rfl) :
    PI X (.Tuple elts kk tpos) (.Call (.Name "enumerate" p) [e] [] pos) (iEnumS te) := by
  refine ⟨fun pins s σ H R I h => ?_⟩
  have pa := pa_cons he (pa_nil (X := X)) h1
  have h2 : tCons te tNil σ H (fun vs H1 => match vs with
    | [v] => ∃ z, v = .str z ∧ R (ItES z) H1
    | _ => False) := h
  refine Call_ (ld_blt I hg hm boot_enumerate (PyProof.Rows.callWith_type1 (thn (pa.run pos pins s σ H _ I h2) fun us s1 ⟨vs, H1, I1, r1, q1⟩ => ?_) hs rfl))
  cases r1 with
  | nil => exact q1.elim
  | cons r rr =>
    cases rr with
    | cons r2 rr => exact q1.elim
    | nil =>
    obtain ⟨z, rfl, q⟩ := q1
    obtain ⟨t, rfl⟩ := r
    refine call_enumerate_str fun h' he hit hsz hk => wpAny_pyIter_enum he ?_
    have I2 : Inv X pins σ H1 { s1 with heap := h' } := I1.kept (t' := s1.toks) hk
    refine ⟨s1.heap.objs.size + 1, [s1.heap.objs.size + 1, s1.heap.objs.size], _, _, H1, rfl, I2, turn_enumS z t (s1.heap.objs.size + 1) s1.heap.objs.size, ⟨⟨.none, he⟩, hit, Nat.succ_ne_self _⟩, fun b hb => ?_, q⟩
    have hle : s1.heap.objs.size ≤ b := by
      have e' : b = s1.heap.objs.size + 1 ∨ b = s1.heap.objs.size := by simpa using hb
      rcases e' with q | q
      · rw [q]; exact Nat.le_succ _
      · rw [q]; exact Nat.le_refl _
    exact I1.fpOk hle (I1.hok.fresh hle)
/-- .. on plain data -/
def pairsS (s : Str) : List D := s.cps.toList.zipIdx.map fun ci => .tup [.int (ci.2 : Nat), .str ⟨#[ci.1]⟩]
theorem serves_enumS {K : Frg} {φ1 : Wd} {H1 : Hp} {z : Str} : Serves K φ1 H1 ⟨pairsS z, anyM⟩ (ItES z) := by
  intro i φ M H g _ S c
  have hl : (pairsS z).length = z.cps.size := by unfold pairsS; simp
  refine ⟨fun e => e.trans hl, fun d e => ?_⟩
  unfold pairsS at e
  rw [List.getElem?_map, List.getElem?_zipIdx] at e
  cases q : z.cps.toList[i]? with
  | none => rw [q] at e; cases e
  | some c =>
    rw [q] at e
    simp only [Option.map_some, Option.some.injEq, Nat.zero_add] at e
    subst e
    have hi : i < z.cps.size := by
      have := (List.getElem?_eq_some_iff.mp q).1
      simpa using this
    refine ⟨hi, fun x H' y => ?_⟩
    obtain ⟨T, c2, rfl, hT, rfl, hc⟩ := y
    have e2 : c2 = c := by
      rw [Array.getElem?_toList, hc] at q
      exact Option.some.inj q
    subst e2
    exact ⟨φ, Grow.new hT, S.new hT, rep_tup_new S hT (.cons rep_int (.cons rep_str .nil))⟩
def dItES (da : DE) : DI := fun r M => (da r M).bind fun d M1 => match d with
  | .str s => .ok ⟨pairsS s, anyM⟩ M1
  | _ => .no
section
variable {X : Cx} {W : WX} {pos : Pos}
theorem di_enumS {e : Expr} {de : DE} {p tpos : Pos} {elts : List Expr} {kk : Nat} (hg : Gl X "enumerate") (hm : X.mg "enumerate" = none) (he : DEx X W e de) (h1 : starEach [e] X.env = (false, eval e X.env) :: starEach [] X.env := by rfl) (hs : starEach [e] X.env = [(false, eval e X.env)] := by rfl) :
    DIx X W (.Tuple elts kk tpos) (.Call (.Name "enumerate" p) [e] [] pos) (dItES de) := by
  obtain ⟨_, p1, s1⟩ := he
  refine ⟨_, pi_enumS hg hm p1 h1 hs, fun φ M H σ r R S E h => ?_⟩
  refine s1 φ M H σ r _ S E (Okd.bind h fun d M1 v φ1 H1 _ g1 S1 rv h1 => ?_)
  cases d with
  | str s => exact ⟨s, rep_str_inv rv, h1.here S1 serves_enumS⟩
  | _ => exact h1.elim
end
/-! ### all of a row of truths -/
def blsOf : List D → Option (List Bool)
  | [] => some []
  | .bl b :: r => (blsOf r).map (b :: ·)
  | _ :: _ => none
theorem bls_rep {K : Frg} {φ : Wd} {H : Hp} : ∀ {ds : List D} {xs : List V} {bs : List Bool}, RepL K φ H ds xs → blsOf ds = some bs → xs = bs.map V.bl
  | [], xs, bs, r, h => by cases h; exact r.inv0
  | d :: ds, xs, bs, r, h => by
    cases d with
    | bl b =>
      obtain ⟨v, w, rfl, r1, r2⟩ := r.inv
      unfold blsOf at h
      cases e : blsOf ds with
      | none => rw [e] at h; cases h
      | some l =>
        rw [e] at h; cases h
        rw [List.map_cons, rep_bl_inv r1, bls_rep r2 e]
    | _ => cases h
def fAll : FN := fun ds M => match ds with
  | [.lst es] => (match blsOf es with
    | some bs => .ok (.bl (bs.all id)) M
    | none => .no)
  | _ => .no
def fAny : FN := fun ds M => match ds with
  | [.lst es] => (match blsOf es with
    | some bs => .ok (.bl (bs.any id)) M
    | none => .no)
  | _ => .no
theorem row_bls {K : Frg} {φ : Wd} {M : Mem} {H : Hp} {es : List D} {v : V} {bs : List Bool} (r : Rep K φ H (.lst es) v) (h : blsOf es = some bs) : ∃ a, v = .ref a ∧ SqL K H a (bs.map V.bl) := by
  unfold Rep at r
  obtain ⟨a, xs, rfl, h1, h2⟩ := r
  exact ⟨a, rfl, by rw [← bls_rep h2 h]; exact h1.sq⟩
theorem fAll_inv {K : Frg} {φ : Wd} {H : Hp} {Q : VK} {W : XK} {ds : List D} {M : Mem} (h : Okd K φ H (RE K) (fAll ds M) Q W) : ∃ es bs, ds = [.lst es] ∧ blsOf es = some bs ∧ Okd K φ H (RE K) (.ok (.bl (bs.all id)) M) Q W := by
  unfold fAll at h
  split at h
  · rename_i es
    split at h
    · rename_i bs q
      exact ⟨es, bs, rfl, q, h⟩
    · exact h.elim
  · exact h.elim
theorem o_all {K : Frg} : OpN K (rAll K) fAll := by
  intro φ M H xs ds Q W S r h
  obtain ⟨es, bs, rfl, q, h⟩ := fAll_inv h
  obtain ⟨v, w, rfl, r1, r2⟩ := r.inv
  rw [r2.inv0]
  obtain ⟨a, rfl, h1⟩ := row_bls (M := M) r1 q
  exact ⟨a, bs, rfl, h1, okB S h⟩
theorem fAny_inv {K : Frg} {φ : Wd} {H : Hp} {Q : VK} {W : XK} {ds : List D} {M : Mem} (h : Okd K φ H (RE K) (fAny ds M) Q W) : ∃ es bs, ds = [.lst es] ∧ blsOf es = some bs ∧ Okd K φ H (RE K) (.ok (.bl (bs.any id)) M) Q W := by
  unfold fAny at h
  split at h
  · rename_i es
    split at h
    · rename_i bs q
      exact ⟨es, bs, rfl, q, h⟩
    · exact h.elim
  · exact h.elim
theorem o_any {K : Frg} : OpN K (rAny K) fAny := by
  intro φ M H xs ds Q W S r h
  obtain ⟨es, bs, rfl, q, h⟩ := fAny_inv h
  obtain ⟨v, w, rfl, r1, r2⟩ := r.inv
  rw [r2.inv0]
  obtain ⟨a, rfl, h1⟩ := row_bls (M := M) r1 q
  exact ⟨a, bs, rfl, h1, okB S h⟩
/-! ### order of texts, ord -/
def strLt (a b : Str) : Bool := decide (a.cps.toList < b.cps.toList)
def fCmp (f : Int → Int → Bool) (g : Str → Str → Bool) : F2 := fun x y M => match x, y with
  | .int i, .int j => .ok (.bl (f i j)) M
  | .str a, .str b => .ok (.bl (g a b)) M
  | _, _ => .no
def fLtX : F2 := fCmp (fun i j => decide (i < j)) strLt
def fLeX : F2 := fCmp (fun i j => decide (i ≤ j)) fun a b => !strLt b a
def fGtX : F2 := fCmp (fun i j => decide (j < i)) fun a b => strLt b a
def fGeX : F2 := fCmp (fun i j => decide (j ≤ i)) fun a b => !strLt a b
def rCmpX (f : Int → Int → Bool) (g : Str → Str → Bool) : R2 := fun x y H Q => (∃ i j, x = .int i ∧ y = .int j ∧ Q (.bl (f i j)) H) ∨ ∃ i j, x = .str i ∧ y = .str j ∧ Q (.bl (g i j)) H
theorem o_cmpX {K : Frg} {f : Int → Int → Bool} {g : Str → Str → Bool} : Op2 K (rCmpX f g) (fCmp f g) := by
  intro φ M H x y a b Q W S ra rb h
  cases a with
  | int i =>
    cases b with
    | int j => exact .inl ⟨i, j, rep_int_inv ra, rep_int_inv rb, okB S h⟩
    | _ => exact h.elim
  | str i =>
    cases b with
    | str j => exact .inr ⟨i, j, rep_str_inv ra, rep_str_inv rb, okB S h⟩
    | _ => exact h.elim
  | _ => cases b <;> exact h.elim
theorem o_ltX {K : Frg} : Op2 K (rCmpX (fun i j => decide (i < j)) strLt) fLtX := o_cmpX
theorem o_leX {K : Frg} : Op2 K (rCmpX (fun i j => decide (i ≤ j)) fun a b => !strLt b a) fLeX := o_cmpX
theorem o_gtX {K : Frg} : Op2 K (rCmpX (fun i j => decide (j < i)) fun a b => strLt b a) fGtX := o_cmpX
theorem o_geX {K : Frg} : Op2 K (rCmpX (fun i j => decide (j ≤ i)) fun a b => !strLt a b) fGeX := o_cmpX
section
variable {X : Cx}
theorem opr_ltX : OpR X (compareOp .Lt) (rCmpX (fun i j => decide (i < j)) strLt) := OpR.or (r := fun x y H Q => ∃ i j, x = .int i ∧ y = .int j ∧ Q (.bl (decide (i < j))) H) op_lt op_lt_str
theorem opr_leX : OpR X (compareOp .LtE) (rCmpX (fun i j => decide (i ≤ j)) fun a b => !strLt b a) := OpR.or (r := fun x y H Q => ∃ i j, x = .int i ∧ y = .int j ∧ Q (.bl (decide (i ≤ j))) H) op_le op_le_str
theorem opr_gtX : OpR X (compareOp .Gt) (rCmpX (fun i j => decide (j < i)) fun a b => strLt b a) := OpR.or (r := fun x y H Q => ∃ i j, x = .int i ∧ y = .int j ∧ Q (.bl (decide (j < i))) H) op_gt op_gt_str
theorem opr_geX : OpR X (compareOp .GtE) (rCmpX (fun i j => decide (j ≤ i)) fun a b => !strLt a b) := OpR.or (r := fun x y H Q => ∃ i j, x = .int i ∧ y = .int j ∧ Q (.bl (decide (j ≤ i))) H) op_ge op_ge_str
end
def fOrd : FN := fun ds M => match ds with
  | [.str s] => (match s.cps.toList with
    | [c] => .ok (.int (c : Nat)) M
    | _ => .no)
  | _ => .no
theorem fOrd_inv {K : Frg} {φ : Wd} {H : Hp} {Q : VK} {W : XK} {ds : List D} {M : Mem} (h : Okd K φ H (RE K) (fOrd ds M) Q W) : ∃ c, ds = [.str ⟨#[c]⟩] ∧ Okd K φ H (RE K) (.ok (.int (c : Nat)) M) Q W := by
  unfold fOrd at h
  split at h
  · rename_i s
    split at h
    · rename_i c q
      exact ⟨c, by rw [str_one q], h⟩
    · exact h.elim
  · exact h.elim
theorem o_ord {K : Frg} : OpN K (fun xs H Q => ∃ x, xs = [V.str x] ∧ x.length = 1 ∧ Q (.int (x.cps.getD 0 0 : Nat)) H) fOrd := by
  intro φ M H xs ds Q W S r h
  obtain ⟨c, rfl, h⟩ := fOrd_inv h
  obtain ⟨v, w, rfl, r1, r2⟩ := r.inv
  rw [r2.inv0, rep_str_inv r1]
  exact ⟨_, rfl, rfl, okI S h⟩
/-! ### parts -/
abbrev DO := Env' → Mem → Out (Option Int)
def dNoPart : DO := fun _ M => .ok none M
def dPart (de : DE) : DO := fun r M => (de r M).bind fun d M1 => match d with
  | .int i => .ok (some i) M1
  | _ => .no
def SimO (K : Frg) (W : WX) (t : TO) (do_ : DO) : Prop := ∀ φ M H σ r (Q : Option Int → Hp → Prop), Sto K φ M H → EnvR K φ H r σ → Okd K φ H (fun _ _ a b => b = a) (do_ r M) Q (fun c d H' => W c d σ H') → t σ H Q
def DOx (X : Cx) (W : WX) (e : Option Expr) (do_ : DO) : Prop := ∃ t, PO X e t ∧ SimO X.K W t do_
def cutD (ds : List D) (lo hi : Option Int) : List D := (ds.drop (HT.sIx ds.length 0 lo)).take (HT.sIx ds.length ds.length hi - HT.sIx ds.length 0 lo)
/-- a part of a text, of a row: lists are new ones that stay -/
def fSl (x : D) (lo hi : Option Int) (M : Mem) : Out D := match x with
  | .str s => (match lineB s.length with
    | true => .ok (.str (Txt.slice s lo hi)) M
    | false => .no)
  | .tup ds => .ok (.tup (cutD ds lo hi)) M
  | .lst ds => .ok (.lst (cutD ds lo hi)) M
  | .obj n => (match M[n]? with
    | some (.lst ds) => .ok (.lst (cutD ds lo hi)) M
    | some (.ro ds) => .ok (.lst (cutD ds lo hi)) M
    | _ => .no)
  | _ => .no
def dSl (da : DE) (lo hi : DO) : DE := fun r M => (da r M).bind fun x M1 => (lo r M1).bind fun l M2 => (hi r M2).bind fun h M3 => fSl x l h M3
section
variable {X : Cx} {W : WX} {pos p2 : Pos}
theorem do_none : DOx X W none dNoPart := ⟨_, po_none, fun φ M H σ r Q S E h => h none φ H Grow.refl S rfl⟩
theorem do_some {e : Expr} {de : DE} (h : DEx X W e de) : DOx X W (some e) (dPart de) := by
  obtain ⟨_, p, s⟩ := h
  refine ⟨_, po_some p, fun φ M H σ r Q S E h => ?_⟩
  refine s φ M H σ r _ S E (Okd.bind h fun d M1 v φ1 H1 _ g1 S1 rv h1 => ?_)
  cases d with
  | int i => exact ⟨i, rep_int_inv rv, h1 (some i) φ1 H1 Grow.refl S1 rfl⟩
  | _ => exact h1.elim
def rSlAll (K : Frg) : V → Option Int → Option Int → Hp → VK → Prop := fun x lo hi H Q => (C8.rSlX x lo hi H Q ∨ rSlL K x lo hi H Q) ∨ rSlA K x lo hi H Q
theorem sl_all : SlR X (rSlAll X.K) := SlR.or (SlR.or C8.sl_txt sl_list) sl_tupA
theorem cut_rep {K : Frg} {φ : Wd} {H : Hp} {ds : List D} {xs : List V} {lo hi : Option Int} (r : RepL K φ H ds xs) : RepL K φ H (cutD ds lo hi) (cutV xs lo hi) := by
  unfold cutD cutV
  rw [r.len]
  exact RepL.take _ (RepL.drop _ r)
theorem cut_all {α : Type} {xs : List α} {lo hi : Option Int} (h : HT.sIx xs.length 0 lo = 0 ∧ HT.sIx xs.length xs.length hi = xs.length) : (xs.drop (HT.sIx xs.length 0 lo)).take (HT.sIx xs.length xs.length hi - HT.sIx xs.length 0 lo) = xs := by
  rw [h.1, h.2, List.drop_zero, Nat.sub_zero, List.take_length]
theorem fSl_sim {K : Frg} {φ : Wd} {M : Mem} {H : Hp} {x : D} {v : V} {lo hi : Option Int} {Q : VK} {E : XK} (S : Sto K φ M H) (rv : Rep K φ H x v) (h : Okd K φ H (RE K) (fSl x lo hi M) Q E) : rSlAll K v lo hi H Q := by
  have lst : ∀ (a : Addr) (xs : List V) (ds : List D), SqL K H a xs → RepL K φ H ds xs → Okd K φ H (RE K) (.ok (.lst (cutD ds lo hi)) M) Q E → v = .ref a → rSlAll K v lo hi H Q := fun a xs ds h1 h2 h3 e =>
    .inl (.inr ⟨a, xs, e, h1, fun p hp => h3 _ _ _ (Grow.new hp) (S.new hp) (rep_lst_new S hp (cut_rep h2))⟩)
  cases x with
  | str s =>
    have h : Okd K φ H (RE K) (match lineB s.length with
      | true => .ok (.str (Txt.slice s lo hi)) M
      | false => .no) Q E := h
    cases q : lineB s.length with
    | false => rw [q] at h; exact h.elim
    | true => rw [q] at h; exact .inl (.inl ⟨s, rep_str_inv rv, lineB_ok q, okT S h⟩)
  | tup ds =>
    unfold Rep at rv
    obtain ⟨a, xs, rfl, h1, h2⟩ := rv
    refine .inr ⟨a, xs, rfl, h1.sq, fun hw => ?_, fun hn p hp => h _ _ _ (Grow.new hp) (S.new hp) (rep_tup_new S hp (cut_rep h2))⟩
    rw [h2.len] at hw
    have e : cutD ds lo hi = ds := cut_all hw
    have h : Okd K φ H (RE K) (.ok (.tup (cutD ds lo hi)) M) Q E := h
    rw [e] at h
    refine h.here S ?_
    unfold RE Rep
    exact ⟨a, xs, rfl, h1, h2⟩
  | lst ds =>
    unfold Rep at rv
    obtain ⟨a, xs, rfl, h1, h2⟩ := rv
    exact lst a xs ds h1.sq h2 h rfl
  | obj n =>
    unfold Rep at rv
    obtain ⟨a, ha, rfl⟩ := rv
    unfold fSl at h
    dsimp only at h
    split at h
    · rename_i ds q
      obtain ⟨xs, h1, h2⟩ := S.ob n a _ ha q
      exact lst a xs ds (.inl (.inl h1)) h2 h rfl
    · rename_i ds q
      obtain ⟨xs, h1, h2⟩ := S.ob n a _ ha q
      exact lst a xs ds (.inl h1) h2 h rfl
    · exact h.elim
  | _ => exact h.elim
theorem de_sl {e : Expr} {lo hi : Option Expr} {da : DE} {dl dh : DO} (he : DEx X W e da) (hl : DOx X W lo dl) (hh : DOx X W hi dh) : DEx X W (.Subscript e (.Slice lo hi none p2) pos) (dSl da dl dh) := by
  obtain ⟨_, p1, s1⟩ := he
  obtain ⟨_, p2, s2⟩ := hl
  obtain ⟨_, p3, s3⟩ := hh
  refine ⟨_, pe_slice sl_all p1 p2 p3, fun φ M H σ r Q S E h => ?_⟩
  refine s1 φ M H σ r _ S E (Okd.bind h fun x M1 v φ1 H1 _ g1 S1 rv h1 => ?_)
  refine s2 φ1 M1 H1 σ r _ S1 (E.grow g1) (Okd.bind h1 fun l M2 l' φ2 H2 _ g2 S2 rl h2 => ?_)
  refine s3 φ2 M2 H2 σ r _ S2 ((E.grow g1).grow g2) (Okd.bind h2 fun u M3 u' φ3 H3 _ g3 S3 ru h3 => ?_)
  have rl : l' = l := rl
  have ru : u' = u := ru
  subst rl ru
  exact fSl_sim S3 (Rep.grow (g2.trans g3) _ _ rv) h3
end
/-! ### text.index(sign) -/
def mIndex : Str → F1 := fun s y M => match y with
  | .str t => (match Builtin.Str.occurrences s t 0 s.length 1 with
    | i :: _ => .ok (.int (i : Nat)) M
    | [] => .no)
  | _ => .no
end LF
set_option Elab.async false
set_option linter.all false
set_option maxRecDepth 100000
set_option maxHeartbeats 4000000
/-! LF18: index, x += e; rules to evaluate what LF17 has. -/
namespace LF
open PySem PySem.Spec PyProof.Rows L2
theorem o_mIndex {K : Frg} : OpM K (fun x xs H Q => ∃ a b i rest, x = .str a ∧ xs = [.str b] ∧ Builtin.Str.occurrences a b 0 a.length 1 = i :: rest ∧ Q (.int (i : Nat)) H) mIndex := by
  intro φ M H s y b Q W S rb h
  unfold mIndex at h
  split at h
  · rename_i t
    split at h
    · rename_i i rest q
      exact ⟨s, t, i, rest, rfl, by rw [rep_str_inv rb], q, okI S h⟩
    · exact h.elim
  · exact h.elim
section
variable {X : Cx} {W : WX} {pos : Pos}
theorem de_index {o e : Expr} {apos : Pos} {da db : DE} (ho : DEx X W o da) (he : DEx X W e db) (hs : starEach [e] X.env = [(false, eval e X.env)] := by rfl) (hbase : attributeBase o "index" X.env (eval o X.env) = eval o X.env := by rfl) (hline : (apos.endLine == pos.line) = true := by rfl) :
    DEx X W (.Call (.Attribute o "index" apos) [e] [] pos) (dM1 mIndex da db) := de_m1 F.slot_str_index F.type_str_index mt_sindex o_mIndex ho he hs hbase hline
end
def fAddI : F2 := fI2 yes2 fun i j => .int (i + j)
def fSubI : F2 := fI2 yes2 fun i j => .int (i - j)
theorem o_ip {K : Frg} {g : Int → Int → Int} : Op2 K (ipI g) (fI2 yes2 fun i j => .int (g i j)) := by
  intro φ M H x y a b Q W S ra rb h
  cases a with
  | int i =>
    cases b with
    | int j => exact ⟨i, j, rep_int_inv ra, rep_int_inv rb, okI S h⟩
    | _ => exact h.elim
  | _ => cases b <;> exact h.elim
/-! ### rules to evaluate -/
section
variable {r : Env'} {M : Mem} {i j : Int} {s t : Str} {x y d : D} {ds : List D} {b c : Bool} {e : Exn}
@[simp] theorem fAddI_int : fAddI (.int i) (.int j) M = .ok (.int (i + j)) M := rfl
@[simp] theorem fSubI_int : fSubI (.int i) (.int j) M = .ok (.int (i - j)) M := rfl
@[simp] theorem fLtX_int : fLtX (.int i) (.int j) M = .ok (.bl (decide (i < j))) M := rfl
@[simp] theorem fLeX_int : fLeX (.int i) (.int j) M = .ok (.bl (decide (i ≤ j))) M := rfl
@[simp] theorem fGtX_int : fGtX (.int i) (.int j) M = .ok (.bl (decide (j < i))) M := rfl
@[simp] theorem fGeX_int : fGeX (.int i) (.int j) M = .ok (.bl (decide (j ≤ i))) M := rfl
@[simp] theorem fLtX_str : fLtX (.str s) (.str t) M = .ok (.bl (strLt s t)) M := rfl
@[simp] theorem fLeX_str : fLeX (.str s) (.str t) M = .ok (.bl (!strLt t s)) M := rfl
@[simp] theorem fGtX_str : fGtX (.str s) (.str t) M = .ok (.bl (strLt t s)) M := rfl
@[simp] theorem fGeX_str : fGeX (.str s) (.str t) M = .ok (.bl (!strLt s t)) M := rfl
theorem strLt_tx (a b : List Nat) : strLt (tx a) (tx b) = decide (a < b) := rfl
theorem strLt_one (a b : Nat) : strLt (tx [a]) (tx [b]) = decide (a < b) := by
  rw [strLt_tx]
  have e : ([a] < [b]) ↔ a < b := by
    rw [List.cons_lt_cons_iff]
    simp
  exact decide_eq_decide.mpr e
@[simp] theorem fOrd_one {k : Nat} : fOrd [.str (tx [k])] M = .ok (.int (k : Nat)) M := rfl
theorem fAll_of {bs : List Bool} (h : blsOf ds = some bs) : fAll [.lst ds] M = .ok (.bl (bs.all id)) M := by
  unfold fAll
  dsimp only
  rw [h]
theorem fAny_of {bs : List Bool} (h : blsOf ds = some bs) : fAny [.lst ds] M = .ok (.bl (bs.any id)) M := by
  unfold fAny
  dsimp only
  rw [h]
theorem blsOf_map {α : Type} {f : α → Bool} : ∀ l : List α, blsOf (l.map fun a => .bl (f a)) = some (l.map f)
  | [] => rfl
  | a :: l => by simp only [List.map_cons, blsOf, blsOf_map l, Option.map_some]
def itESK (o : Out D) : Out Src := o.bind fun d M1 => match d with
  | .str s => .ok ⟨pairsS s, anyM⟩ M1
  | _ => .no
@[simp] theorem dItES_ev {da : DE} : dItES da r M = itESK (da r M) := rfl
@[simp] theorem itESK_str : itESK (.ok (.str s) M) = .ok ⟨pairsS s, anyM⟩ M := rfl
@[simp] theorem itSK_str : itSK (.ok (.str s) M) = .ok ⟨signs s, anyM⟩ M := rfl
theorem pairs_tx (l : List Nat) : pairsS (tx l) = l.zipIdx.map fun ci => .tup [.int (ci.2 : Nat), .str (tx [ci.1])] := rfl
@[simp] theorem dNoPart_ev : dNoPart r M = .ok none M := rfl
def partK (o : Out D) : Out (Option Int) := o.bind fun d M1 => match d with
  | .int i => .ok (some i) M1
  | _ => .no
@[simp] theorem dPart_ev {da : DE} : dPart da r M = partK (da r M) := rfl
@[simp] theorem partK_ok : partK (.ok (.int i) M) = .ok (some i) M := rfl
def slK3 (x : D) (l : Option Int) (o : Out (Option Int)) : Out D := o.bind fun h M3 => fSl x l h M3
def slK2 (x : D) (o : Out (Option Int)) (hi : DO) (r : Env') : Out D := o.bind fun l M2 => slK3 x l (hi r M2)
def slK1 (o : Out D) (lo hi : DO) (r : Env') : Out D := o.bind fun x M1 => slK2 x (lo r M1) hi r
@[simp] theorem dSl_ev {da : DE} {lo hi : DO} : dSl da lo hi r M = slK1 (da r M) lo hi r := rfl
@[simp] theorem slK1_ok {lo hi : DO} : slK1 (.ok x M) lo hi r = slK2 x (lo r M) hi r := rfl
@[simp] theorem slK2_ok {hi : DO} {l : Option Int} : slK2 x (.ok l M) hi r = slK3 x l (hi r M) := rfl
@[simp] theorem slK3_ok {l h : Option Int} : slK3 x l (.ok h M) = fSl x l h M := rfl
def cutN {α : Type} (l : List α) (lo hi : Option Int) : List α := (l.drop (HT.sIx l.length 0 lo)).take (HT.sIx l.length l.length hi - HT.sIx l.length 0 lo)
theorem fSl_tx {l : List Nat} {lo hi : Option Int} (h : l.length ≤ 100000) : fSl (.str (tx l)) lo hi M = .ok (.str (tx (cutN l lo hi))) M := by
  unfold fSl
  dsimp only
  rw [lineB_of (by simpa using h)]
  dsimp only
  rw [← C8.cutS_slice]
  rfl
@[simp] theorem fSl_tup {lo hi : Option Int} : fSl (.tup ds) lo hi M = .ok (.tup (cutN ds lo hi)) M := rfl
@[simp] theorem fSl_lst {lo hi : Option Int} : fSl (.lst ds) lo hi M = .ok (.lst (cutN ds lo hi)) M := rfl
theorem cutN_to {α : Type} {l : List α} {k : Nat} (h : k ≤ l.length) : cutN l none (some (k : Int)) = l.take k := by
  unfold cutN
  rw [HT.sIx_none, HT.sIx_nat, List.drop_zero, Nat.sub_zero, Nat.min_eq_left h]
theorem cutN_from {α : Type} {l : List α} {k : Nat} (h : k ≤ l.length) : cutN l (some (k : Int)) none = l.drop k := by
  unfold cutN
  rw [HT.sIx_none, HT.sIx_nat, Nat.min_eq_left h]
  exact List.take_of_length_le (by simp)
theorem mIndex_tx {l : List Nat} {c : Nat} (h : c ∈ l) : mIndex (tx l) (.str (tx [c])) M = .ok (.int (l.idxOf c : Nat)) M := by
  have f := find_tx l c
  rw [if_pos h] at f
  unfold Txt.find at f
  unfold mIndex
  dsimp only
  cases q : Builtin.Str.occurrences (tx l) (tx [c]) 0 (tx l).length 1 with
  | nil => rw [q] at f; exact absurd f (by simp)
  | cons i rest =>
    rw [q] at f
    dsimp only at f ⊢
    rw [f]
def augK (i : Nat) (f : F2) (x : D) (o : Out D) (r : Env') : SO := o.bindS r fun y M1 => match f x y M1 with
  | .ok z M2 => .nx (r.set i (some z)) M2
  | _ => .no
theorem dAug_ev {k : Nat} {f : F2} {da : DE} : dAug k f da r M = (match r[k]? with
  | some (some x) => augK k f x (da r M) r
  | _ => .no) := rfl
theorem augK_ok {k : Nat} {f : F2} {M1 : Mem} {z : D} (h : f x y M = .ok z M1) : augK k f x (.ok y M) r = .nx (r.set k (some z)) M1 := by
  unfold augK
  dsimp only [Out.bindS]
  rw [h]
@[simp] theorem augK_add {k : Nat} : augK k fAddI (.int i) (.ok (.int j) M) r = .nx (r.set k (some (.int (i + j)))) M := rfl
@[simp] theorem augK_sub {k : Nat} : augK k fSubI (.int i) (.ok (.int j) M) r = .nx (r.set k (some (.int (i - j)))) M := rfl
@[simp] theorem dItL_ev {da : DE} : dItL da r M = ((da r M).bind fun d M1 => match d with
  | .lst ds => .ok ⟨ds, anyM⟩ M1
  | .obj n => (match M1[n]? with
    | some (.lst ds) => .ok ⟨ds, fun M => isAt M n (.lst ds)⟩ M1
    | some (.ro ds) => .ok ⟨ds, fun M => isAt M n (.ro ds)⟩ M1
    | _ => .no)
  | _ => .no) := rfl
end
end LF
set_option Elab.async false
set_option linter.all false
set_option maxRecDepth 100000
set_option maxHeartbeats 4000000
/-! LF19: own objects: fields read and stored, made, their methods called. -/
namespace LF
open PySem PySem.Spec PyProof.Rows L2
/-- own classes: the class, the names of its instances' fields -/
abbrev ITab := List (Str × List Str)
structure IFacts (K : Frg) (T : ITab) : Prop where
  cls : ∀ p ∈ T, Cls K (He.ga K p.1)
  noat : ∀ p ∈ T, ∀ f ∈ p.2, NoAttr K (He.ga K p.1) f
def itB (T : ITab) (K : Frg) : Bool := T.all fun p => (He.Fa.cls p.1).ok K && p.2.all fun f => (He.Fa.noat p.1 f).ok K
theorem itB_ok {T : ITab} {K : Frg} (h : itB T K = true) : IFacts K T := by
  have h := List.all_eq_true.mp h
  exact ⟨fun p hp => He.cls_ok (He.ba (h p hp)).1, fun p hp f hf => He.noat_ok (List.all_eq_true.mp (He.ba (h p hp)).2 f hf)⟩
def okF (T : ITab) (f : Str) (c : Str) : Bool := T.any fun p => p.1 == c && p.2.contains f
theorem IFacts.fld {K : Frg} {T : ITab} (F : IFacts K T) {f c : Str} (h : okF T f c = true) : Cls K (He.ga K c) ∧ NoAttr K (He.ga K c) f := by
  obtain ⟨p, hp, e⟩ := List.any_eq_true.mp h
  obtain ⟨a, b⟩ := p
  obtain ⟨e1, e2⟩ := Bool.and_eq_true_iff.mp e
  have e1 : a = c := beq_iff_eq.mp e1
  subst e1
  exact ⟨F.cls _ hp, F.noat _ hp f (by simpa using e2)⟩
/-! ### o.f -/
def fAttr (ok : Str → Bool) (f : Str) : F1 := fun x M => match x with
  | .obj n => (match M[n]? with
    | some (.ins c fs) => (match ok c with
      | true => liftO (fs.lookup f) M
      | false => .no)
    | _ => .no)
  | _ => .no
theorem fAttr_inv {K : Frg} {φ : Wd} {H : Hp} {Q : VK} {W : XK} {ok : Str → Bool} {f : Str} {x : D} {M : Mem} (h : Okd K φ H (RE K) (fAttr ok f x M) Q W) : ∃ n c fs d, x = .obj n ∧ M[n]? = some (.ins c fs) ∧ ok c = true ∧ fs.lookup f = some d ∧ Okd K φ H (RE K) (.ok d M) Q W := by
  unfold fAttr at h
  split at h
  · rename_i n
    split at h
    · rename_i c fs e
      split at h
      · rename_i q
        cases l : fs.lookup f with
        | none => rw [l] at h; exact h.elim
        | some d => rw [l] at h; exact ⟨n, c, fs, d, rfl, e, q, l, h⟩
      · exact h.elim
    · exact h.elim
  · exact h.elim
section
variable {X : Cx} {W : WX} {pos : Pos}
theorem de_attr {e : Expr} {f : Str} {da : DE} {ok : Str → Bool} (hok : ∀ c, ok c = true → Cls X.K (He.ga X.K c) ∧ NoAttr X.K (He.ga X.K c) f) (he : DEx X W e da) (hb : attributeBase e f X.env (eval e X.env) = eval e X.env := by rfl) : DEx X W (.Attribute e f pos) (dUn (fAttr ok f) da) := by
  obtain ⟨_, p, s⟩ := he
  refine ⟨_, pe_fld p hb, fun φ M H σ r Q S E h => ?_⟩
  refine s φ M H σ r _ S E (Okd.bind h fun d M1 v φ1 H1 _ g1 S1 rv h1 => ?_)
  obtain ⟨n, c, fs, y, rfl, e, q, l, h1⟩ := fAttr_inv h1
  unfold RE Rep at rv
  obtain ⟨a, ha, rfl⟩ := rv
  obtain ⟨dx, fv, h2, h3⟩ := S1.ob n a _ ha e
  obtain ⟨w, l2, r2⟩ := h3.lookup.2 y l
  obtain ⟨c1, c2⟩ := hok c q
  exact ⟨a, _, dx, fv, w, rfl, h2, c1, c2, l2, h1.here S1 r2⟩
end
/-! ### o.f = e -/
def putAttr (ok : Str → Bool) (f : Str) (o v : D) (r : Env') (M : Mem) : SO := match o with
  | .obj n => (match M[n]? with
    | some (.ins c fs) => (match ok c && Nat.blt fs.length 1000 with
      | true => .nx r (M.set n (.ins c (putFD f v fs)))
      | false => .no)
    | _ => .no)
  | _ => .no
theorem putAttr_inv {K : Frg} {φ : Wd} {H : Hp} {E : Ends} {W : WX} {ok : Str → Bool} {f : Str} {x y : D} {r : Env'} {M : Mem} (h : OkS K φ H (putAttr ok f x y r M) E W) : ∃ n c fs, x = .obj n ∧ M[n]? = some (.ins c fs) ∧ ok c = true ∧ fs.length < 1000 ∧ OkS K φ H (.nx r (M.set n (.ins c (putFD f y fs)))) E W := by
  unfold putAttr at h
  split at h
  · rename_i n
    split at h
    · rename_i c fs e
      split at h
      · rename_i q
        obtain ⟨q1, q2⟩ := Bool.and_eq_true_iff.mp q
        exact ⟨n, c, fs, rfl, e, q1, Nat.le_of_ble_eq_true q2, h⟩
      · exact h.elim
    · exact h.elim
  · exact h.elim
def dAttrPut (ok : Str → Bool) (f : Str) (do_ dv : DE) : DS := fun r M => (dv r M).bindS r fun v M1 => (do_ r M1).bindS r fun o M2 => putAttr ok f o v r M2
section
variable {X : Cx} {W : WX} {pos pos' : Pos}
theorem ds_attr {o value : Expr} {f : Str} {da dv : DE} {ok : Str → Bool} (hok : ∀ c, ok c = true → Cls X.K (He.ga X.K c) ∧ NoAttr X.K (He.ga X.K c) f) (ho : DEx X W o da) (hv : DEx X W value dv) (hs : swapsWith value (some (.Attribute o f pos')) pos.line X.env = pure false := by rfl) :
    DSx X W (.Assign [.Attribute o f pos'] value pos) (dAttrPut ok f da dv) := by
  obtain ⟨_, p1, s1⟩ := ho
  obtain ⟨_, p2, s2⟩ := hv
  refine ⟨_, ps_fld p1 p2 hs, fun φ M H σ r E S er h => ?_⟩
  refine s2 φ M H σ r _ S er (OkS.bind er h fun z M1 v φ1 H1 _ g1 S1 rv h1 => ?_)
  refine s1 φ1 M1 H1 σ r _ S1 (er.grow g1) (OkS.bind (er.grow g1) h1 fun x M2 u φ2 H2 _ g2 S2 ru h2 => ?_)
  obtain ⟨n, c, fs, rfl, e, q1, q2, h2⟩ := putAttr_inv h2
  have rv : Rep X.K φ2 H2 z v := Rep.grow g2 _ _ rv
  unfold RE Rep at ru
  obtain ⟨a, ha, rfl⟩ := ru
  obtain ⟨dx, fv, h3, h4⟩ := S2.ob n a _ ha e
  obtain ⟨c1, c2⟩ := hok c q1
  refine ⟨a, _, dx, fv, rfl, h3, c1, c2, by rw [h4.len]; exact q2, ?_⟩
  have gp : Grow φ2 H2 φ2 (upd H2 a (.ins (He.ga X.K c) dx (L2.putF f v fv))) := Grow.put (List.mem_of_getElem? ha) (fun ob u z => by rw [h3] at z; cases z)
  exact h2 σ φ2 _ gp (S2.put ha ⟨dx, _, upd_same, RepK.putF (Rep.grow gp _ _ rv) (RepK.mo gp.mo h4)⟩) ((er.grow (g1.trans g2)).grow gp)
end
/-! ### C(e, ..) -/
/-- a class's making: n the parameters of __init__, F what it does -/
structure MakeOk (P : Program) (w : World) (K : Frg) (mg : Str → Option Value) (base : Heap) (k : Nat) (c : Str) (n : Nat) (F : FN) : Prop where
  ex : ∃ f fd ps, mg c = some (.ref (He.ga K c)) ∧ Mk K (He.ga K c) f ∧ Binds K fd ps [] ∧ FnOk P w K mg base (L2.CX P w) k f fd ps (SpD K n F)
def dMake (c : Str) (n : Nat) (F : FN) (da : DA) : DE := fun r M => (da r M).bind fun ds M1 => match Nat.beq (ds.length + 1) n with
  | true => (F (.obj M1.length :: ds) (M1 ++ [.ins c []])).bind fun v M2 => match v with
    | .non => .ok (.obj M1.length) M2
    | _ => .no
  | false => .no
section
variable {X : Cx} {W : WX} {p pos : Pos} {x : Str} {e : Expr} {es : List Expr} {dr : DA} {k n : Nat} {F : FN}
/-- what a making needs of the heap -/
def tMakeD (K : Frg) (W : WX) (c : Str) (n : Nat) (F : FN) (t : TA) : TE := fun σ H Q => t σ H fun vs H1 => ∀ x dx, H1 x = none → H1 dx = none → dx ≠ x →
  SpD K n F (.ref x :: vs) (upd (upd H1 dx (.own x)) x (.ins (He.ga K c) dx [])) (fun v H2 => v = .non ∧ Q (.ref x) H2) (WE W σ)
theorem run_makeS {CX : CXT} {C f : Addr} {fd : FuncData} {ps : List Str} {sp : Sp} {E : L2.St → XK} {pins : List (Addr × Obj)} {σ : L2.St} {H : Hp} {s : Shared} {Q : VK} {us : List Value} {vs : List V} (M : Mk X.K C f) (G : FnOk X.prog X.w X.K X.mg X.base CX k f fd ps sp) (hr : Room (k + 1) X.A)
    (hb : Binds X.K fd ps []) (hx : PassesAt CX X σ (E σ)) (I : Inv X pins σ H s) (r : Vals vs us)
    (h : ∀ x dx, H x = none → H dx = none → dx ≠ x → sp (.ref x :: vs) (upd (upd H dx (.own x)) x (.ins C dx [])) (fun v H2 => v = .non ∧ Q (.ref x) H2) (E σ)) :
    wpAny (model X.prog X.w) X.A (PySem.call (.ref C) us) (EP X pins σ Q) X.xe s := by
  have hq := h (s.heap.objs.size + 1) s.heap.objs.size (I.hok.fresh (Nat.le_succ _)) (I.hok.fresh (Nat.le_refl _)) (Nat.ne_of_lt (Nat.lt_succ_self _))
  have J := Inv.made (C := C) I
  have r2 : Vals (V.ref (s.heap.objs.size + 1) :: vs) (Value.ref (s.heap.objs.size + 1) :: us) := .cons rfl r
  have hl : (Value.ref (s.heap.objs.size + 1) :: us).length = ps.length := by rw [← r2.length]; exact G.len _ _ _ _ hq
  have b := hb { s with heap := (s.heap.push PySem.W.emptyDict).push (PySem.W.instObj C s.heap.objs.size) } (Value.ref (s.heap.objs.size + 1) :: us) J.kIn (by rw [List.append_nil]; exact hl)
  rw [List.append_nil] at b
  refine wpAny_call (make_map (f := f) I.kIn M.makes M.init (beq_iff_eq.mp M.fn) (codeAny_mono (G.run _ X.stack _ _ _ _ _ _ (E σ) (hr.make C us []) (J.env0.make C us []) b r2 hq) fun res s2 hq2 => ?_))
  cases res with
  | error err => exact hx pins _ _ err s2 J hq2
  | ok fl =>
    cases fl with
    | ret u =>
      obtain ⟨v, H2, I3, rv, ev, q3⟩ := J.after hq2
      subst ev
      exact ⟨rv, ⟨V.ref (s.heap.objs.size + 1), H2, I3, rfl, q3⟩⟩
    | next => exact False.elim hq2
    | brk => exact False.elim hq2
    | cont => exact False.elim hq2
theorem sto_make {K : Frg} {φ : Wd} {M : Mem} {H : Hp} {x dx : Addr} {c : Str} (S : Sto K φ M H) (h1 : H x = none) (h2 : H dx = none) (ne : dx ≠ x) :
    Grow φ H (φ.add x) (upd (upd H dx (.own x)) x (.ins (He.ga K c) dx [])) ∧ Sto K (φ.add x) (M ++ [.ins c []]) (upd (upd H dx (.own x)) x (.ins (He.ga K c) dx [])) := by
  have h3 : upd H dx (.own x) x = none := by rw [upd_ne (fun z => ne z.symm)]; exact h1
  exact ⟨(Grow.new h2).trans (Grow.alloc h3), (S.new h2).alloc h3 ⟨dx, [], upd_same, RepK.nil⟩⟩
theorem sim_make {K : Frg} {c : Str} {t : TA} (ha : SimA K W t dr) : SimE K W (tMakeD K W c n F t) (dMake c n F dr) := by
  intro φ M H σ r Q S E h
  refine ha φ M H σ r _ S E (Okd.bind h fun ds M1 xs φ1 H1 _ g1 S1 r1 h1 => ?_)
  cases hn : Nat.beq (ds.length + 1) n with
  | false => rw [hn] at h1; exact h1.elim
  | true =>
    rw [hn] at h1
    dsimp only at h1
    intro x dx n1 n2 ne
    obtain ⟨g, S2⟩ := sto_make (c := c) S1 n1 n2 ne
    refine ⟨_, _, .obj M1.length :: ds, Nat.eq_of_beq_eq_true hn, S2, RepL.cons (rep_obj_new S1.len) (RepL.grow g _ _ r1), ?_⟩
    refine Okd.bind (Okd.grow g h1) fun v M2 u φ2 H2 _ g2 S3 r3 h3 => ?_
    cases v with
    | non =>
      have h3 : Okd K φ2 H2 (RE K) (.ok (.obj M1.length) M2) Q (fun c d H' => W c d σ H') := h3
      exact ⟨rep_non_inv r3, h3.here S3 (Rep.grow g2 _ _ (rep_obj_new S1.len))⟩
    | _ => exact h3.elim
theorem de_make (G : MakeOk X.prog X.w X.K X.mg X.base k x n F) (hr : Room (k + 1) X.A) (tk : Takes X W) (hg : Gl X x) (ha : DAx X W (e :: es) dr)
    (hdb : (x == ("__debug__" : Str)) = false := by decide) (he : starEach (e :: es) X.env = (false, eval e X.env) :: starEach es X.env := by rfl) (hpl : (backTo pos (starEach es X.env)).any (·.1) = false := by rfl) :
    DEx X W (.Call (.Name x p) (e :: es) [] pos) (dMake x n F dr) := by
  obtain ⟨f, fd, ps, hm, M, hb, hF⟩ := G.ex
  obtain ⟨t, p1, s1⟩ := ha
  refine ⟨tMakeD X.K W x n F t, ⟨fun pins s σ H Q I h => ?_⟩, sim_make s1⟩
  refine wpAny_Call_Name_kw (ld_glob I hg hm ?_ hdb)
  refine PySem.W.callWith_K (h₀ := X.base) I.ok.mod.kin M.kp (thn (p1.run pos pins s σ H _ I h) fun us s1 ⟨vs, H1, I1, r, q⟩ => ⟨I1.kIn, ?_⟩) he hpl
  exact run_makeS M hF hr hb (passAt tk σ) I1 r q
theorem de_make0 (G : MakeOk X.prog X.w X.K X.mg X.base k x n F) (hr : Room (k + 1) X.A) (tk : Takes X W) (hg : Gl X x) (hdb : (x == ("__debug__" : Str)) = false := by decide) : DEx X W (.Call (.Name x p) [] [] pos) (dMake x n F dNil) := by
  obtain ⟨f, fd, ps, hm, M, hb, hF⟩ := G.ex
  refine ⟨tMakeD X.K W x n F tNil, ⟨fun pins s σ H Q I h => ?_⟩, sim_make (fun φ M H σ r Q S E h => h.here S RepL.nil)⟩
  refine wpAny_Call_Name_kw (ld_glob I hg hm ?_ hdb)
  exact PySem.W.callWith_K0 I.kIn M.kp (run_makeS (us := []) M hF hr hb (passAt tk σ) I .nil h)
end
/-! ### o.m(e, ..) -/
structure MethOk (P : Program) (w : World) (K : Frg) (mg : Str → Option Value) (base : Heap) (k : Nat) (c m : Str) (n : Nat) (F : FN) : Prop where
  ex : ∃ f fd ps, Cls K (He.ga K c) ∧ Meth K (He.ga K c) m f ∧ Binds K fd ps [] ∧ FnOk P w K mg base (L2.CX P w) k f fd ps (SpD K n F)
/-- by the object's class: how many parameters (self too), what it does -/
abbrev MTab := Str → Option (Nat × FN)
def clsOf (M : Mem) : D → Option (Str × List (Str × D))
  | .obj n => (match M[n]? with
    | some (.ins c fs) => some (c, fs)
    | _ => none)
  | _ => none
def dMeth (m : Str) (tab : MTab) (do_ : DE) (da : DA) : DE := fun r M => (do_ r M).bind fun o M1 => match clsOf M1 o with
  | some (c, fs) => (match tab c, fs.lookup m with
    | some (n, F), none => (da r M1).bind fun ds M2 => (match Nat.beq (ds.length + 1) n with
      | true => F (o :: ds) M2
      | false => .no)
    | _, _ => .no)
  | none => .no
def tMethX (K : Frg) (W : WX) (m : Str) (tab : MTab) (to : TE) (t : TA) : TE := fun σ H Q => to σ H fun x H1 => ∃ c n F a dx fs, tab c = some (n, F) ∧ x = .ref a ∧ H1 a = some (.ins (He.ga K c) dx fs) ∧ fs.lookup m = none ∧ t σ H1 fun vs H2 => SpD K n F (x :: vs) H2 Q (WE W σ)
theorem clsOf_inv {M : Mem} {o : D} {c : Str} {fs : List (Str × D)} (h : clsOf M o = some (c, fs)) : ∃ n, o = .obj n ∧ M[n]? = some (.ins c fs) := by
  unfold clsOf at h
  split at h
  · rename_i n
    split at h
    · rename_i c' fs' e
      cases h
      exact ⟨n, rfl, e⟩
    · cases h
  · cases h
section
variable {X : Cx} {W : WX} {p pos apos : Pos} {m : Str} {o e : Expr} {es : List Expr} {do_ : DE} {dr : DA} {k : Nat} {tab : MTab}
theorem sim_meth {K : Frg} {to : TE} {t : TA} (ho : SimE K W to do_) (ha : SimA K W t dr) : SimE K W (tMethX K W m tab to t) (dMeth m tab do_ dr) := by
  intro φ M H σ r Q S E h
  refine ho φ M H σ r _ S E (Okd.bind h fun x M1 v φ1 H1 _ g1 S1 r1 h1 => ?_)
  cases q1 : clsOf M1 x with
  | none => rw [q1] at h1; exact h1.elim
  | some cf =>
    obtain ⟨c, fs⟩ := cf
    rw [q1] at h1
    dsimp only at h1
    obtain ⟨n, rfl, e1⟩ := clsOf_inv q1
    cases q2 : tab c with
    | none => rw [q2] at h1; exact h1.elim
    | some nF =>
      obtain ⟨k, F⟩ := nF
      cases q3 : fs.lookup m with
      | some _ => rw [q2, q3] at h1; exact h1.elim
      | none =>
        rw [q2, q3] at h1
        dsimp only at h1
        have r1' := r1
        unfold RE Rep at r1'
        obtain ⟨a, ha2, rfl⟩ := r1'
        obtain ⟨dx, fv, h2, h3⟩ := S1.ob n a _ ha2 e1
        refine ⟨c, k, F, a, dx, fv, q2, rfl, h2, h3.lookup.1 q3, ?_⟩
        refine ha φ1 M1 H1 σ r _ S1 (E.grow g1) (Okd.bind h1 fun ds M2 vs φ2 H2 _ g2 S2 r2 h4 => ?_)
        cases hn : Nat.beq (ds.length + 1) k with
        | false => rw [hn] at h4; exact h4.elim
        | true =>
          rw [hn] at h4
          exact ⟨φ2, M2, .obj n :: ds, Nat.eq_of_beq_eq_true hn, S2, RepL.cons (Rep.grow g2 _ _ r1) r2, h4⟩
theorem de_meth {pl : Sem Bool} (ho : DEx X W o do_) (G : ∀ c n F, tab c = some (n, F) → MethOk X.prog X.w X.K X.mg X.base k c m n F) (hr : Room k X.A) (tk : Takes X W) (ha : DAx X W (e :: es) dr)
    (hst : starEach (e :: es) X.env = (false, eval e X.env) :: starEach es X.env := by rfl) (hpl : (backTo pos (starEach es X.env)).any (·.1) = false := by rfl)
    (ht : eval (.Call (.Attribute o m apos) (e :: es) [] pos) X.env = (do
      let ov ← eval o X.env
      standAt apos.atName
      let (f, first) ← holding [ov] (getMethod ov m pl)
      callWith pos f first (backTo pos (starEach (e :: es) X.env)) (backToKw pos (keywordEach [] X.env))) := by rfl) :
    DEx X W (.Call (.Attribute o m apos) (e :: es) [] pos) (dMeth m tab do_ dr) := by
  obtain ⟨to, p1, s1⟩ := ho
  obtain ⟨t, p2, s2⟩ := ha
  refine ⟨tMethX X.K W m tab to t, ⟨fun pins s σ H Q I h => ?_⟩, sim_meth s1 s2⟩
  refine PySem.W.methodCall_KW (pl := pl) (thn (p1.run pins s σ H _ I h) fun u s1 ⟨x, H1, I1, rx, c, n, F, a, dx, fs, et, ex, ea, l, q⟩ => ?_) ht
  subst ex
  obtain rfl : u = Value.ref a := rx
  obtain ⟨f, fd, ps, cl, hm, hb, hF⟩ := (G c n F et).ex
  refine getmeth_ok I1 ea cl hm l ?_
  refine PySem.W.callWith_K (first := [.ref a]) (h₀ := X.base) I.ok.mod.kin hm.kp (thn (p2.run pos pins s1 σ H1 _ I1 q) fun us s2 ⟨vs, H2, I2, r, q2⟩ => ⟨I2.kIn, ?_⟩) hst hpl
  exact run_fnS (us := .ref a :: us) (vs := .ref a :: vs) hF hr hb (passAt tk σ) I2 (.cons rfl r) q2
theorem de_meth0 {pl : Sem Bool} (ho : DEx X W o do_) (G : ∀ c n F, tab c = some (n, F) → MethOk X.prog X.w X.K X.mg X.base k c m n F) (hr : Room k X.A) (tk : Takes X W)
    (ht : eval (.Call (.Attribute o m apos) [] [] pos) X.env = (do
      let ov ← eval o X.env
      standAt apos.atName
      let (f, first) ← holding [ov] (getMethod ov m pl)
      callWith pos f first (backTo pos (starEach [] X.env)) (backToKw pos (keywordEach [] X.env))) := by rfl) :
    DEx X W (.Call (.Attribute o m apos) [] [] pos) (dMeth m tab do_ dNil) := by
  obtain ⟨to, p1, s1⟩ := ho
  refine ⟨tMethX X.K W m tab to tNil, ⟨fun pins s σ H Q I h => ?_⟩, sim_meth s1 (fun φ M H σ r Q S E h => h.here S RepL.nil)⟩
  refine PySem.W.methodCall_KW (pl := pl) (thn (p1.run pins s σ H _ I h) fun u s1 ⟨x, H1, I1, rx, c, n, F, a, dx, fs, et, ex, ea, l, q⟩ => ?_) ht
  subst ex
  obtain rfl : u = Value.ref a := rx
  obtain ⟨f, fd, ps, cl, hm, hb, hF⟩ := (G c n F et).ex
  refine getmeth_ok I1 ea cl hm l ?_
  exact PySem.W.callWith_K0 (first := [.ref a]) I1.kIn hm.kp (run_fnS (us := [.ref a]) (vs := [.ref a]) hF hr hb (passAt tk σ) I1 (.cons rfl .nil) q)
end
end LF
set_option Elab.async false
set_option linter.all false
set_option maxRecDepth 100000
set_option maxHeartbeats 4000000
/-! LF20: errors with an own __init__ that stores one field. -/
namespace LF
open PySem PySem.Spec PyProof.Rows L2
/-- what the top says of the class above whose __init__ is called by name -/
structure BaseC (K : Frg) (B : Addr) : Prop where
  sg : PySem.W.specialIn K (.ref B) "__getattribute__" = some (some (.builtin "type.__getattribute__"))
  rd : PySem.W.readsIn K B (.type "type") = true
  fc : PySem.W.findCls K (.ref B) (.type "type") "__init__" = some (.val (.builtin "ValueError.__init__"))
section
variable {X : Cx} {b : Str} {e : Expr} {es : List Expr} {ta : TA} {p1 p2 pos : Pos}
theorem pe_ownInit {pl : Sem Bool} (T : BaseC X.K (He.ga X.K b)) (hg : Gl X b) (hm : X.mg b = some (.ref (He.ga X.K b))) (ha : PA X (e :: es) ta)
    (hc : eval (.Call (.Attribute (.Name b p1) "__init__" p2) (e :: es) [] pos) X.env = (do
      let ov ← eval (.Name b p1) X.env
      standAt p2.atName
      let (f, first) ← holding [ov] (getMethod ov "__init__" pl)
      callWith pos f first (backTo pos (starEach (e :: es) X.env)) (backToKw pos (keywordEach [] X.env))) := by rfl)
    (hdb : (b == ("__debug__" : Str)) = false := by decide) (he : starEach (e :: es) X.env = (false, eval e X.env) :: starEach es X.env := by rfl) (hpl : (backTo pos (starEach es X.env)).any (·.1) = false := by rfl) :
    PE X (.Call (.Attribute (.Name b p1) "__init__" p2) (e :: es) [] pos) (tVeI X.K ta) := by
  refine ⟨fun pins s σ H Q I h => ?_⟩
  refine PySem.W.methodCall_KW (ld_glob I hg hm ?_ hdb) hc
  refine PySem.W.method_cls I.kIn T.sg (PySem.W.cls_value I.kIn T.rd T.fc (by decide +kernel) ?_)
  show wpAny _ _ (callWith pos (Value.builtin "ValueError.__init__") [] (backTo pos (starEach (e :: es) X.env)) []) _ _ _
  refine PyProof.Rows.callWith_method1 (thn (ha.run pos pins _ σ H _ (I.tok _) h) fun us s1 ⟨vs, H1, I1, r1, a, C, ws, ev, hl, T, ea, q⟩ => ?_) he hpl
  subst ev
  cases r1 with
  | @cons _ u0 _ ur ra rr =>
    obtain rfl : u0 = Value.ref a := ra
    have hz : ur.length ≤ sizeLine := by
      have := Paired.length rr
      rw [sizeLine_eq]
      omega
    exact oinit_ok T I1 ea hz fun s2 J => ⟨.non, H1, J, rfl, q⟩
end
/-- what such an __init__ does: one field stored -/
def spExi (K : Frg) (C : Addr) (fld : Str) : Sp := fun vs H Q _ => ∃ (a : Addr) (y : V), vs = [.ref a, y] ∧ H a = some (exo a C none) ∧ ∀ dx, H dx = none → dx ≠ a → Q .non (upd (upd H dx (exd dx [(fld, y)])) a (exo a C (some dx)))
def tExi (K : Frg) (fld msg : Str) : TS := tSeq (tDrop (tVeI K (tCons (tVar 0) (tCons (tC (.str msg)) tNil)))) (tOst K fld (tVar 0) (tVar 1))
theorem exi_pure {K : Frg} {C : Addr} {fld msg : Str} {N : List Str} (hN : N.length = 2) (T : OexC K C) (hf : PySem.W.findIn K (.ref C) fld = some none) (vs : List V) (H : Hp) (Q : VK) (E : XK) (h : spExi K C fld vs H Q E) : tExi K fld msg { nx := fun _ H' => Q .non H', rt := Q } (L2.start N vs) H := by
  obtain ⟨a, y, rfl, ea, q⟩ := h
  have e : L2.start N [.ref a, y] = [some (.ref a), some y] := by
    unfold L2.start
    rw [hN]
    rfl
  rw [e]
  refine ⟨_, rfl, a, C, [.str msg], rfl, by simp, T, ea, ?_⟩
  exact ⟨y, rfl, _, rfl, a, C, rfl, T, hf, .inl ⟨ea, fun dx n ne => q dx n ne⟩⟩
/-- such a class -/
structure ExiOk (P : Program) (w : World) (K : Frg) (mg : Str → Option Value) (base : Heap) (k : Nat) (c fld : Str) : Prop where
  ex : ∃ f fd ps, mg c = some (.ref (He.ga K c)) ∧ OexC K (He.ga K c) ∧ PySem.W.findIn K (.ref (He.ga K c)) "__init__" = some (some (.ref f)) ∧ PySem.W.typeIn K (.ref f) = some (.type "function") ∧ Binds K fd ps [] ∧ (∃ u, Binds K fd ps [u] ∧ RelV .non u) ∧
    FnOk P w K mg base (L2.CX P w) k f fd ps (spExi K (He.ga K c) fld)
/-- the same without a default -/
structure Exi1 (P : Program) (w : World) (K : Frg) (mg : Str → Option Value) (base : Heap) (k : Nat) (c fld : Str) : Prop where
  ex : ∃ f fd ps, mg c = some (.ref (He.ga K c)) ∧ OexC K (He.ga K c) ∧ PySem.W.findIn K (.ref (He.ga K c)) "__init__" = some (some (.ref f)) ∧ PySem.W.typeIn K (.ref f) = some (.type "function") ∧ Binds K fd ps [] ∧
    FnOk P w K mg base (L2.CX P w) k f fd ps (spExi K (He.ga K c) fld)
theorem ExiOk.one {P : Program} {w : World} {K : Frg} {mg : Str → Option Value} {base : Heap} {k : Nat} {c fld : Str} (h : ExiOk P w K mg base k c fld) : Exi1 P w K mg base k c fld := by
  obtain ⟨f, fd, ps, h1, h2, h3, h4, h5, _, h7⟩ := h.ex
  exact ⟨f, fd, ps, h1, h2, h3, h4, h5, h7⟩
section
variable {X : Cx} {C fI : Addr} {k : Nat} {fd : FuncData} {ps : List Str} {fld : Str}
theorem pass_f : Passes (L2.CX X.prog X.w) X (fun _ _ _ => False) := fun _ _ _ _ _ _ _ ⟨_, _, _, _, _, _, _, _, _, _, _, _, z⟩ => z.elim
/-- the call makes it -/
theorem run_exi {ds : List Value} {dvs : List V} {pins : List (Addr × Obj)} {σ : L2.St} {H1 : Hp} {s1 : Shared} {us : List Value} {vs : List V} {y : V} {Q : XK} (T : OexC X.K C) (iC : PySem.W.findIn X.K (.ref C) "__init__" = some (some (.ref fI))) (tI : PySem.W.typeIn X.K (.ref fI) = some (.type "function"))
    (G : FnOk X.prog X.w X.K X.mg X.base (L2.CX X.prog X.w) k fI fd ps (spExi X.K C fld)) (hr : Room (k + 1) X.A) (hb : Binds X.K fd ps ds) (hd : Vals dvs ds) (I1 : Inv X pins σ H1 s1) (r1 : Vals vs us) (hy : vs ++ dvs = [y]) (hz : us.length ≤ 1)
    (q : ∀ d, H1 d = none → Q (.ref C) (some d) (upd H1 d (.xd [(fld, y)]))) : wpAny (model X.prog X.w) X.A (PySem.call (.ref C) us) (MkP X pins σ Q) X.xe s1 := by
  obtain ⟨nm, qn, N, bs, bm, sn, sub, ab, col, dd, k0, k1, k2, k3, k5, hC, hbm⟩ := T.cls
  obtain ⟨hp, g, dr, tk, os⟩ := s1
  have big : hp.objs.size ≤ hp.objs.size + 1 := Nat.le_succ _
  have hn : H1 (hp.objs.size + 1) = none := I1.hok.fresh big
  have old : ∀ b o, hp.get? b = some o → ((hp.push (PySem.W.kdv_tup us)).push (PySem.HandSPX.excO C hp.objs.size)).get? b = some o := fun b o e => Heap.get?_push_of_some _ (Heap.get?_push_of_some _ e)
  have new : ((hp.push (PySem.W.kdv_tup us)).push (PySem.HandSPX.excO C hp.objs.size)).get? (hp.objs.size + 1) = some (PySem.HandSPX.excO C hp.objs.size) := by heap_get
  have I2 : Inv X pins σ (upd H1 (hp.objs.size + 1) (exo (hp.objs.size + 1) C none)) ⟨(hp.push (PySem.W.kdv_tup us)).push (PySem.HandSPX.excO C hp.objs.size), g, dr, tk, os⟩ :=
    I1.laid (t' := tk) (a := hp.objs.size + 1) (o := exo (hp.objs.size + 1) C none) old big (exo_ok new)
  have r2 : Vals (V.ref (hp.objs.size + 1) :: (vs ++ dvs)) (Value.ref (hp.objs.size + 1) :: (us ++ ds)) := .cons rfl (r1.append hd)
  have sp1 : spExi X.K C fld (V.ref (hp.objs.size + 1) :: (vs ++ dvs)) (upd H1 (hp.objs.size + 1) (exo (hp.objs.size + 1) C none)) (fun v H2 => v = .non ∧ ∃ dx, H1 dx = none ∧ dx ≠ hp.objs.size + 1 ∧ H2 = upd (upd (upd H1 (hp.objs.size + 1) (exo (hp.objs.size + 1) C none)) dx (exd dx [(fld, y)])) (hp.objs.size + 1) (exo (hp.objs.size + 1) C (some dx))) (fun _ _ _ => False) := by
    rw [hy]
    refine ⟨_, y, rfl, upd_same, fun dx n ne => ⟨rfl, dx, ?_, ne, rfl⟩⟩
    rw [upd_ne ne] at n
    exact n
  have hl : (Value.ref (hp.objs.size + 1) :: us ++ ds).length = ps.length := by
    have e := r2.length
    rw [G.len _ _ _ _ sp1] at e
    exact e.symm
  have hus : us.length ≤ sizeLine := Nat.le_trans hz (by rw [sizeLine_eq]; decide)
  refine wpAny_call (PySem.HandSPX.call_own F.excBase_ValueError (fun Y => PySem.HandSPX.refsVE_contains Y bm hbm) (I1.kIn _ _ hC) (PySem.W.looks_findIn I1.kIn iC) (fun self => PySem.W.bind_fn I1.kIn self tI) hus
    (codeAny_mono (G.run _ X.stack _ _ ⟨Value.ref (hp.objs.size + 1) :: us, []⟩ (Value.ref (hp.objs.size + 1) :: (us ++ ds)) _ _ (fun _ _ _ => False) (hr.make C us []) (I2.env0.make C us []) (hb _ (Value.ref (hp.objs.size + 1) :: us) I2.kIn hl) r2 sp1) fun res s2 hq => ?_))
  cases res with
  | error er => exact pass_f pins σ _ _ er s2 I2 hq
  | ok fl =>
    cases fl with
    | ret u =>
      obtain ⟨v, H2, os2, bare2, un2, hok2, rv, ev, dx, hd1, ne, eH⟩ := hq
      subst ev
      obtain ⟨h2, g2, d2, t2, os'⟩ := s2
      have ea : H2 (hp.objs.size + 1) = some (exo (hp.objs.size + 1) C (some dx)) := by rw [eH, upd_same]
      have ed : H2 dx = some (exd dx [(fld, y)]) := by rw [eH, upd_ne ne, upd_same]
      have ef : upd (del H2 (hp.objs.size + 1)) dx (.xd [(fld, y)]) = upd H1 dx (.xd [(fld, y)]) := by
        funext b
        by_cases hb1 : b = dx
        · rw [hb1, upd_same, upd_same]
        · rw [upd_ne hb1, upd_ne hb1]
          by_cases hb2 : b = hp.objs.size + 1
          · rw [hb2, del_same, hn]
          · rw [del_ne hb2, eH, upd_ne hb2, upd_ne hb1, upd_ne hb2]
      exact ⟨rv, mk_end (raises_own T.exC T.tyC) I1 big old un2 hok2 os2 bare2 ea ed hd1 (by rw [ef]; exact q dx hd1)⟩
    | next => exact False.elim hq
    | brk => exact False.elim hq
    | cont => exact False.elim hq
end
def dRaiseI (c fld : Str) (de : DE) : DS := fun r M => (de r M).bindS r fun d M1 => .ex ⟨c, [fld], [d]⟩ r M1
theorem exi_end {K : Frg} {W : WX} {c fld : Str} {φ : Wd} {M : Mem} {H : Hp} {r : Env'} {σ : L2.St} {E : Ends} {d : D} {v : V} (S : Sto K φ M H) (er : EnvR K φ H r σ) (rv : Rep K φ H d v) (h : OkS K φ H (.ex ⟨c, [fld], [d]⟩ r M) E W) :
    ∀ a, H a = none → W (.ref (He.ga K c)) (some a) σ (upd H a (.xd [(fld, v)])) := fun a ha => by
  have g : Grow φ H φ (upd H a (.xd [(fld, v)])) := Grow.new ha
  exact h _ _ σ φ _ g (S.new ha) (er.grow g) ⟨rfl, [(fld, v)], .inr ⟨a, rfl, S.fresh ha, upd_same⟩, rfl, RepL.cons (Rep.grow g _ _ rv) .nil⟩
section
variable {X : Cx} {W : WX} {k : Nat} {x fld : Str} {p pos pos2 : Pos} {e : Expr} {de : DE}
/-- raise C(e) -/
theorem ds_raiseI (T : Exi1 X.prog X.w X.K X.mg X.base k x fld) (hc : X.calm = true) (hr : Room (k + 1) X.A) (tk : Takes X W) (hg : Gl X x) (he : DEx X W e de) (hdb : (x == ("__debug__" : Str)) = false := by decide)
    (h1 : starEach [e] X.env = (false, eval e X.env) :: starEach [] X.env := by rfl) (hpl : (backTo pos (starEach [] X.env)).any (·.1) = false := by rfl) :
    DSx X W (.Raise (some (.Call (.Name x p) [e] [] pos)) none pos2) (dRaiseI x fld de) := by
  obtain ⟨f, fd, ps, hm, T1, iC, tI, hb, hF⟩ := T.ex
  obtain ⟨te, p1, s1⟩ := he
  have pm : PMk X (.Call (.Name x p) [e] [] pos) (fun σ H Q => te σ H fun v H1 => ∀ d, H1 d = none → Q (.ref (He.ga X.K x)) (some d) (upd H1 d (.xd [(fld, v)]))) := by
    intro pins s σ H Q I h
    refine wpAny_Call_Name_kw (ld_glob I hg hm ?_ hdb)
    have h2 : tCons te tNil σ H (fun vs H1 => match vs with
      | [v] => ∀ d, H1 d = none → Q (.ref (He.ga X.K x)) (some d) (upd H1 d (.xd [(fld, v)]))
      | _ => False) := h
    refine PySem.W.callWith_K (h₀ := X.base) I.ok.mod.kin T1.kC (thn ((pa_cons p1 (pa_nil (X := X)) h1).run pos pins s σ H _ I h2) fun us s2 ⟨vs, H1, I1, r1, q1⟩ => ⟨I1.kIn, ?_⟩) h1 hpl
    cases r1 with
    | nil => exact q1.elim
    | cons r rr =>
      cases rr with
      | cons _ _ => exact q1.elim
      | nil => exact run_exi T1 iC tI hF hr hb .nil I1 (.cons r .nil) rfl (Nat.le_refl _) q1
  refine ⟨_, ps_raise hc tk pm, fun φ M H σ r E S er h => ?_⟩
  exact s1 φ M H σ r _ S er (OkS.bind er h fun d M1 v φ1 H1 _ g1 S1 rv h1 => exi_end S1 (er.grow g1) rv h1)
/-- raise C() where the parameter is None by itself -/
theorem ds_raiseI0 (T : ExiOk X.prog X.w X.K X.mg X.base k x fld) (hc : X.calm = true) (hr : Room (k + 1) X.A) (tk : Takes X W) (hg : Gl X x) (hdb : (x == ("__debug__" : Str)) = false := by decide) :
    DSx X W (.Raise (some (.Call (.Name x p) [] [] pos)) none pos2) (dRaiseI x fld (dC .non)) := by
  obtain ⟨f, fd, ps, hm, T1, iC, tI, _, ⟨u, hb, ru⟩, hF⟩ := T.ex
  have pm : PMk X (.Call (.Name x p) [] [] pos) (fun σ H Q => ∀ d, H d = none → Q (.ref (He.ga X.K x)) (some d) (upd H d (.xd [(fld, .non)]))) := by
    intro pins s σ H Q I h
    refine wpAny_Call_Name_kw (ld_glob I hg hm ?_ hdb)
    exact PySem.W.callWith_K0 I.kIn T1.kC (run_exi (us := []) T1 iC tI hF hr hb (.cons ru .nil) I .nil rfl (Nat.zero_le _) h)
  refine ⟨_, ps_raise hc tk pm, fun φ M H σ r E S er h => ?_⟩
  exact exi_end S er rep_non h
end
end LF
set_option Elab.async false
set_option linter.all false
set_option maxRecDepth 100000
set_option maxHeartbeats 4000000
/-! LF21: None, rows joined and repeated, rows' own methods, sorted, sum, list(), tuple(). -/
namespace LF
open PySem PySem.Spec PyProof.Rows L2
section
variable {K : Frg} {φ : Wd} {M : Mem} {H : Hp}
/-- a row that may change stands at its place just so -/
def lstAt (M : Mem) : D → Option (Nat × List D)
  | .obj n => (match M[n]? with
    | some (.lst ds) => some (n, ds)
    | _ => none)
  | _ => none
theorem lstAt_rep {d : D} {v : V} {n : Nat} {ds : List D} (S : Sto K φ M H) (r : Rep K φ H d v) (h : lstAt M d = some (n, ds)) : ∃ a xs, v = .ref a ∧ φ.ar[n]? = some a ∧ M[n]? = some (.lst ds) ∧ H a = some (.lst xs) ∧ RepL K φ H ds xs := by
  unfold lstAt at h
  split at h
  · rename_i k
    split at h
    · rename_i es e
      cases h
      unfold Rep at r
      obtain ⟨a, ha, rfl⟩ := r
      obtain ⟨xs, h1, h2⟩ := S.ob n a _ ha e
      exact ⟨a, xs, rfl, ha, e, h1, h2⟩
    · cases h
  · cases h
/-- a list's items -/
def lstOf (M : Mem) : D → Option (List D)
  | .lst ds => some ds
  | .obj n => (match M[n]? with
    | some (.lst ds) => some ds
    | some (.ro ds) => some ds
    | _ => none)
  | _ => none
theorem lstOf_rep {d : D} {v : V} {ds : List D} (S : Sto K φ M H) (r : Rep K φ H d v) (h : lstOf M d = some ds) : ∃ a xs, v = .ref a ∧ SqL K H a xs ∧ RepL K φ H ds xs := by
  unfold lstOf at h
  split at h
  · rename_i es
    cases h
    unfold Rep at r
    obtain ⟨a, xs, rfl, h1, h2⟩ := r
    exact ⟨a, xs, rfl, h1.sq, h2⟩
  · rename_i k
    unfold Rep at r
    obtain ⟨a, ha, rfl⟩ := r
    split at h
    · rename_i es e
      cases h
      obtain ⟨xs, h1, h2⟩ := S.ob k a _ ha e
      exact ⟨a, xs, rfl, .inl (.inl h1), h2⟩
    · rename_i es e
      cases h
      obtain ⟨xs, h1, h2⟩ := S.ob k a _ ha e
      exact ⟨a, xs, rfl, .inl h1, h2⟩
    · cases h
  · cases h
end
/-- a new row: one that stays, or one of the arena -/
def newL (ar : Bool) (ds : List D) (M : Mem) : Out D := match lineB ds.length, ar with
  | true, false => .ok (.lst ds) M
  | true, true => .ok (.obj M.length) (M ++ [.lst ds])
  | false, _ => .no
theorem newL_here {K : Frg} {φ : Wd} {M : Mem} {H : Hp} {Q : VK} {W : XK} {ar : Bool} {ds : List D} {xs : List V} (S : Sto K φ M H) (r : RepL K φ H ds xs) (h : Okd K φ H (RE K) (newL ar ds M) Q W) : xs.length ≤ sizeLine ∧ ∀ p, H p = none → Q (.ref p) (upd H p (.lst xs)) := by
  cases hl : lineB ds.length with
  | false => unfold newL at h; rw [hl] at h; exact h.elim
  | true =>
    refine ⟨by rw [r.len]; exact lineB_ok hl, fun p hp => ?_⟩
    cases ar with
    | false =>
      unfold newL at h
      rw [hl] at h
      exact h _ _ _ (Grow.new hp) (S.new hp) (rep_lst_new S hp r)
    | true =>
      unfold newL at h
      rw [hl] at h
      exact h _ _ _ (Grow.alloc hp) (S.alloc hp ⟨xs, upd_same, RepL.grow (Grow.alloc hp) _ _ r⟩) (rep_obj_new S.len)
/-! ### is None -/
def isN : D → Bool
  | .non => true
  | _ => false
theorem isN_rep {K : Frg} {φ : Wd} {H : Hp} {d : D} {v : V} (r : Rep K φ H d v) : decide (v = .non) = isN d := by
  cases d with
  | non => rw [rep_non_inv r]; rfl
  | bl b => rw [rep_bl_inv r]; rfl
  | int i => rw [rep_int_inv r]; rfl
  | str s => rw [rep_str_inv r]; rfl
  | tup ds => unfold Rep at r; obtain ⟨a, xs, rfl, _⟩ := r; rfl
  | lst ds => unfold Rep at r; obtain ⟨a, xs, rfl, _⟩ := r; rfl
  | dic ks ds => unfold Rep at r; obtain ⟨a, xs, rfl, _⟩ := r; rfl
  | obj n => unfold Rep at r; obtain ⟨a, _, rfl⟩ := r; rfl
  | exc c ns ds => unfold Rep at r; obtain ⟨a, dd, rfl, _⟩ := r; rfl
  | ins c ns ds => unfold Rep at r; obtain ⟨a, dx, fv, rfl, _⟩ := r; rfl
def fIsN (neg : Bool) : F2 := fun x y M => match y with
  | .non => .ok (.bl (if neg then !isN x else isN x)) M
  | _ => .no
theorem o_isN {K : Frg} : Op2 K (fun x y H Q => y = .non ∧ Q (.bl (decide (x = .non))) H) (fIsN false) := by
  intro φ M H x y a b Q W S ra rb h
  cases b with
  | non => exact ⟨rep_non_inv rb, by rw [isN_rep ra]; exact okB S h⟩
  | _ => exact h.elim
theorem o_notN {K : Frg} : Op2 K (fun x y H Q => y = .non ∧ Q (.bl (!decide (x = .non))) H) (fIsN true) := by
  intro φ M H x y a b Q W S ra rb h
  cases b with
  | non => exact ⟨rep_non_inv rb, by rw [isN_rep ra]; exact okB S h⟩
  | _ => exact h.elim
/-! ### in a row of plain things -/
def flatD : D → Bool
  | .non => true
  | .bl _ => true
  | .int _ => true
  | .str _ => true
  | _ => false
def toV : D → V
  | .bl b => .bl b
  | .int i => .int i
  | .str s => .str s
  | _ => .non
theorem flat_rep {K : Frg} {φ : Wd} {H : Hp} {d : D} {v : V} (r : Rep K φ H d v) (h : flatD d = true) : v = toV d ∧ flatV v = true := by
  cases d with
  | non => rw [rep_non_inv r]; exact ⟨rfl, rfl⟩
  | bl b => rw [rep_bl_inv r]; exact ⟨rfl, rfl⟩
  | int i => rw [rep_int_inv r]; exact ⟨rfl, rfl⟩
  | str s => rw [rep_str_inv r]; exact ⟨rfl, rfl⟩
  | _ => cases h
theorem flats_rep {K : Frg} {φ : Wd} {H : Hp} : ∀ {ds : List D} {xs : List V}, RepL K φ H ds xs → ds.all flatD = true → xs = ds.map toV ∧ xs.all flatV = true
  | [], xs, r, _ => by rw [r.inv0]; exact ⟨rfl, rfl⟩
  | d :: ds, xs, r, h => by
    obtain ⟨v, w, rfl, r1, r2⟩ := r.inv
    obtain ⟨h1, h2⟩ := Bool.and_eq_true_iff.mp (show (flatD d && ds.all flatD) = true from h)
    obtain ⟨e1, e2⟩ := flat_rep r1 h1
    obtain ⟨e3, e4⟩ := flats_rep r2 h2
    exact ⟨by rw [e1, e3]; rfl, by rw [List.all_cons, e2, e4]; rfl⟩
def fInL (neg : Bool) : F2 := fun x y M => match seqOf M y with
  | some ds => (match flatD x && ds.all flatD with
    | true => .ok (.bl (if neg then !inV (toV x) (ds.map toV) else inV (toV x) (ds.map toV))) M
    | false => .no)
  | none => .no
theorem o_inL {K : Frg} {neg : Bool} : Op2 K (rIn K neg) (fInL neg) := by
  intro φ M H x y a b Q W S ra rb h
  cases e : seqOf M b with
  | none => unfold fInL at h; rw [e] at h; exact h.elim
  | some ds =>
    unfold fInL at h
    rw [e] at h
    dsimp only at h
    cases q : flatD a && ds.all flatD with
    | false => rw [q] at h; exact h.elim
    | true =>
      rw [q] at h
      obtain ⟨q1, q2⟩ := Bool.and_eq_true_iff.mp q
      obtain ⟨p, xs, rfl, h1, h2⟩ := seq_rep S rb e
      obtain ⟨e1, e2⟩ := flat_rep ra q1
      obtain ⟨e3, e4⟩ := flats_rep h2 q2
      refine ⟨p, xs, rfl, h1, e2, e4, ?_⟩
      rw [e1, e3]
      exact okB S h
/-! ### + -/
def fCat (ar : Bool) : F2 := fun x y M => match x, y with
  | .int i, .int j => .ok (.int (i + j)) M
  | .str a, .str b => (match lineB (a.length + b.length) with
    | true => .ok (.str (a ++ b)) M
    | false => .no)
  | .tup a, .tup b => (match lineB (a.length + b.length) with
    | true => .ok (.tup (a ++ b)) M
    | false => .no)
  | x, y => (match lstAt M x, lstAt M y with
    | some (_, a), some (_, b) => newL ar (a ++ b) M
    | _, _ => .no)
def rCatX (K : Frg) : R2 := fun x y H Q => (rAddX x y H Q ∨ rCatA K x y H Q) ∨ rCat x y H Q
theorem opr_cat {X : Cx} : OpR X (binaryOp .Add) (rCatX X.K) := OpR.or (r := fun x y H Q => rAddX x y H Q ∨ rCatA X.K x y H Q) (OpR.or (r := rAddX) opr_add op_catA) op_cat
theorem cat_lst {K : Frg} {ar : Bool} {φ : Wd} {M : Mem} {H : Hp} {x y : V} {a b : D} {Q : VK} {W : XK} (S : Sto K φ M H) (ra : Rep K φ H a x) (rb : Rep K φ H b y) (h : Okd K φ H (RE K) (match lstAt M a, lstAt M b with
  | some (_, a), some (_, b) => newL ar (a ++ b) M
  | _, _ => .no) Q W) : rCat x y H Q := by
  cases e1 : lstAt M a with
  | none => rw [e1] at h; exact h.elim
  | some p =>
    cases e2 : lstAt M b with
    | none => rw [e1, e2] at h; exact h.elim
    | some q =>
      obtain ⟨n, ds⟩ := p
      obtain ⟨m, es⟩ := q
      rw [e1, e2] at h
      obtain ⟨l, xs, rfl, _, _, h1, r1⟩ := lstAt_rep S ra e1
      obtain ⟨k, ys, rfl, _, _, h2, r2⟩ := lstAt_rep S rb e2
      obtain ⟨z, w⟩ := newL_here S (r1.app r2) h
      rw [List.length_append] at z
      exact ⟨l, k, xs, ys, rfl, rfl, h1, h2, z, w⟩
theorem o_cat {K : Frg} {ar : Bool} : Op2 K (rCatX K) (fCat ar) := by
  intro φ M H x y a b Q W S ra rb h
  cases a with
  | int i =>
    cases b with
    | int j => exact .inl (.inl (o_add φ M H x y (.int i) (.int j) Q W S ra rb h))
    | _ => exact .inr (cat_lst (ar := ar) S ra rb h)
  | str i =>
    cases b with
    | str j => exact .inl (.inl (o_add φ M H x y (.str i) (.str j) Q W S ra rb h))
    | _ => exact .inr (cat_lst (ar := ar) S ra rb h)
  | tup ds =>
    cases b with
    | tup es =>
      have h : Okd K φ H (RE K) (match lineB (ds.length + es.length) with
        | true => .ok (.tup (ds ++ es)) M
        | false => .no) Q W := h
      cases q : lineB (ds.length + es.length) with
      | false => rw [q] at h; exact h.elim
      | true =>
        rw [q] at h
        have ra' := ra
        have rb' := rb
        unfold Rep at ra rb
        obtain ⟨p, xs, rfl, h1, h2⟩ := ra
        obtain ⟨k, ys, rfl, h3, h4⟩ := rb
        refine .inl (.inr ⟨p, k, xs, ys, rfl, rfl, h1.sq, h3.sq, by rw [h2.len, h4.len]; exact lineB_ok q, fun e => ?_, fun _ e => ?_, fun _ _ z hz => ?_⟩)
        · have e2 : ds = [] := List.length_eq_zero_iff.mp (by rw [← h2.len, e]; rfl)
          subst e2
          exact Okd.here S rb' h
        · have e2 : es = [] := List.length_eq_zero_iff.mp (by rw [← h4.len, e]; rfl)
          subst e2
          rw [List.append_nil] at h
          exact Okd.here S ra' h
        · exact h _ _ _ (Grow.new hz) (S.new hz) (rep_tup_new S hz (h2.app h4))
    | _ => exact .inr (cat_lst (ar := ar) S ra rb h)
  | _ => exact .inr (cat_lst (ar := ar) S ra rb h)
/-! ### * -/
def fRep (ar : Bool) : F2 := fun x y M => match x, y with
  | .int i, .int j => (match small64 i || small64 j with
    | true => .ok (.int (i * j)) M
    | false => .no)
  | .str s, .int j => (match small62 j && lineB (s.length * j.toNat) with
    | true => .ok (.str (Txt.mul s j)) M
    | false => .no)
  | x, .int j => (match lstAt M x, small62 j with
    | some (_, ds), true => newL ar (List.replicate j.toNat ds).flatten M
    | _, _ => .no)
  | _, _ => .no
def rTxtMul : R2 := fun x y H Q => ∃ s j, x = .str s ∧ y = .int j ∧ (-(2 ^ 62) ≤ j ∧ j < 2 ^ 62) ∧ s.length * j.toNat ≤ 100000 ∧ Q (.str (Txt.mul s j)) H
theorem opr_txtMul {X : Cx} : OpR X (binaryOp .Mult) rTxtMul := by
  intro pins s σ H x y v u Q I rx ry h
  obtain ⟨z, j, rfl, rfl, ⟨j0, j1⟩, hl, q⟩ := h
  obtain ⟨t, rfl⟩ := rx
  obtain ⟨t', rfl⟩ := ry
  have a1 : ¬ j < -(2 ^ 63 : Int) := by omega
  have a2 : ¬ j ≥ 2 ^ 63 := by omega
  refine SB.mul ⟨by rw [decide_eq_false a1, decide_eq_false a2]; rfl, fun g1 g2 g3 => ?_, fun g1 g2 => ?_⟩ fun t' k => ⟨.str (Txt.mul z j), H, I.tok k, ⟨t', rfl⟩, q⟩
  · have jp : 0 < j := by omega
    have e : ((z.length : Int)) * j ≤ 100000 := by
      have : (j.toNat : Int) = j := Int.toNat_of_nonneg (by omega)
      rw [← this, ← Int.natCast_mul]
      omega
    have g4 : (2 ^ 63 - 1 : Int) / j < z.length := g3
    have g5 := Int.lt_mul_of_ediv_lt jp g4
    omega
  · unfold Builtin.Str.tooLong
    exact decide_eq_false (by rw [sizeLine_eq]; omega)
def rRepX (K : Frg) : R2 := fun x y H Q => ((∃ i j, x = .int i ∧ y = .int j ∧ CMul i j ∧ Q (.int (i * j)) H) ∨ rTxtMul x y H Q) ∨ rRep x y H Q
theorem opr_rep {X : Cx} : OpR X (binaryOp .Mult) (rRepX X.K) := OpR.or (r := fun x y H Q => (∃ i j, x = .int i ∧ y = .int j ∧ CMul i j ∧ Q (.int (i * j)) H) ∨ rTxtMul x y H Q) (OpR.or (r := fun x y H Q => ∃ i j, x = .int i ∧ y = .int j ∧ CMul i j ∧ Q (.int (i * j)) H) op_mul opr_txtMul) op_rep
theorem rep_flat {K : Frg} {φ : Wd} {H : Hp} {ds : List D} {xs : List V} (r : RepL K φ H ds xs) : ∀ n : Nat, RepL K φ H (List.replicate n ds).flatten (List.replicate n xs).flatten
  | 0 => .nil
  | n + 1 => by
    rw [List.replicate_succ, List.replicate_succ, List.flatten_cons, List.flatten_cons]
    exact r.app (rep_flat r n)
theorem rep_lst {K : Frg} {ar : Bool} {φ : Wd} {M : Mem} {H : Hp} {x y : V} {a : D} {j : Int} {Q : VK} {W : XK} (S : Sto K φ M H) (ra : Rep K φ H a x) (ey : y = .int j) (h : Okd K φ H (RE K) (match lstAt M a, small62 j with
  | some (_, ds), true => newL ar (List.replicate j.toNat ds).flatten M
  | _, _ => .no) Q W) : rRep x y H Q := by
  cases e1 : lstAt M a with
  | none => rw [e1] at h; exact h.elim
  | some p =>
    obtain ⟨n, ds⟩ := p
    cases e2 : small62 j with
    | false => rw [e1, e2] at h; exact h.elim
    | true =>
      rw [e1, e2] at h
      obtain ⟨l, xs, rfl, _, _, h1, r1⟩ := lstAt_rep S ra e1
      obtain ⟨z, w⟩ := newL_here S (rep_flat r1 j.toNat) h
      obtain ⟨b0, b1⟩ := small62_ok e2
      refine ⟨l, j, xs, rfl, ey, h1, by omega, by omega, ?_, w⟩
      have e : (List.replicate j.toNat xs).flatten.length = j.toNat * xs.length := by simp
      rw [e, Nat.mul_comm] at z
      exact z
theorem o_rep {K : Frg} {ar : Bool} : Op2 K (rRepX K) (fRep ar) := by
  intro φ M H x y a b Q W S ra rb h
  cases b with
  | int j =>
    have ey := rep_int_inv rb
    cases a with
    | int i => exact .inl (.inl (o_mul φ M H x y (.int i) (.int j) Q W S ra rb h))
    | str s =>
      have h : Okd K φ H (RE K) (match small62 j && lineB (s.length * j.toNat) with
        | true => .ok (.str (Txt.mul s j)) M
        | false => .no) Q W := h
      cases q : small62 j && lineB (s.length * j.toNat) with
      | false => rw [q] at h; exact h.elim
      | true =>
        rw [q] at h
        obtain ⟨q1, q2⟩ := Bool.and_eq_true_iff.mp q
        exact .inl (.inr ⟨s, j, rep_str_inv ra, ey, small62_ok q1, Nat.le_of_ble_eq_true q2, okT S h⟩)
    | _ => exact .inr (rep_lst (ar := ar) S ra ey h)
  | _ => cases a <;> exact h.elim
end LF
set_option Elab.async false
set_option linter.all false
set_option maxRecDepth 100000
set_option maxHeartbeats 4000000
/-! LF22: comprehensions whose list may change; sum, list(), tuple(), sorted; append, pop; == of rows that may change. -/
namespace LF
open PySem PySem.Spec PyProof.Rows L2
def dCompA (di : DI) (dg : DG) (dt : DT) (de : DE) (vs : List Nat) : DE := fun r M => (di r M).bind fun src M1 => (compL src.chk dg dt de (wipeD r vs) src.items [] M1).bind fun ys M2 => .ok (.obj M2.length) (M2 ++ [MO.lst ys])
theorem sim_compA {K : Frg} {W : WX} {wi : TI} {di : DI} {dg : DG} {dt : DT} {de : DE} {vs : List Nat} (hi : SimI K W wi di) : SimE K W (tLc wi (tDC K vs dg) (tDT K Wf dt) (tDE K Wf de) vs) (dCompA di dg dt de vs) := by
  intro φ M H σ r Q S E h
  refine hi φ M H σ r _ S E (Okd.bind h fun src M1 J φ1 H1 _ g1 S1 sv h1 => ?_)
  intro D hD
  have E1 := E.grow g1
  have Wk0 : Wk K φ1 H1 D (L2.wipe σ vs) (wipeD r vs) (φ1.lock D) M1 (upd H1 D (.lst [])) [] [] :=
    ⟨S1.lock hD, rfl, Grow.new hD, fun z => S1.mem z hD, upd_same, RepL.nil, Mo.lock hD, (E1.wipe vs).mo (Mo.lock hD)⟩
  refine ⟨fun i m H => m = src.items.length - i ∧ i ≤ src.items.length ∧ ∃ φ M acc xs, Wk K φ1 H1 D (L2.wipe σ vs) (wipeD r vs) φ M H acc xs ∧
    Okd K φ1 H1 (RE K) ((compL src.chk dg dt de (wipeD r vs) (src.items.drop i) acc M).bind fun ys M2 => .ok (.obj M2.length) (M2 ++ [MO.lst ys])) Q (fun c d H' => W c d σ H'), ⟨_, rfl, Nat.zero_le _, _, M1, [], [], Wk0, h1⟩, ?_⟩
  rintro i m H2 ⟨rfl, hi, φ2, M2, acc, xs, w, h2⟩
  by_cases hlt : i < src.items.length
  · have hd : src.items.drop i = src.items[i] :: src.items.drop (i + 1) := List.drop_eq_getElem_cons hlt
    rw [hd] at h2
    unfold compL at h2
    cases hc : src.chk M2 with
    | false => rw [hc] at h2; exact h2.elim
    | true =>
      rw [hc] at h2
      obtain ⟨_, sv2⟩ := sv i φ2 M2 H2 w.mo w.g.frz w.S hc
      obtain ⟨go, yl⟩ := sv2 src.items[i] (List.getElem?_eq_getElem hlt)
      refine .inr ⟨go, fun H' => ∃ φ M acc xs, Wk K φ1 H1 D (L2.wipe σ vs) (wipeD r vs) φ M H' acc xs ∧
        Okd K φ1 H1 (RE K) ((compL src.chk dg dt de (wipeD r vs) (src.items.drop (i + 1)) acc M).bind fun ys M2 => .ok (.obj M2.length) (M2 ++ [MO.lst ys])) Q (fun c d H' => W c d σ H'), fun H' n => ⟨_, by omega, rfl, hlt, n⟩, fun x H3 hy => ?_⟩
      obtain ⟨φ3, g3, S3, r3⟩ := yl x H3 hy
      -- a state that has grown
      have up : ∀ {φ4 : Wd} {H4 : Hp} {M4 : Mem}, Grow φ2 H2 φ4 H4 → Sto K φ4 M4 H4 → Wk K φ1 H1 D (L2.wipe σ vs) (wipeD r vs) φ4 M4 H4 acc xs := fun {φ4 H4 M4} g S4 =>
        ⟨S4, g.lk.trans w.lk, ⟨by
          obtain ⟨ψ, e, hψ⟩ := w.g.ext
          obtain ⟨χ, e2, hχ⟩ := g.ext
          refine ⟨ψ ++ χ, by show φ4.ar = _; rw [e2]; have e : φ2.ar = φ1.ar ++ ψ := e; rw [e, List.append_assoc], fun a ha => ?_⟩
          rcases List.mem_append.mp ha with q | q
          · exact hψ a q
          · exact w.g.dom a (hχ a q), rfl, fun a o h n => g.stay a o (w.g.stay a o h n) (by
            intro z
            obtain ⟨ψ, e, hψ⟩ := w.g.ext
            have e : φ2.ar = φ1.ar ++ ψ := e
            rw [e] at z
            rcases List.mem_append.mp z with q | q
            · exact n q
            · rw [hψ a q] at h; cases h), fun a h => w.g.dom a (g.dom a h), fun a o u h => g.frz a o u (w.g.frz a o u h)⟩,
          g.notin w.hD w.na, g.stay _ _ w.hD w.na, RepL.grow g _ _ w.r, w.mo.trans g.mo, w.E.grow g⟩
      refine ⟨φ3, M2, wipeD r vs, src.items[i], S3, w.E.grow g3, r3, ?_⟩
      cases q : dg src.items[i] (wipeD r vs) M2 with
      | ok r4 M4 =>
        rw [q] at h2
        dsimp only at h2
        intro σ4 φ4 H4 g4 S4 er4 w4
        refine ⟨w4.trans (wipe_idem _ _), φ4, M4, r4, S4, er4, ?_⟩
        cases q2 : dt r4 M4 with
        | ok b M5 =>
          rw [q2] at h2
          intro b' φ5 H5 g5 S5 e5
          have e5 : b' = b := e5
          subst e5
          cases b' with
          | false =>
            rw [if_neg Bool.false_ne_true]
            exact ⟨φ5, M5, acc, xs, up ((g3.trans g4).trans g5) S5, h2⟩
          | true =>
            rw [if_pos rfl]
            dsimp only at h2
            refine ⟨φ5, M5, r4, S5, er4.grow g5, ?_⟩
            cases q3 : de r4 M5 with
            | ok y M6 =>
              rw [q3] at h2
              dsimp only at h2
              intro v φ6 H6 g6 S6 r6
              have w6 := up (((g3.trans g4).trans g5).trans g6) S6
              cases q4 : lineB acc.length with
              | false => rw [q4] at h2; exact h2.elim
              | true =>
                rw [q4] at h2
                have hp : D ∈ φ6.lk := by rw [w6.lk]; exact List.mem_cons_self
                have re : Mo φ6 H6 φ6 (upd H6 D (.lst (xs ++ [v]))) := Mo.relock hp
                refine ⟨xs, w6.hD, by rw [w6.r.len]; exact lineB_lt q4, φ6, M6, acc ++ [y], xs ++ [v], ⟨w6.S.relock hp w6.na, w6.lk, ⟨w6.g.ext, rfl, fun a o h n => ?_, fun a h => ?_, fun a o u h => by rw [upd_ne (ne_of_none h hD)]; exact w6.g.frz a o u h⟩, w6.na, upd_same, (RepL.mo re _ _ w6.r).app (.cons (Rep.mo re _ _ r6) .nil), w6.mo.trans re, w6.E.mo re⟩, h2⟩
                · rw [upd_ne (ne_of_none h hD)]; exact w6.g.stay a o h n
                · by_cases z : a = D
                  · rw [z, upd_same] at h; cases h
                  · rw [upd_ne z] at h; exact w6.g.dom a h
            | _ => rw [q3] at h2; exact h2.elim
        | _ => rw [q2] at h2; exact h2.elim
      | _ => rw [q] at h2; exact h2.elim
  · have e : i = src.items.length := by omega
    subst e
    rw [List.drop_length] at h2
    unfold compL at h2
    cases hc : src.chk M2 with
    | false => rw [hc] at h2; exact h2.elim
    | true =>
      rw [hc] at h2
      refine .inl ⟨(sv _ φ2 M2 H2 w.mo w.g.frz w.S hc).1 rfl, ?_⟩
      have un : Mo φ2 H2 ⟨φ2.ar ++ [D], φ1.lk⟩ H2 := ⟨fun a u n e => ⟨⟨fun z => (List.mem_append.mp z).elim n.1 fun z => n.2 (by rw [w.lk, List.mem_singleton.mp z]; exact List.mem_cons_self), fun z => n.2 (by rw [w.lk]; exact List.mem_cons_of_mem _ z)⟩, e⟩,
        fun i a e => by
          show (φ2.ar ++ [D])[i]? = some a
          rw [List.getElem?_append_left (List.getElem?_eq_some_iff.mp e).1]
          exact e⟩
      have Su : Sto K ⟨φ2.ar ++ [D], φ1.lk⟩ (M2 ++ [.lst acc]) H2 := by
        refine ⟨by simp [w.S.len], ?_, fun a ha => w.S.lk a (by rw [w.lk]; exact List.mem_cons_of_mem _ ha), fun i a mo e1 e2 => ?_⟩
        · refine List.nodup_append.mpr ⟨w.S.nd, by simp, fun a ha b hb e => ?_⟩
          rw [List.mem_singleton.mp hb] at e
          exact w.na (e ▸ ha)
        · have e1 : (φ2.ar ++ [D])[i]? = some a := e1
          by_cases hi : i < φ2.ar.length
          · rw [List.getElem?_append_left hi] at e1
            rw [List.getElem?_append_left (by rw [← w.S.len]; exact hi)] at e2
            exact (w.S.ob i a mo e1 e2).mo un rfl
          · rw [List.getElem?_append_right (by omega)] at e1
            rw [List.getElem?_append_right (by rw [← w.S.len]; omega), ← w.S.len] at e2
            cases hk : i - φ2.ar.length with
            | zero =>
              rw [hk] at e1 e2
              simp at e1 e2
              subst e1; subst e2
              exact ⟨xs, w.hD, RepL.mo un _ _ w.r⟩
            | succ n => rw [hk] at e1; simp at e1
      have gf : Grow φ1 H1 ⟨φ2.ar ++ [D], φ1.lk⟩ H2 := by
        obtain ⟨ψ, e, hψ⟩ := w.g.ext
        have e : φ2.ar = φ1.ar ++ ψ := e
        refine ⟨⟨ψ ++ [D], by show φ2.ar ++ [D] = _; rw [e, List.append_assoc], fun a ha => ?_⟩, rfl, w.g.stay, w.g.dom, w.g.frz⟩
        rcases List.mem_append.mp ha with q | q
        · exact hψ a q
        · rw [List.mem_singleton.mp q]; exact hD
      refine h2 (.ref D) ⟨φ2.ar ++ [D], φ1.lk⟩ H2 gf Su ?_
      show Rep K _ _ _ _
      unfold Rep
      exact ⟨D, by show (φ2.ar ++ [D])[M2.length]? = some D; rw [← w.S.len]; simp, rfl⟩
section
variable {X : Cx} {W : WX} {pos : Pos}
theorem de_compA {elt tg iter : Expr} {ifs : List Expr} {scope : Scope} {own : List (Str × Nat)} {di : DI} {dg : DG} {dt : DT} {de : DE} (hc : X.calm = true) (hN : X.N.Nodup) (hi : DIx X W tg iter di) (ok : BlkOk X.N X.env.scope scope own)
    (hg : ∀ (s : Shared) (H : Hp) (C : Addr) (cl : List (Str × Addr)) (fp : List Addr), DCx (X.blk s H scope (compEnvC scope cl C X.env) fp) (own.map (·.2)) tg dg) (ht : ∀ (s : Shared) (H : Hp) (C : Addr) (cl : List (Str × Addr)) (fp : List Addr), DPx (X.blk s H scope (compEnvC scope cl C X.env) fp) Wf ifs dt)
    (he : ∀ (s : Shared) (H : Hp) (C : Addr) (cl : List (Str × Addr)) (fp : List Addr), DEx (X.blk s H scope (compEnvC scope cl C X.env) fp) Wf elt de) (hs : ∀ x, foldedSetIterable iter X.env x = pure x := by intro _; rfl) :
    DEx X W (.ListComp elt [⟨tg, iter, ifs, 0⟩] scope pos) (dCompA di dg dt de (own.map (·.2))) := by
  obtain ⟨_, p, s⟩ := hi
  exact ⟨_, pe_lc (g := tDC X.K (own.map (·.2)) dg) (tt := tDT X.K Wf dt) (te := tDE X.K Wf de) hc hN p ok (fun s H C cl fp => (hg s H C cl fp).pg) ht (fun s H C cl fp => (he s H C cl fp).pe) hs, sim_compA s⟩
theorem ds_setCompA {i : Nat} {y : Str} {py : Pos} {elt tg iter : Expr} {ifs : List Expr} {scope : Scope} {own : List (Str × Nat)} {spos : Pos} {di : DI} {dg : DG} {dt : DT} {de : DE} (hc : X.calm = true) (hN : X.N.Nodup) (hy : X.N[i]? = some y) (hyl : X.env.scope.names.lookup y = some .local)
    (hsw : swapsWith (.ListComp elt [⟨tg, iter, ifs, 0⟩] scope pos) (some (.Name y py)) spos.line X.env = pure true) (hi : DIx X W tg iter di) (ok : BlkOk X.N X.env.scope scope own)
    (hg : ∀ (s : Shared) (H : Hp) (C : Addr) (cl : List (Str × Addr)) (fp : List Addr), DCx (X.blk s H scope (compEnvC scope cl C X.env) fp) (own.map (·.2)) tg dg) (ht : ∀ (s : Shared) (H : Hp) (C : Addr) (cl : List (Str × Addr)) (fp : List Addr), DPx (X.blk s H scope (compEnvC scope cl C X.env) fp) Wf ifs dt)
    (he : ∀ (s : Shared) (H : Hp) (C : Addr) (cl : List (Str × Addr)) (fp : List Addr), DEx (X.blk s H scope (compEnvC scope cl C X.env) fp) Wf elt de) (hs : ∀ x, foldedSetIterable iter X.env x = pure x := by intro _; rfl) :
    DSx X W (.Assign [.Name y py] (.ListComp elt [⟨tg, iter, ifs, 0⟩] scope pos) spos) (dAsg (dCompA di dg dt de (own.map (·.2))) (gSlot i)) := by
  obtain ⟨_, p, s⟩ := hi
  exact ⟨_, ps_setLc (g := tDC X.K (own.map (·.2)) dg) (tt := tDT X.K Wf dt) (te := tDE X.K Wf de) hc hN hy hyl hsw p ok (fun s H C cl fp => (hg s H C cl fp).pg) ht (fun s H C cl fp => (he s H C cl fp).pe) hs, sim_asg (sim_compA s) sim_gName⟩
end
/-! ### sum, list(x), tuple(x) -/
def intsOf : List D → Option (List Int)
  | [] => some []
  | .int i :: r => (intsOf r).map (i :: ·)
  | _ :: _ => none
theorem ints_rep {K : Frg} {φ : Wd} {H : Hp} : ∀ {ds : List D} {xs : List V} {ns : List Int}, RepL K φ H ds xs → intsOf ds = some ns → xs = ns.map V.int
  | [], xs, ns, r, h => by cases h; exact r.inv0
  | d :: ds, xs, ns, r, h => by
    cases d with
    | int i =>
      obtain ⟨v, w, rfl, r1, r2⟩ := r.inv
      unfold intsOf at h
      cases e : intsOf ds with
      | none => rw [e] at h; cases h
      | some l =>
        rw [e] at h; cases h
        rw [List.map_cons, rep_int_inv r1, ints_rep r2 e]
    | _ => cases h
def on1 (f : D → Mem → Out D) : FN := fun ds M => match ds with
  | [d] => f d M
  | _ => .no
theorem on1_inv {K : Frg} {φ : Wd} {H : Hp} {Q : VK} {W : XK} {f : D → Mem → Out D} {ds : List D} {M : Mem} (h : Okd K φ H (RE K) (on1 f ds M) Q W) : ∃ d, ds = [d] ∧ Okd K φ H (RE K) (f d M) Q W := by
  unfold on1 at h
  split at h
  · rename_i d
    exact ⟨d, rfl, h⟩
  · exact h.elim
def fSum : FN := on1 fun d M => match (lstOf M d).bind intsOf with
  | some ns => .ok (.int ns.sum) M
  | none => .no
theorem o_sum {K : Frg} : OpN K (rSum K) fSum := by
  intro φ M H xs ds Q W S r h
  replace h := on1_inv h
  obtain ⟨d, rfl, h⟩ := h
  obtain ⟨v, w, rfl, r1, r2⟩ := r.inv
  rw [r2.inv0]
  cases e : lstOf M d with
  | none => rw [e] at h; exact h.elim
  | some es =>
    rw [e] at h
    dsimp only [Option.bind] at h
    cases e2 : intsOf es with
    | none => rw [e2] at h; exact h.elim
    | some ns =>
      rw [e2] at h
      obtain ⟨a, ys, rfl, h1, h2⟩ := lstOf_rep S r1 e
      rw [ints_rep h2 e2] at h1
      exact ⟨a, ns, rfl, h1, okI S h⟩
def fListOf (ar : Bool) : FN := on1 fun d M => match seqOf M d with
  | some es => newL ar es M
  | none => .no
theorem o_listOf {K : Frg} {ar : Bool} : OpN K (fun xs H Q => ∃ p ys, xs = [V.ref p] ∧ (SqL K H p ys ∨ SqT K H p ys) ∧ ∀ l, H l = none → Q (.ref l) (upd H l (.lst ys))) (fListOf ar) := by
  intro φ M H xs ds Q W S r h
  replace h := on1_inv h
  obtain ⟨d, rfl, h⟩ := h
  obtain ⟨v, w, rfl, r1, r2⟩ := r.inv
  rw [r2.inv0]
  cases e : seqOf M d with
  | none => rw [e] at h; exact h.elim
  | some es =>
    rw [e] at h
    obtain ⟨a, ys, rfl, h1, h2⟩ := seq_rep S r1 e
    exact ⟨a, ys, rfl, h1, (newL_here S h2 h).2⟩
def fTupOf : FN := on1 fun d M => match d with
  | .tup ds => .ok (.tup ds) M
  | d => (match lstOf M d with
    | some es => (match lineB es.length with
      | true => .ok (.tup es) M
      | false => .no)
    | none => .no)
theorem o_tupOf {K : Frg} : OpN K (fun xs H Q => ∃ p ys, xs = [V.ref p] ∧ ((SqL K H p ys ∧ ∀ l, H l = none → Q (.ref l) (upd H l (.tup ys))) ∨ (SqT K H p ys ∧ Q (.ref p) H))) fTupOf := by
  intro φ M H xs ds Q W S r h
  replace h := on1_inv h
  obtain ⟨d, rfl, h⟩ := h
  obtain ⟨v, w, rfl, r1, r2⟩ := r.inv
  rw [r2.inv0]
  have row : Okd K φ H (RE K) (match lstOf M d with
      | some es => (match lineB es.length with
        | true => .ok (.tup es) M
        | false => .no)
      | none => .no) Q W → ∃ p ys, [v] = [V.ref p] ∧ ((SqL K H p ys ∧ ∀ l, H l = none → Q (.ref l) (upd H l (.tup ys))) ∨ (SqT K H p ys ∧ Q (.ref p) H)) := fun h => by
    cases e : lstOf M d with
    | none => rw [e] at h; exact h.elim
    | some es =>
      rw [e] at h
      dsimp only at h
      cases e2 : lineB es.length with
      | false => rw [e2] at h; exact h.elim
      | true =>
        rw [e2] at h
        obtain ⟨a, ys, rfl, h1, h2⟩ := lstOf_rep S r1 e
        exact ⟨a, ys, rfl, .inl ⟨h1, fun p hp => h _ _ _ (Grow.new hp) (S.new hp) (rep_tup_new S hp h2)⟩⟩
  cases d with
  | tup es =>
    have r1' := r1
    unfold Rep at r1
    obtain ⟨a, ys, rfl, h1, h2⟩ := r1
    have h : Okd K φ H (RE K) (.ok (.tup es) M) Q W := h
    exact ⟨a, ys, rfl, .inr ⟨h1.sq, h.here S r1'⟩⟩
  | _ => exact row h
/-! ### sorted texts -/
def leS (a b : Str) : Bool := !strLt b a
theorem leS_tot (a b : Str) : (leS a b || leS b a) = true := by
  unfold leS strLt
  by_cases h : b.cps.toList < a.cps.toList
  · have h2 : ¬ a.cps.toList < b.cps.toList := fun z => List.lt_asymm h z
    simp [h2]
  · simp [h]
theorem leS_trans (a b c : Str) (h1 : leS a b = true) (h2 : leS b c = true) : leS a c = true := by
  unfold leS strLt at *
  simp only [Bool.not_eq_true', decide_eq_false_iff_not, List.not_lt] at *
  exact List.le_trans h1 h2
theorem leS_anti (a b : Str) (h1 : leS a b = true) (h2 : leS b a = true) : a = b := by
  unfold leS strLt at *
  simp only [Bool.not_eq_true', decide_eq_false_iff_not, List.not_lt] at *
  exact TL.ext_tl (List.le_antisymm h1 h2)
def sortS (xs : List Str) : List Str := xs.mergeSort leS
theorem rising_all : ∀ (r : List Str) (p : Str), risingS p r = true → (p :: r).Pairwise fun a b => leS a b = true
  | [], p, _ => by simp
  | x :: r, p, h => by
    unfold risingS at h
    obtain ⟨h1, h2⟩ := Bool.and_eq_true_iff.mp h
    have ih := rising_all r x h2
    have l1 : leS p x = true := by
      unfold leS strLt
      rw [ltCps_eq] at h1
      exact h1
    refine List.pairwise_cons.mpr ⟨fun y hy => ?_, ih⟩
    rcases List.mem_cons.mp hy with e | hy
    · rw [e]; exact l1
    · exact leS_trans _ _ _ l1 ((List.pairwise_cons.mp ih).1 y hy)
theorem sorted_all : ∀ (r : List Str), sortedS r = true → r.Pairwise fun a b => leS a b = true
  | [], _ => .nil
  | x :: r, h => rising_all r x h
theorem sort_one {ys xs : List Str} (p : ys.Perm xs) (h : sortedS ys = true) : ys = sortS xs := by
  have h1 := sorted_all ys h
  have h2 : (sortS xs).Pairwise fun a b => leS a b = true := List.pairwise_mergeSort (fun a b c => leS_trans a b c) leS_tot xs
  exact List.Perm.eq_of_pairwise (fun a b _ _ => leS_anti a b) h1 h2 (p.trans (List.mergeSort_perm xs leS).symm)
def keyStrs : List (Key × D) → Option (List Str)
  | [] => some []
  | (.inr s, _) :: r => (keyStrs r).map (s :: ·)
  | (.inl _, _) :: _ => none
theorem keyStrs_map : ∀ {kvs : List (Key × D)} {ks : List Str}, keyStrs kvs = some ks → kvs.map (·.1) = ks.map Sum.inr
  | [], ks, h => by cases h; rfl
  | (.inr s, d) :: r, ks, h => by
    unfold keyStrs at h
    cases e : keyStrs r with
    | none => rw [e] at h; cases h
    | some l =>
      rw [e] at h; cases h
      rw [List.map_cons, keyStrs_map e]
      rfl
  | (.inl _, _) :: _, _, h => by cases h
/-- texts in a list, a dict's keys: fewer than 64 -/
def textsOf (M : Mem) : D → Option (List Str)
  | .obj n => (match M[n]? with
    | some (.dic kvs) => keyStrs kvs
    | some (.lst ds) => strsOf ds
    | some (.ro ds) => strsOf ds
    | _ => none)
  | .lst ds => strsOf ds
  | _ => none
def fSorted (ar : Bool) : FN := on1 fun d M => match textsOf M d with
  | some ss => (match Nat.blt ss.length 64 with
    | true => newL ar ((sortS ss).map .str) M
    | false => .no)
  | none => .no
def rSortX (K : Frg) : List V → Hp → VK → Prop := fun vs H Q => rSortedS K vs H Q ∨ ∃ (a : Addr) (kvs : List (Key × V)) (ks : List Str), vs = [V.ref a] ∧ Rd H a (.dK kvs) ∧ kvs.map (·.1) = ks.map Sum.inr ∧ ks.length < 64 ∧
    ∀ ys p, ys.Perm ks → sortedS ys = true → H p = none → Q (.ref p) (upd H p (.lst (ys.map V.str)))
theorem c_sorted {X : Cx} (hc : X.calm = true) : CallR X (.builtin "sorted") (rSortX X.K) := CallR.or' cr_sortedS (call_sortedD hc)
theorem repL_strs {K : Frg} {φ : Wd} {H : Hp} : ∀ ss : List Str, RepL K φ H (ss.map D.str) (ss.map V.str)
  | [] => .nil
  | s :: ss => .cons rep_str (repL_strs ss)
theorem o_sorted {K : Frg} {ar : Bool} : OpN K (rSortX K) (fSorted ar) := by
  intro φ M H xs ds Q W S r h
  replace h := on1_inv h
  obtain ⟨d, rfl, h⟩ := h
  obtain ⟨v, w, rfl, r1, r2⟩ := r.inv
  rw [r2.inv0]
  cases e : textsOf M d with
  | none => rw [e] at h; exact h.elim
  | some ss =>
    rw [e] at h
    dsimp only at h
    cases e2 : Nat.blt ss.length 64 with
    | false => rw [e2] at h; exact h.elim
    | true =>
      rw [e2] at h
      have l64 : ss.length < 64 := Nat.le_of_ble_eq_true e2
      have q := (newL_here S (repL_strs (sortS ss)) h).2
      have row : ∀ (a : Addr) (ys : List V) (es : List D), SqL K H a ys → RepL K φ H es ys → strsOf es = some ss → v = .ref a → rSortX K [v] H Q := fun a ys es h1 h2 h3 ev => by
        rw [strs_rep h2 h3] at h1
        exact .inl ⟨a, ss, by rw [ev], h1, l64, fun zs p pm so hp => by rw [sort_one pm so]; exact q p hp⟩
      unfold textsOf at e
      split at e
      · rename_i n
        unfold Rep at r1
        obtain ⟨a, ha, rfl⟩ := r1
        split at e
        · rename_i kvs eM
          obtain ⟨kv, h1, h2⟩ := S.ob n a _ ha eM
          exact .inr ⟨a, kv, ss, rfl, .inl h1, by rw [h2.keys]; exact keyStrs_map e, l64, fun zs p pm so hp => by rw [sort_one pm so]; exact q p hp⟩
        · rename_i es eM
          obtain ⟨ys, h1, h2⟩ := S.ob n a _ ha eM
          exact row a ys es (.inl (.inl h1)) h2 e rfl
        · rename_i es eM
          obtain ⟨ys, h1, h2⟩ := S.ob n a _ ha eM
          exact row a ys es (.inl h1) h2 e rfl
        · cases e
      · rename_i es
        unfold Rep at r1
        obtain ⟨a, ys, rfl, h1, h2⟩ := r1
        exact row a ys es h1.sq h2 e rfl
      · cases e
end LF
set_option Elab.async false
set_option linter.all false
set_option maxRecDepth 100000
set_option maxHeartbeats 4000000
/-! LF23: append, pop; == of rows that may change; parameters with defaults; makings and methods by their bodies. -/
namespace LF
open PySem PySem.Spec PyProof.Rows L2
/-! ### l.append(e), l.pop(i) -/
def appAt (o y : D) (M : Mem) : Out D := match lstAt M o with
  | some (n, ds) => (match lineB ds.length with
    | true => .ok .non (M.set n (.lst (ds ++ [y])))
    | false => .no)
  | none => .no
def dAppend (do_ de : DE) : DE := fun r M => (do_ r M).bind fun o M1 => match lstAt M1 o with
  | some _ => (de r M1).bind fun y M2 => appAt o y M2
  | none => .no
def popAt (o i : D) (M : Mem) : Out D := match lstAt M o, i with
  | some (n, ds), .int i => (match small62 i, ixN ds.length i with
    | true, some k => (match ds[k]? with
      | some d => .ok d (M.set n (.lst (ds.eraseIdx k)))
      | none => .no)
    | _, _ => .no)
  | _, _ => .no
def dPopAt (do_ de : DE) : DE := fun r M => (do_ r M).bind fun o M1 => match lstAt M1 o with
  | some _ => (de r M1).bind fun y M2 => popAt o y M2
  | none => .no
theorem appAt_inv {K : Frg} {φ : Wd} {H : Hp} {Q : VK} {W : XK} {o y : D} {M : Mem} (h : Okd K φ H (RE K) (appAt o y M) Q W) : ∃ n ds, lstAt M o = some (n, ds) ∧ ds.length < sizeLine ∧ Okd K φ H (RE K) (.ok .non (M.set n (.lst (ds ++ [y])))) Q W := by
  unfold appAt at h
  split at h
  · rename_i n ds e
    split at h
    · rename_i q
      exact ⟨n, ds, e, lineB_lt q, h⟩
    · exact h.elim
  · exact h.elim
theorem popAt_inv {K : Frg} {φ : Wd} {H : Hp} {Q : VK} {W : XK} {o y : D} {M : Mem} (h : Okd K φ H (RE K) (popAt o y M) Q W) : ∃ n ds i k d, lstAt M o = some (n, ds) ∧ y = .int i ∧ small62 i = true ∧ ixN ds.length i = some k ∧ ds[k]? = some d ∧ Okd K φ H (RE K) (.ok d (M.set n (.lst (ds.eraseIdx k)))) Q W := by
  unfold popAt at h
  split at h
  · rename_i n ds i e
    split at h
    · rename_i k q1 q2
      split at h
      · rename_i d q3
        exact ⟨n, ds, i, k, d, e, rfl, q1, q2, q3, h⟩
      · exact h.elim
    · exact h.elim
  · exact h.elim
theorem repL_erase {K : Frg} {φ : Wd} {H : Hp} : ∀ {ds : List D} {vs : List V} (k : Nat), RepL K φ H ds vs → RepL K φ H (ds.eraseIdx k) (vs.eraseIdx k)
  | [], vs, k, h => by rw [h.inv0]; simp [RepL.nil]
  | d :: ds, vs, 0, h => by
    obtain ⟨v, w, rfl, _, h2⟩ := h.inv
    exact h2
  | d :: ds, vs, k + 1, h => by
    obtain ⟨v, w, rfl, h1, h2⟩ := h.inv
    exact .cons h1 (repL_erase k h2)
section
variable {X : Cx} {W : WX} {pos apos : Pos} {o e : Expr} {do_ de : DE}
theorem sim_append {K : Frg} {to : TE} {te : TE} (ho : SimE K W to do_) (he : SimE K W te de) : SimE K W (tBM K "list" rAppend to (tCons te tNil)) (dAppend do_ de) := by
  intro φ M H σ r Q S E h
  refine ho φ M H σ r _ S E (Okd.bind h fun x M1 v φ1 H1 _ g1 S1 r1 h1 => ?_)
  cases q1 : lstAt M1 x with
  | none => rw [q1] at h1; exact h1.elim
  | some p =>
    obtain ⟨n0, ds0⟩ := p
    rw [q1] at h1
    obtain ⟨a, xs, rfl, _, _, h2, _⟩ := lstAt_rep S1 r1 q1
    refine ⟨.inl ⟨rfl, xs, .inl (.inl h2)⟩, ?_⟩
    refine he φ1 M1 H1 σ r _ S1 (E.grow g1) (Okd.bind h1 fun y M2 u φ2 H2 _ g2 S2 r2 h4 => ?_)
    obtain ⟨n, ds, e2, z, h5⟩ := appAt_inv h4
    obtain ⟨b, ys, eb, ha, eM, h6, h7⟩ := lstAt_rep S2 (Rep.grow g2 _ _ r1) e2
    cases eb
    refine ⟨a, ys, u, rfl, rfl, h6, by rw [h7.len]; exact z, ?_⟩
    have gp : Grow φ2 H2 φ2 (upd H2 a (.lst (ys ++ [u]))) := Grow.put (List.mem_of_getElem? ha) (fun ob u z => by rw [h6] at z; cases z)
    exact h5 .non φ2 _ gp (S2.put ha ⟨_, upd_same, (RepL.grow gp _ _ h7).app (.cons (Rep.grow gp _ _ r2) .nil)⟩) rep_non
theorem sim_popAt {K : Frg} {to : TE} {te : TE} (ho : SimE K W to do_) (he : SimE K W te de) : SimE K W (tBM K "list" rPopAt to (tCons te tNil)) (dPopAt do_ de) := by
  intro φ M H σ r Q S E h
  refine ho φ M H σ r _ S E (Okd.bind h fun x M1 v φ1 H1 _ g1 S1 r1 h1 => ?_)
  cases q1 : lstAt M1 x with
  | none => rw [q1] at h1; exact h1.elim
  | some p =>
    obtain ⟨n0, ds0⟩ := p
    rw [q1] at h1
    obtain ⟨a, xs, rfl, _, _, h2, _⟩ := lstAt_rep S1 r1 q1
    refine ⟨.inl ⟨rfl, xs, .inl (.inl h2)⟩, ?_⟩
    refine he φ1 M1 H1 σ r _ S1 (E.grow g1) (Okd.bind h1 fun y M2 u φ2 H2 _ g2 S2 r2 h4 => ?_)
    obtain ⟨n, ds, i, k, d, e2, rfl, z1, z2, z3, h5⟩ := popAt_inv h4
    obtain ⟨b, ys, eb, ha, eM, h6, h7⟩ := lstAt_rep S2 (Rep.grow g2 _ _ r1) e2
    cases eb
    obtain ⟨w, w1, w2⟩ := h7.get z3
    obtain ⟨b0, b1⟩ := small62_ok z1
    refine ⟨a, ys, i, k, w, rfl, by rw [rep_int_inv r2], h6, by omega, by omega, by rw [h7.len]; exact (ixN_seq z2).1, w1, ?_⟩
    have gp : Grow φ2 H2 φ2 (upd H2 a (.lst (ys.eraseIdx k))) := Grow.put (List.mem_of_getElem? ha) (fun ob u z => by rw [h6] at z; cases z)
    exact h5 w φ2 _ gp (S2.put ha ⟨_, upd_same, RepL.grow gp _ _ (repL_erase k h7)⟩) (Rep.grow gp _ _ w2)
theorem de_append (ho : DEx X W o do_) (he : DEx X W e de) (h1 : starEach [e] X.env = (false, eval e X.env) :: starEach [] X.env := by rfl)
    (hbase : attributeBase o "append" X.env (eval o X.env) = eval o X.env := by rfl)
    (hfew : ((backTo pos (starEach [e] X.env)).all (fun x => !x.1) && (backToKw pos (keywordEach [] X.env)).all (fun x => x.1.isSome)
      && decide ([e].length + ([] : List Keyword).length + (if ([] : List Keyword).isEmpty then 0 else 1) < 30)) = true := by rfl)
    (hline : (apos.endLine == pos.line) = true := by rfl) (hpl : (backTo pos (starEach [] X.env)).any (·.1) = false := by rfl) : DEx X W (.Call (.Attribute o "append" apos) [e] [] pos) (dAppend do_ de) := by
  obtain ⟨to, p1, s1⟩ := ho
  obtain ⟨te, p2, s2⟩ := he
  exact ⟨_, pe_bm F.plainAttrs_list F.slot_list_append F.type_list_append mt_append p1 (pa_cons p2 pa_nil h1) hbase hfew hline h1 hpl, sim_append s1 s2⟩
theorem de_popAt (ho : DEx X W o do_) (he : DEx X W e de) (h1 : starEach [e] X.env = (false, eval e X.env) :: starEach [] X.env := by rfl)
    (hbase : attributeBase o "pop" X.env (eval o X.env) = eval o X.env := by rfl)
    (hfew : ((backTo pos (starEach [e] X.env)).all (fun x => !x.1) && (backToKw pos (keywordEach [] X.env)).all (fun x => x.1.isSome)
      && decide ([e].length + ([] : List Keyword).length + (if ([] : List Keyword).isEmpty then 0 else 1) < 30)) = true := by rfl)
    (hline : (apos.endLine == pos.line) = true := by rfl) (hpl : (backTo pos (starEach [] X.env)).any (·.1) = false := by rfl) : DEx X W (.Call (.Attribute o "pop" apos) [e] [] pos) (dPopAt do_ de) := by
  obtain ⟨to, p1, s1⟩ := ho
  obtain ⟨te, p2, s2⟩ := he
  exact ⟨_, pe_bm F.plainAttrs_list F.slot_list_pop F.type_list_pop mt_popAt p1 (pa_cons p2 pa_nil h1) hbase hfew hline h1 hpl, sim_popAt s1 s2⟩
end
/-! ### == of rows that may change -/
def rdD (M : Mem) (d : D) : D := match lstOf M d with
  | some ds => .lst ds
  | none => d
theorem rdD_dp {K : Frg} {φ : Wd} {M : Mem} {H : Hp} {d : D} {v : V} (S : Sto K φ M H) (r : Rep K φ H d v) (h : D.lay 64 (rdD M d) = true) : Dp K H v (D.pd (rdD M d)) := by
  unfold rdD at h ⊢
  cases q : lstOf M d with
  | none => rw [q] at h; exact rep_dp 64 d v h r
  | some ds =>
    rw [q] at h
    obtain ⟨a, xs, rfl, h1, h2⟩ := lstOf_rep S r q
    exact .lst h1 (repL_dp 63 ds xs (by simpa [D.lay] using h) h2)
def fEqM : F2 := fun x y M => fEq (rdD M x) (rdD M y) M
def fNeM : F2 := fun x y M => fNe (rdD M x) (rdD M y) M
theorem fEq_inv {K : Frg} {φ : Wd} {H : Hp} {Q : VK} {W : XK} {a b : D} {M : Mem} (h : Okd K φ H (RE K) (fEq a b M) Q W) : D.lay 64 a = true ∧ D.lay 64 b = true ∧ Okd K φ H (RE K) (.ok (.bl (D.eqb a b)) M) Q W := by
  unfold fEq at h
  cases q : D.lay 64 a && D.lay 64 b with
  | false => rw [q] at h; exact h.elim
  | true =>
    rw [q] at h
    obtain ⟨h1, h2⟩ := Bool.and_eq_true_iff.mp q
    exact ⟨h1, h2, h⟩
theorem fNe_inv {K : Frg} {φ : Wd} {H : Hp} {Q : VK} {W : XK} {a b : D} {M : Mem} (h : Okd K φ H (RE K) (fNe a b M) Q W) : D.lay 64 a = true ∧ D.lay 64 b = true ∧ Okd K φ H (RE K) (.ok (.bl (!D.eqb a b)) M) Q W := by
  unfold fNe at h
  cases q : D.lay 64 a && D.lay 64 b with
  | false => rw [q] at h; exact h.elim
  | true =>
    rw [q] at h
    obtain ⟨h1, h2⟩ := Bool.and_eq_true_iff.mp q
    exact ⟨h1, h2, h⟩
theorem o_eqM {K : Frg} : Op2 K (rEqD K) fEqM := by
  intro φ M H x y a b Q W S ra rb h
  obtain ⟨h1, h2, h3⟩ := fEq_inv h
  refine ⟨_, _, rdD_dp S ra h1, rdD_dp S rb h2, lay_shaped h1, lay_shaped h2, ?_⟩
  rw [eqb_pd 64 64 _ _ h1 h2]
  exact okB S h3
theorem o_neM {K : Frg} : Op2 K (rNeD K) fNeM := by
  intro φ M H x y a b Q W S ra rb h
  obtain ⟨h1, h2, h3⟩ := fNe_inv h
  refine ⟨_, _, rdD_dp S ra h1, rdD_dp S rb h2, lay_shaped h1, lay_shaped h2, ?_⟩
  rw [eqb_pd 64 64 _ _ h1 h2]
  exact okB S h3
/-! ### makings and methods by their bodies -/
section
variable {P : Program} {w : World} {K : Frg} {mg : Str → Option Value} {base : Heap} {c m x qual : Str} {params : Arguments} {body : List Stmt} {scope : Scope} {kws : List (Str × V)} {f : Addr} {fd : FuncData} {N ps : List Str} {k n : Nat} {b : DS}
theorem make_by (hm : mg c = some (.ref (He.ga K c))) (M : Mk K (He.ga K c) f) (G : FunD K x qual params body scope [] kws f fd) (S : FnScope N ps scope) (hn : ps.length = n)
    (hp : ∀ (kV doc pm : Value) (an : Option Addr) (cdv ct : Value) (us : List Value), us.length = ps.length → bindArgs (PySem.W.fnOf x qual params body scope .none kV doc pm an cdv ct) ⟨us, []⟩ = pure (ps.zip us))
    (hb : ∀ (cdv : Value) (A : Around) (outer : List Env) (s : Shared) (H : Hp) (E : XK), Room k (A.deeper (envOfC qual scope s.heap.objs.size f cdv)) → Takes (cxOf (L2.CX P w) P w K mg base N qual scope f cdv A outer s H E) (fun cls d _ H => E cls d H) →
      PassesOwn (model P w) (A.deeper (envOfC qual scope s.heap.objs.size f cdv)) (envOfC qual scope s.heap.objs.size f cdv) (cxOf (L2.CX P w) P w K mg base N qual scope f cdv A outer s H E).xe →
      DBx (cxOf (L2.CX P w) P w K mg base N qual scope f cdv A outer s H E) (fun cls d _ H => E cls d H) body b) : MakeOk P w K mg base (k + 1) c n (runB N.length b) := by
  subst hn
  exact ⟨f, fd, ps, hm, M, FunD.bindsN G hp, fn_by G S hb fun _ _ _ _ => rfl⟩
theorem meth_by (C : Cls K (He.ga K c)) (M : Meth K (He.ga K c) m f) (G : FunD K x qual params body scope [] kws f fd) (S : FnScope N ps scope) (hn : ps.length = n)
    (hp : ∀ (kV doc pm : Value) (an : Option Addr) (cdv ct : Value) (us : List Value), us.length = ps.length → bindArgs (PySem.W.fnOf x qual params body scope .none kV doc pm an cdv ct) ⟨us, []⟩ = pure (ps.zip us))
    (hb : ∀ (cdv : Value) (A : Around) (outer : List Env) (s : Shared) (H : Hp) (E : XK), Room k (A.deeper (envOfC qual scope s.heap.objs.size f cdv)) → Takes (cxOf (L2.CX P w) P w K mg base N qual scope f cdv A outer s H E) (fun cls d _ H => E cls d H) →
      PassesOwn (model P w) (A.deeper (envOfC qual scope s.heap.objs.size f cdv)) (envOfC qual scope s.heap.objs.size f cdv) (cxOf (L2.CX P w) P w K mg base N qual scope f cdv A outer s H E).xe →
      DBx (cxOf (L2.CX P w) P w K mg base N qual scope f cdv A outer s H E) (fun cls d _ H => E cls d H) body b) : MethOk P w K mg base (k + 1) c m n (runB N.length b) := by
  subst hn
  exact ⟨f, fd, ps, C, M, FunD.bindsN G hp, fn_by G S hb fun _ _ _ _ => rfl⟩
end
/-! ### parameters with defaults -/
structure DefOkD (P : Program) (w : World) (K : Frg) (mg : Str → Option Value) (base : Heap) (k : Nat) (x : Str) (n : Nat) (dd : List D) (F : FN) : Prop where
  ex : ∃ f fd ps ds dvs, mg x = some (.ref f) ∧ PySem.W.keepIn K (.ref f) = true ∧ Binds K fd ps ds ∧ Vals dvs ds ∧ (∀ φ H, RepL K φ H dd dvs) ∧ FnOk P w K mg base (L2.CX P w) k f fd ps (SpD K (n + dd.length) F)
def dCallD (n : Nat) (dd : List D) (F : FN) (da : DA) : DE := fun r M => (da r M).bind fun ds M1 => match Nat.beq ds.length n with
  | true => F (ds ++ dd) M1
  | false => .no
section
variable {X : Cx} {W : WX} {p pos : Pos} {x : Str} {e : Expr} {es : List Expr} {dr : DA} {k n : Nat} {dd : List D} {F : FN}
theorem de_callD (G : DefOkD X.prog X.w X.K X.mg X.base k x n dd F) (hr : Room k X.A) (tk : Takes X W) (hg : Gl X x) (ha : DAx X W (e :: es) dr)
    (hdb : (x == ("__debug__" : Str)) = false := by decide) (he : starEach (e :: es) X.env = (false, eval e X.env) :: starEach es X.env := by rfl) (hpl : (backTo pos (starEach es X.env)).any (·.1) = false := by rfl) :
    DEx X W (.Call (.Name x p) (e :: es) [] pos) (dCallD n dd F dr) := by
  obtain ⟨f, fd, ps, us, dvs, hm, kp, hb, hd, hrep, hF⟩ := G.ex
  obtain ⟨_, p1, s1⟩ := ha
  refine ⟨_, pe_callSD hF hr hg hm kp hb hd (fun σ => passAt tk σ) p1 hdb he hpl, fun φ M H σ r Q S E h => ?_⟩
  refine s1 φ M H σ r _ S E (Okd.bind h fun ds M1 xs φ1 H1 _ g1 S1 r1 h1 => ?_)
  cases hn : Nat.beq ds.length n with
  | false => rw [hn] at h1; exact h1.elim
  | true =>
    rw [hn] at h1
    have e2 := Nat.eq_of_beq_eq_true hn
    exact ⟨φ1, M1, ds ++ dd, by rw [List.length_append, e2], S1, RepL.app r1 (hrep φ1 H1), h1⟩
end
section
variable {P : Program} {w : World} {K : Frg} {mg : Str → Option Value} {base : Heap} {x qual : Str} {params : Arguments} {body : List Stmt} {scope : Scope} {f : Addr} {fd : FuncData} {N ps : List Str} {k n : Nat} {b : DS} {dvs : List V}
abbrev BodyOk (P : Program) (w : World) (K : Frg) (mg : Str → Option Value) (base : Heap) (qual : Str) (scope : Scope) (f : Addr) (N : List Str) (k : Nat) (body : List Stmt) (b : DS) : Prop := ∀ (cdv : Value) (A : Around) (outer : List Env) (s : Shared) (H : Hp) (E : XK), Room k (A.deeper (envOfC qual scope s.heap.objs.size f cdv)) → Takes (cxOf (L2.CX P w) P w K mg base N qual scope f cdv A outer s H E) (fun cls d _ H => E cls d H) →
      PassesOwn (model P w) (A.deeper (envOfC qual scope s.heap.objs.size f cdv)) (envOfC qual scope s.heap.objs.size f cdv) (cxOf (L2.CX P w) P w K mg base N qual scope f cdv A outer s H E).xe →
      DBx (cxOf (L2.CX P w) P w K mg base N qual scope f cdv A outer s H E) (fun cls d _ H => E cls d H) body b
/-- all parameters are written -/
theorem def_byA (hm : mg x = some (.ref f)) (G : FunD K x qual params body scope dvs [] f fd) (S : FnScope N ps scope) (hn : ps.length = n) (hd : dvs ≠ [])
    (h : ∀ (T : Addr) (kV doc pm : Value) (an : Option Addr) (cdv ct : Value) (us its : List Value), us.length = ps.length → its.length = dvs.length →
      ∃ k, bindArgs (PySem.W.fnOf x qual params body scope (.ref T) kV doc pm an cdv ct) ⟨us, []⟩ = seqItems? (.ref T) >>= k ∧ k (some its.toArray) = pure (ps.zip (us ++ its.drop dvs.length)))
    (hb : BodyOk P w K mg base qual scope f N k body b) : DefOk P w K mg base (k + 1) x n (runB N.length b) := by
  subst hn
  obtain ⟨ds, r, bi⟩ := FunD.binds1 G ps.length dvs.length hd (by omega) h
  rw [List.drop_length] at r
  cases r
  exact ⟨f, fd, ps, hm, G.kp, bi, fn_by G S hb fun _ _ _ _ => rfl⟩
/-- the last ones fill up -/
theorem def_byD {dd : List D} (hm : mg x = some (.ref f)) (G : FunD K x qual params body scope dvs [] f fd) (S : FnScope N ps scope) (hn : ps.length = n + dd.length) (hd : dvs ≠ []) (hl : dvs.length = dd.length) (hrep : ∀ φ H, RepL K φ H dd dvs)
    (h : ∀ (T : Addr) (kV doc pm : Value) (an : Option Addr) (cdv ct : Value) (us its : List Value), us.length = n → its.length = dvs.length →
      ∃ k, bindArgs (PySem.W.fnOf x qual params body scope (.ref T) kV doc pm an cdv ct) ⟨us, []⟩ = seqItems? (.ref T) >>= k ∧ k (some its.toArray) = pure (ps.zip (us ++ its.drop 0)))
    (hb : BodyOk P w K mg base qual scope f N k body b) : DefOkD P w K mg base (k + 1) x n dd (runB N.length b) := by
  obtain ⟨ds, r, bi⟩ := FunD.binds1 G n 0 hd (by omega) h
  rw [List.drop_zero] at r
  have q := fn_by (F := runB N.length b) G S hb fun _ _ _ _ => rfl
  rw [hn] at q
  exact ⟨f, fd, ps, ds, dvs, hm, G.kp, bi, r, hrep, q⟩
end
end LF
set_option Elab.async false
set_option linter.all false
set_option maxRecDepth 100000
set_option maxHeartbeats 4000000
/-! LF24: the head's checks for errors with __init__; tables of methods; rules to evaluate LF19 to LF23. -/
namespace LF
open PySem PySem.Spec PyProof.Rows L2
/-! ### from the head -/
def oexB (K : Frg) (C : Addr) (fld : Str) : Bool := (match K.lookup C with
  | some ⟨.type "type", _, .cls cd, sl⟩ => (match cd.mro, sl.toList with
    | .ref D :: bm, [_, _, _, _, some (.builtin n), _] => decide (D = C) && (decide (n = "ValueError.__new__") && (!cd.hasDel && (cd.hasDict && PySem.HandSPX.refsVE bm)))
    | _, _ => false)
  | _ => false) && (He.eqO (PySem.W.findIn K (.ref C) "__setattr__") (some (some (.builtin "object.__setattr__"))) && (decide (PySem.W.subIn K (.ref C) (.type "BaseException") = some true) && (decide (PySem.W.typeIn K (.ref C) = some (.type "type")) && (PySem.W.keepIn K (.ref C) &&
  He.eqO (PySem.W.findIn K (.ref C) fld) (some none)))))
theorem oexB_ok {K : Frg} {C : Addr} {fld : Str} (h : oexB K C fld = true) : OexC K C ∧ PySem.W.findIn K (.ref C) fld = some none := by
  obtain ⟨h1, h⟩ := He.ba h
  obtain ⟨h2, h⟩ := He.ba h
  obtain ⟨h3, h⟩ := He.ba h
  obtain ⟨h4, h⟩ := He.ba h
  obtain ⟨h5, h6⟩ := He.ba h
  refine ⟨⟨?_, He.eqO_ok h2, of_decide_eq_true h3, of_decide_eq_true h4, h5⟩, He.eqO_ok h6⟩
  split at h1
  · rename_i dd cd sl ho
    split at h1
    · rename_i D bm k0 k1 k2 k3 n k5 hm hs
      obtain ⟨g1, h1⟩ := He.ba h1
      obtain ⟨g2, h1⟩ := He.ba h1
      obtain ⟨g3, h1⟩ := He.ba h1
      obtain ⟨g4, g5⟩ := He.ba h1
      have g1 := of_decide_eq_true g1
      have g2 := of_decide_eq_true g2
      subst g1 g2
      obtain ⟨nm, bs, mro, ns, qn, hd, sn, sub, ab, col, del⟩ := cd
      dsimp only at hm g3 g4
      have g3 : del = false := by simpa using g3
      subst hm g3 g4
      have es : sl = #[k0, k1, k2, k3, some (.builtin "ValueError.__new__"), k5] := by
        apply Array.ext'
        rw [hs]
      subst es
      exact ⟨nm, qn, ns, bs, bm, sn, sub, ab, col, dd, k0, k1, k2, k3, k5, ho, g5⟩
    · cases h1
  · cases h1
def baseB (K : Frg) (B : Addr) : Bool := He.eqO (PySem.W.specialIn K (.ref B) "__getattribute__") (some (some (.builtin "type.__getattribute__"))) && (PySem.W.readsIn K B (.type "type") &&
  (match PySem.W.findCls K (.ref B) (.type "type") "__init__" with
    | some (.val (.builtin n)) => decide (n = "ValueError.__init__")
    | _ => false))
theorem baseB_ok {K : Frg} {B : Addr} (h : baseB K B = true) : BaseC K B := by
  obtain ⟨h1, h⟩ := He.ba h
  obtain ⟨h2, h3⟩ := He.ba h
  refine ⟨He.eqO_ok h1, h2, ?_⟩
  split at h3
  · rename_i n e
    rw [e, of_decide_eq_true h3]
  · cases h3
/-- an __init__ found by its class -/
def initB (K : Frg) (C : Addr) : Bool := He.eqO (PySem.W.findIn K (.ref C) "__init__") (some (some (.ref (He.ma K C "__init__")))) && decide (PySem.W.typeIn K (.ref (He.ma K C "__init__")) = some (.type "function"))
theorem initB_ok {K : Frg} {C : Addr} (h : initB K C = true) : PySem.W.findIn K (.ref C) "__init__" = some (some (.ref (He.ma K C "__init__"))) ∧ PySem.W.typeIn K (.ref (He.ma K C "__init__")) = some (.type "function") := by
  obtain ⟨h1, h2⟩ := He.ba h
  exact ⟨He.eqO_ok h1, of_decide_eq_true h2⟩
/-- classes of errors with an own __init__: the class, its field -/
def exiB (T : List (Str × Str)) (bases : List Str) (K : Frg) : Bool := (T.all fun p => oexB K (He.ga K p.1) p.2 && initB K (He.ga K p.1)) && bases.all fun b => baseB K (He.ga K b)
section
variable {P : Program} {w : World} {K : Frg} {mg : Str → Option Value} {base : Heap} {c fld msg qual : Str} {params : Arguments} {body : List Stmt} {scope : Scope} {fd : FuncData} {N ps : List Str} {k : Nat} {dvs : List V}
abbrev ExiBody (P : Program) (w : World) (K : Frg) (mg : Str → Option Value) (base : Heap) (qual : Str) (scope : Scope) (f : Addr) (N : List Str) (body : List Stmt) (t : TS) : Prop := ∀ (cdv : Value) (A : Around) (outer : List Env) (s : Shared) (H : Hp) (E : XK), PSs (cxOf (L2.CX P w) P w K mg base N qual scope f cdv A outer s H E) body t
theorem exi_fn (T : OexC K (He.ga K c)) (hf : PySem.W.findIn K (.ref (He.ga K c)) fld = some none) (G : FunD K "__init__" qual params body scope dvs [] (He.ma K (He.ga K c) "__init__") fd) (S : FnScope N ps scope) (hN : N.length = 2) (hn : ps.length = 2)
    (hb : ExiBody P w K mg base qual scope (He.ma K (He.ga K c) "__init__") N body (tExi K fld msg)) : FnOk P w K mg base (L2.CX P w) (k + 1) (He.ma K (He.ga K c) "__init__") fd ps (spExi K (He.ga K c) fld) := by
  refine G.ok S (fun vs H Q E h => ?_) (fun cdv A outer s H vs Q E hr h => ⟨_, hb cdv A outer s H E, exi_pure hN T hf vs H Q E h⟩)
  obtain ⟨a, y, rfl, _⟩ := h
  exact hn.symm
/-- the parameter is None by itself -/
theorem exi_byD (hm : mg c = some (.ref (He.ga K c))) (T : OexC K (He.ga K c)) (hf : PySem.W.findIn K (.ref (He.ga K c)) fld = some none) (hi : PySem.W.findIn K (.ref (He.ga K c)) "__init__" = some (some (.ref (He.ma K (He.ga K c) "__init__"))) ∧ PySem.W.typeIn K (.ref (He.ma K (He.ga K c) "__init__")) = some (.type "function"))
    (G : FunD K "__init__" qual params body scope [.non] [] (He.ma K (He.ga K c) "__init__") fd) (S : FnScope N ps scope) (hN : N.length = 2) (hn : ps.length = 2)
    (h1 : ∀ (T : Addr) (kV doc pm : Value) (an : Option Addr) (cdv ct : Value) (us its : List Value), us.length = ps.length → its.length = 1 →
      ∃ k, bindArgs (PySem.W.fnOf "__init__" qual params body scope (.ref T) kV doc pm an cdv ct) ⟨us, []⟩ = seqItems? (.ref T) >>= k ∧ k (some its.toArray) = pure (ps.zip (us ++ its.drop 1)))
    (h2 : ∀ (T : Addr) (kV doc pm : Value) (an : Option Addr) (cdv ct : Value) (us its : List Value), us.length = 1 → its.length = 1 →
      ∃ k, bindArgs (PySem.W.fnOf "__init__" qual params body scope (.ref T) kV doc pm an cdv ct) ⟨us, []⟩ = seqItems? (.ref T) >>= k ∧ k (some its.toArray) = pure (ps.zip (us ++ its.drop 0)))
    (hb : ExiBody P w K mg base qual scope (He.ma K (He.ga K c) "__init__") N body (tExi K fld msg)) : ExiOk P w K mg base (k + 1) c fld := by
  obtain ⟨ds, r, bi⟩ := FunD.binds1 G ps.length 1 (by simp) (by simp) h1
  cases r
  obtain ⟨ds2, r2, bi2⟩ := FunD.binds1 G 1 0 (by simp) (by simpa using hn.symm) h2
  cases r2 with
  | cons ru rr =>
    cases rr
    exact ⟨_, fd, ps, hm, T, hi.1, hi.2, bi, ⟨_, bi2, ru⟩, exi_fn T hf G S hN hn hb⟩
/-- it must be given -/
theorem exi_by (hm : mg c = some (.ref (He.ga K c))) (T : OexC K (He.ga K c)) (hf : PySem.W.findIn K (.ref (He.ga K c)) fld = some none) (hi : PySem.W.findIn K (.ref (He.ga K c)) "__init__" = some (some (.ref (He.ma K (He.ga K c) "__init__"))) ∧ PySem.W.typeIn K (.ref (He.ma K (He.ga K c) "__init__")) = some (.type "function"))
    (G : FunD K "__init__" qual params body scope [] [] (He.ma K (He.ga K c) "__init__") fd) (S : FnScope N ps scope) (hN : N.length = 2) (hn : ps.length = 2)
    (hp : ∀ (kV doc pm : Value) (an : Option Addr) (cdv ct : Value) (us : List Value), us.length = ps.length → bindArgs (PySem.W.fnOf "__init__" qual params body scope .none kV doc pm an cdv ct) ⟨us, []⟩ = pure (ps.zip us))
    (hb : ExiBody P w K mg base qual scope (He.ma K (He.ga K c) "__init__") N body (tExi K fld msg)) : Exi1 P w K mg base (k + 1) c fld :=
  ⟨_, fd, ps, hm, T, hi.1, hi.2, FunD.bindsN G hp, exi_fn T hf G S hN hn hb⟩
end
/-! ### tables of methods -/
def tabOf (l : List (Str × Nat × FN)) : MTab := fun c => (l.find? fun p => p.1 == c).map (·.2)
theorem tab_all {l : List (Str × Nat × FN)} {R : Str → Nat → FN → Prop} (h : ∀ p ∈ l, R p.1 p.2.1 p.2.2) : ∀ c n F, tabOf l c = some (n, F) → R c n F := by
  intro c n F e
  unfold tabOf at e
  cases q : l.find? fun p => p.1 == c with
  | none => rw [q] at e; cases e
  | some p =>
    rw [q] at e
    have e0 := List.find?_some (p := fun p : Str × Nat × FN => p.1 == c) q
    have e1 : p.1 = c := beq_iff_eq.mp e0
    have m := List.mem_of_find?_eq_some q
    obtain ⟨a, b, G⟩ := p
    cases e
    have e1 : a = c := e1
    subst e1
    exact h _ m
theorem FnOk.mono {P : Program} {w : World} {K : Frg} {mg : Str → Option Value} {base : Heap} {CX : CXT} {j k : Nat} {f : Addr} {fd : FuncData} {ps : List Str} {sp : Sp} (h : FnOk P w K mg base CX j f fd ps sp) (le : j ≤ k) : FnOk P w K mg base CX k f fd ps sp :=
  ⟨h.len, fun A outer s H args us vs Q E hr => h.run A outer s H args us vs Q E (hr.mono le)⟩
theorem MethOk.mono {P : Program} {w : World} {K : Frg} {mg : Str → Option Value} {base : Heap} {j k : Nat} {c m : Str} {n : Nat} {F : FN} (h : MethOk P w K mg base j c m n F) (le : j ≤ k) : MethOk P w K mg base k c m n F := by
  obtain ⟨f, fd, ps, h1, h2, h3, h4⟩ := h.ex
  exact ⟨f, fd, ps, h1, h2, h3, FnOk.mono h4 le⟩
def clsBody : Stmt → List Stmt
  | .ClassDef (body := b) .. => b
  | _ => []
def sub (s : Stmt) (j : Nat) : Stmt := (clsBody s).getD j (.Pass ⟨0, 0, 0, 0⟩)
/-! ### rules to evaluate -/
section
variable {r : Env'} {M : Mem} {i j : Int} {s t : Str} {x y d : D} {ds es : List D} {b : Bool} {e : Exn} {n : Nat} {c f : Str} {fs : List (Str × D)}
theorem fAttr_of {ok : Str → Bool} (hM : M[n]? = some (.ins c fs)) (h1 : ok c = true) (h2 : fs.lookup f = some d) : fAttr ok f (.obj n) M = .ok d M := by
  unfold fAttr
  simp only [hM, h1, h2]
  rfl
def attrPutK2 (ok : Str → Bool) (f : Str) (v : D) (o : Out D) (r : Env') : SO := o.bindS r fun o M2 => putAttr ok f o v r M2
def attrPutK1 (ok : Str → Bool) (f : Str) (v : Out D) (do_ : DE) (r : Env') : SO := v.bindS r fun v M1 => attrPutK2 ok f v (do_ r M1) r
@[simp] theorem dAttrPut_ev {ok : Str → Bool} {do_ dv : DE} : dAttrPut ok f do_ dv r M = attrPutK1 ok f (dv r M) do_ r := rfl
@[simp] theorem attrPutK1_ok {ok : Str → Bool} {do_ : DE} : attrPutK1 ok f (.ok d M) do_ r = attrPutK2 ok f d (do_ r M) r := rfl
@[simp] theorem attrPutK2_ok {ok : Str → Bool} : attrPutK2 ok f d (.ok x M) r = putAttr ok f x d r M := rfl
theorem putAttr_of {ok : Str → Bool} (hM : M[n]? = some (.ins c fs)) (h1 : ok c = true) (h2 : fs.length < 1000) : putAttr ok f (.obj n) d r M = .nx r (M.set n (.ins c (putFD f d fs))) := by
  have z : Nat.blt fs.length 1000 = true := Nat.ble_eq_true_of_le h2
  unfold putAttr
  simp only [hM, h1, z]
  rfl
def makeK2 (i : Nat) : Out D → Out D := fun o => o.bind fun v M2 => match v with
  | .non => .ok (.obj i) M2
  | _ => .no
def makeK1 (c : Str) (n : Nat) (F : FN) (o : Out (List D)) : Out D := o.bind fun ds M1 => match Nat.beq (ds.length + 1) n with
  | true => makeK2 M1.length (F (.obj M1.length :: ds) (M1 ++ [.ins c []]))
  | false => .no
@[simp] theorem dMake_ev {F : FN} {da : DA} : dMake c n F da r M = makeK1 c n F (da r M) := rfl
@[simp] theorem makeK1_ok {F : FN} (h : ds.length + 1 = n) : makeK1 c n F (.ok ds M) = makeK2 M.length (F (.obj M.length :: ds) (M ++ [.ins c []])) := by
  subst h
  unfold makeK1
  dsimp only [Out.bind]
  rw [Nat.beq_refl]
@[simp] theorem makeK2_ok {k : Nat} : makeK2 k (.ok .non M) = .ok (.obj k) M := rfl
def methK2 (F : FN) (n : Nat) (o : D) (a : Out (List D)) : Out D := a.bind fun ds M2 => match Nat.beq (ds.length + 1) n with
  | true => F (o :: ds) M2
  | false => .no
def methK1 (m : Str) (tab : MTab) (o : Out D) (da : DA) (r : Env') : Out D := o.bind fun o M1 => match clsOf M1 o with
  | some (c, fs) => (match tab c, fs.lookup m with
    | some (n, F), none => methK2 F n o (da r M1)
    | _, _ => .no)
  | none => .no
@[simp] theorem dMeth_ev {m : Str} {tab : MTab} {do_ : DE} {da : DA} : dMeth m tab do_ da r M = methK1 m tab (do_ r M) da r := rfl
theorem methK1_of {m : Str} {tab : MTab} {da : DA} {F : FN} {k : Nat} (hM : M[n]? = some (.ins c fs)) (h1 : tab c = some (k, F)) (h2 : fs.lookup m = none) : methK1 m tab (.ok (.obj n) M) da r = methK2 F k (.obj n) (da r M) := by
  unfold methK1
  dsimp only [Out.bind]
  have e : clsOf M (.obj n) = some (c, fs) := by
    unfold clsOf
    simp only [hM]
  rw [e]
  dsimp only
  rw [h1, h2]
@[simp] theorem methK2_ok {F : FN} {k : Nat} (h : ds.length + 1 = k) : methK2 F k x (.ok ds M) = F (x :: ds) M := by
  subst h
  unfold methK2
  dsimp only [Out.bind]
  rw [Nat.beq_refl]
def raiseIK (c fld : Str) (o : Out D) (r : Env') : SO := o.bindS r fun d M1 => .ex ⟨c, [fld], [d]⟩ r M1
@[simp] theorem dRaiseI_ev {fld : Str} {de : DE} : dRaiseI c fld de r M = raiseIK c fld (de r M) r := rfl
@[simp] theorem raiseIK_ok {fld : Str} : raiseIK c fld (.ok d M) r = .ex ⟨c, [fld], [d]⟩ r M := rfl
@[simp] theorem fIsN_non : fIsN false .non .non M = .ok (.bl true) M := rfl
@[simp] theorem fIsN_obj : fIsN false (.obj n) .non M = .ok (.bl false) M := rfl
@[simp] theorem fNotN_non : fIsN true .non .non M = .ok (.bl false) M := rfl
@[simp] theorem fNotN_obj : fIsN true (.obj n) .non M = .ok (.bl true) M := rfl
@[simp] theorem fCat_int {ar : Bool} : fCat ar (.int i) (.int j) M = .ok (.int (i + j)) M := rfl
theorem fCat_tup {ar : Bool} (h : ds.length + es.length ≤ 100000) : fCat ar (.tup ds) (.tup es) M = .ok (.tup (ds ++ es)) M := by
  unfold fCat
  dsimp only
  rw [lineB_of h]
theorem newL_f (h : ds.length ≤ 100000) : newL false ds M = .ok (.lst ds) M := by
  unfold newL
  rw [lineB_of h]
theorem newL_t (h : ds.length ≤ 100000) : newL true ds M = .ok (.obj M.length) (M ++ [.lst ds]) := by
  unfold newL
  rw [lineB_of h]
theorem fRep_str {ar : Bool} (h0 : -4611686018427387904 ≤ j) (h1 : j < 4611686018427387904) (h : s.length * j.toNat ≤ 100000) : fRep ar (.str s) (.int j) M = .ok (.str (Txt.mul s j)) M := by
  unfold fRep
  dsimp only
  rw [small62_of h0 h1, lineB_of h]
  rfl
def compAK (o : Out Src) (dg : DG) (t : DT) (de : DE) (vs : List Nat) (r : Env') : Out D := o.bind fun src M1 => (compL src.chk dg t de (wipeD r vs) src.items [] M1).bind fun ys M2 => .ok (.obj M2.length) (M2 ++ [.lst ys])
@[simp] theorem dCompA_ev {di : DI} {dg : DG} {t : DT} {de : DE} {vs : List Nat} : dCompA di dg t de vs r M = compAK (di r M) dg t de vs r := rfl
def compAK2 (o : Out (List D)) : Out D := o.bind fun ys M2 => .ok (.obj M2.length) (M2 ++ [.lst ys])
@[simp] theorem compAK_ok {src : Src} {dg : DG} {t : DT} {de : DE} {vs : List Nat} : compAK (.ok src M) dg t de vs r = compAK2 (compL src.chk dg t de (wipeD r vs) src.items [] M) := rfl
@[simp] theorem compAK2_ok : compAK2 (.ok ds M) = .ok (.obj M.length) (M ++ [.lst ds]) := rfl
def callDK (n : Nat) (dd : List D) (F : FN) (o : Out (List D)) : Out D := o.bind fun ds M1 => match Nat.beq ds.length n with
  | true => F (ds ++ dd) M1
  | false => .no
@[simp] theorem dCallD_ev {dd : List D} {F : FN} {da : DA} : dCallD n dd F da r M = callDK n dd F (da r M) := rfl
@[simp] theorem callDK_ok {dd : List D} {F : FN} (h : ds.length = n) : callDK n dd F (.ok ds M) = F (ds ++ dd) M := by
  subst h
  unfold callDK
  dsimp only [Out.bind]
  rw [Nat.beq_refl]
end
end LF
set_option Elab.async false
set_option linter.all false
set_option maxRecDepth 100000
set_option maxHeartbeats 4000000
/-! LF25: comprehensions and joins in general, small rules. -/
namespace LF
open PySem PySem.Spec PyProof.Rows L2
section
variable {t : DT} {de : DE} {r : Env'} {M : Mem} {dg : DG}
/-- a comprehension that changes nothing -/
theorem compL_all {g : D → D} {p : D → Bool} : ∀ (ds acc : List D), (∀ d ∈ ds, ∃ r1, dg d r M = .ok r1 M ∧ t r1 M = .ok (p d) M ∧ (p d = true → de r1 M = .ok (g d) M)) → acc.length + ds.length ≤ 100000 → compL anyM dg t de r ds acc M = .ok (acc ++ (ds.filter p).map g) M
  | [], acc, _, _ => by simp
  | d :: ds, acc, h, hl => by
    simp only [List.length_cons] at hl
    obtain ⟨r1, h1, h2, h3⟩ := h d List.mem_cons_self
    have ih := fun acc => compL_all (g := g) (p := p) ds acc fun x hx => h x (List.mem_cons_of_mem _ hx)
    rw [compL_consA, h1, cmpK1_ok, h2]
    cases q : p d with
    | false =>
      rw [cmpK2_f, ih acc (by omega), List.filter_cons_of_neg (by simp [q])]
    | true =>
      rw [cmpK2_t, h3 q, cmpK3_ok (by omega), ih _ (by simp; omega), List.filter_cons_of_pos q]
      simp
/-- the same over the images of a list, all of them taken -/
theorem compL_img {α : Type} {f : α → D} {g : α → D} (l : List α) (acc : List D) (h : ∀ a ∈ l, ∃ r1, dg (f a) r M = .ok r1 M ∧ t r1 M = .ok true M ∧ de r1 M = .ok (g a) M) (hl : acc.length + l.length ≤ 100000) : compL anyM dg t de r (l.map f) acc M = .ok (acc ++ l.map g) M := by
  induction l generalizing acc with
  | nil => simp
  | cons a l ih =>
    simp only [List.length_cons] at hl
    obtain ⟨r1, h1, h2, h3⟩ := h a List.mem_cons_self
    rw [List.map_cons, compL_consA, h1, cmpK1_ok, h2, cmpK2_t, h3, cmpK3_ok (by omega), ih _ (fun x hx => h x (List.mem_cons_of_mem _ hx)) (by simp; omega)]
    simp
/-- .. some of them -/
theorem compL_imgF {α : Type} {f : α → D} {g : α → D} {p : α → Bool} (l : List α) (acc : List D) (h : ∀ a ∈ l, ∃ r1, dg (f a) r M = .ok r1 M ∧ t r1 M = .ok (p a) M ∧ (p a = true → de r1 M = .ok (g a) M)) (hl : acc.length + l.length ≤ 100000) : compL anyM dg t de r (l.map f) acc M = .ok (acc ++ (l.filter p).map g) M := by
  induction l generalizing acc with
  | nil => simp
  | cons a l ih =>
    simp only [List.length_cons] at hl
    obtain ⟨r1, h1, h2, h3⟩ := h a List.mem_cons_self
    rw [List.map_cons, compL_consA, h1, cmpK1_ok, h2]
    cases q : p a with
    | false =>
      rw [cmpK2_f, ih acc (fun x hx => h x (List.mem_cons_of_mem _ hx)) (by omega), List.filter_cons_of_neg (by simp [q])]
    | true =>
      rw [cmpK2_t, h3 q, cmpK3_ok (by omega), ih _ (fun x hx => h x (List.mem_cons_of_mem _ hx)) (by simp; omega), List.filter_cons_of_pos q]
      simp
end
theorem strs_map {α : Type} (f : α → Str) : ∀ l : List α, strsOf (l.map fun a => .str (f a)) = some (l.map f)
  | [] => rfl
  | a :: l => by simp only [List.map_cons, strsOf, strs_map f l, Option.map_some]
theorem join_flat : ∀ ls : List (List Nat), Txt.join (tx []) (ls.map tx) = tx ls.flatten := fun ls => by
  refine TL.ext_tl ?_
  rw [TL.join_eq, TL.tl_join]
  induction ls with
  | nil => rfl
  | cons c l ih =>
    cases l with
    | nil =>
      show c = c ++ []
      rw [List.append_nil]
    | cons d l =>
      simp only [List.map_cons] at ih ⊢
      rw [TL.joinL, ih]
      show c ++ ([] ++ (d :: l).flatten) = (c :: d :: l).flatten
      simp
theorem mJoin_flat {α : Type} {f : α → List Nat} {l : List α} {M : Mem} (h : (l.map f).flatten.length ≤ 100000) : mJoin (tx []) (.lst (l.map fun a => .str (tx (f a)))) M = .ok (.str (tx (l.map f).flatten)) M := by
  have e := join_flat (l.map f)
  rw [List.map_map] at e
  rw [mJoin_lst (strs_map (fun a => tx (f a)) l) ?_]
  · exact congrArg (fun s => Out.ok (D.str s) M) e
  · have z : ((l.map fun a => tx (f a)).map (·.length)).sum = (l.map f).flatten.length := by
      rw [List.map_map, List.length_flatten, List.map_map]
      congr 1
    rw [z, tx_len]
    simpa using h
theorem cutN_one {α : Type} {x : α} {l : List α} : cutN (x :: l) (some 1) none = l := cutN_from (k := 1) (by simp)
theorem bls_true {α : Type} (l : List α) : blsOf (l.map fun _ => .bl true) = some (l.map fun _ => true) := blsOf_map l
theorem all_true {α : Type} {l : List α} {M : Mem} : fAll [.lst (l.map fun _ => .bl true)] M = .ok (.bl true) M := by
  rw [fAll_of (bls_true l)]
  simp
theorem lit_eq {a b : Str} {M : Mem} {v : Bool} (ha : PyData.strOk a = true) (hb : PyData.strOk b = true) (h : (a == b) = v) : fEq (.str a) (.str b) M = .ok (.bl v) M := by rw [fEq_str ha hb, h]
theorem lit_ne {a b : Str} {M : Mem} {v : Bool} (ha : PyData.strOk a = true) (hb : PyData.strOk b = true) (h : (a == b) = v) : fNe (.str a) (.str b) M = .ok (.bl (!v)) M := by rw [fNe_str ha hb, h]
theorem dItT_ev {da : DE} {r : Env'} {M : Mem} : dItT da r M = ((da r M).bind fun d M1 => match d with
  | .tup ds => .ok ⟨ds, anyM⟩ M1
  | _ => .no) := rfl
def itTK (o : Out D) : Out Src := o.bind fun d M1 => match d with
  | .tup ds => .ok ⟨ds, anyM⟩ M1
  | _ => .no
@[simp] theorem dItT_K {da : DE} {r : Env'} {M : Mem} : dItT da r M = itTK (da r M) := rfl
@[simp] theorem itTK_tup {ds : List D} {M : Mem} : itTK (.ok (.tup ds) M) = .ok ⟨ds, anyM⟩ M := rfl
noncomputable def itLK (o : Out D) : Out Src := o.bind fun d M1 => match d with
  | .lst ds => .ok ⟨ds, anyM⟩ M1
  | .obj n => (match M1[n]? with
    | some (.lst ds) => .ok ⟨ds, fun M => isAt M n (.lst ds)⟩ M1
    | some (.ro ds) => .ok ⟨ds, fun M => isAt M n (.ro ds)⟩ M1
    | _ => .no)
  | _ => .no
theorem dItL_K {da : DE} {r : Env'} {M : Mem} : dItL da r M = itLK (da r M) := rfl
@[simp] theorem itLK_lst {ds : List D} {M : Mem} : itLK (.ok (.lst ds) M) = .ok ⟨ds, anyM⟩ M := rfl
end LF
set_option Elab.async false
set_option linter.all false
set_option maxRecDepth 100000
set_option maxHeartbeats 4000000
/-! LF26: rules to evaluate: arena lists, while, attributes of the newest object. -/
namespace LF
open PySem PySem.Spec PyProof.Rows L2
section
variable {r : Env'} {M M1 : Mem} {i j : Int} {s t : Str} {x y d : D} {ds es : List D} {b : Bool} {e : Exn} {n k : Nat} {c f : Str} {fs : List (Str × D)}
theorem putAttr_last {ok : Str → Bool} (h1 : ok c = true) (h2 : fs.length < 1000) : putAttr ok f (.obj M.length) d r (M ++ [.ins c fs]) = .nx r (M ++ [.ins c (putFD f d fs)]) := by
  rw [putAttr_of (c := c) (fs := fs) (by simp) h1 h2]
  simp
@[simp] theorem fIx_tup2 {x0 x1 : D} : fIx (.tup (x0 :: x1 :: d :: ds)) (.int 2) M = .ok d M := fIx_tup (L2.atI_nat (j := 2) rfl)
@[simp] theorem fIx_tup3 {x0 x1 x2 : D} : fIx (.tup (x0 :: x1 :: x2 :: d :: ds)) (.int 3) M = .ok d M := fIx_tup (L2.atI_nat (j := 3) rfl)
@[simp] theorem fIx_tup4 {x0 x1 x2 x3 : D} : fIx (.tup (x0 :: x1 :: x2 :: x3 :: d :: ds)) (.int 4) M = .ok d M := fIx_tup (L2.atI_nat (j := 4) rfl)
@[simp] theorem fListOf_tup {ar : Bool} : fListOf ar [.tup ds] M = newL ar ds M := rfl
@[simp] theorem fTupOf_lst (h : ds.length ≤ 100000) : fTupOf [.lst ds] M = .ok (.tup ds) M := by
  unfold fTupOf on1
  dsimp only [lstOf]
  rw [lineB_of h]
theorem fTupOf_obj (hM : M[n]? = some (.lst ds)) (h : ds.length ≤ 100000) : fTupOf [.obj n] M = .ok (.tup ds) M := by
  unfold fTupOf on1
  dsimp only [lstOf]
  rw [hM]
  dsimp only
  rw [lineB_of h]
def whileK2 (o : SO) (t : DT) (sb : DS) (n : Nat) : SO := match o with
  | .nx r2 M2 => whileN t sb n r2 M2
  | .ct r2 M2 => whileN t sb n r2 M2
  | .bk r2 M2 => .nx r2 M2
  | o => o
def whileK1 (o : Out Bool) (t : DT) (sb : DS) (n : Nat) (r : Env') : SO := o.bindS r fun k M1 => match k with
  | true => whileK2 (sb r M1) t sb n
  | false => .nx r M1
theorem whileN_ev {t : DT} {sb : DS} : whileN t sb (n + 1) r M = whileK1 (t r M) t sb n r := by
  rw [whileN]
  unfold whileK1
  cases t r M with
  | ok a M1 =>
    cases a with
    | true =>
      dsimp only [Out.bindS]
      unfold whileK2
      cases sb r M1 <;> rfl
    | false => rfl
  | _ => rfl
@[simp] theorem dWhile_ev {t : DT} {sb : DS} : dWhile n t sb r M = whileN t sb n r M := rfl
@[simp] theorem whileK1_f {t : DT} {sb : DS} : whileK1 (.ok false M) t sb n r = .nx r M := rfl
@[simp] theorem whileK1_t {t : DT} {sb : DS} : whileK1 (.ok true M) t sb n r = whileK2 (sb r M) t sb n := rfl
@[simp] theorem whileK2_nx {t : DT} {sb : DS} : whileK2 (.nx r M) t sb n = whileN t sb n r M := rfl
/-- a loop under an invariant that falls -/
theorem while_inv {t : DT} {sb : DS} (I : Nat → Env' → Mem → Prop) (R : Env' → Mem → Prop) (st : ∀ k r M, I k r M → (∃ M1, t r M = .ok false M1 ∧ R r M1) ∨ ∃ M1 r2 M2 k2, k = k2 + 1 ∧ t r M = .ok true M1 ∧ sb r M1 = .nx r2 M2 ∧ I k2 r2 M2) :
    ∀ (k n : Nat) (r : Env') (M : Mem), I k r M → k < n → ∃ r' M', whileN t sb n r M = .nx r' M' ∧ R r' M'
  | k, 0, r, M, _, h => absurd h (by omega)
  | k, n + 1, r, M, hI, h => by
    rw [whileN_ev]
    rcases st k r M hI with ⟨M1, e1, e2⟩ | ⟨M1, r2, M2, k2, rfl, e1, e2, e3⟩
    · rw [e1]
      exact ⟨r, M1, rfl, e2⟩
    · rw [e1, whileK1_t, e2, whileK2_nx]
      exact while_inv I R st k2 n r2 M2 e3 (by omega)
def appK2 (o : D) (q : Out D) : Out D := q.bind fun y M2 => appAt o y M2
def appK1 (o : Out D) (de : DE) (r : Env') : Out D := o.bind fun o M1 => match lstAt M1 o with
  | some _ => appK2 o (de r M1)
  | none => .no
@[simp] theorem dAppend_ev {do_ de : DE} : dAppend do_ de r M = appK1 (do_ r M) de r := rfl
theorem appK1_of {de : DE} (hM : M[n]? = some (.lst ds)) : appK1 (.ok (.obj n) M) de r = appK2 (.obj n) (de r M) := by
  unfold appK1
  dsimp only [Out.bind, lstAt]
  rw [hM]
@[simp] theorem appK2_ok : appK2 x (.ok y M) = appAt x y M := rfl
theorem appAt_of (hM : M[n]? = some (.lst ds)) (h : ds.length ≤ 100000) : appAt (.obj n) y M = .ok .non (M.set n (.lst (ds ++ [y]))) := by
  unfold appAt
  dsimp only [lstAt]
  rw [hM]
  dsimp only
  rw [lineB_of h]
def popK2 (o : D) (q : Out D) : Out D := q.bind fun y M2 => popAt o y M2
def popK1 (o : Out D) (de : DE) (r : Env') : Out D := o.bind fun o M1 => match lstAt M1 o with
  | some _ => popK2 o (de r M1)
  | none => .no
@[simp] theorem dPopAt_ev {do_ de : DE} : dPopAt do_ de r M = popK1 (do_ r M) de r := rfl
theorem popK1_of {de : DE} (hM : M[n]? = some (.lst ds)) : popK1 (.ok (.obj n) M) de r = popK2 (.obj n) (de r M) := by
  unfold popK1
  dsimp only [Out.bind, lstAt]
  rw [hM]
@[simp] theorem popK2_ok : popK2 x (.ok y M) = popAt x y M := rfl
theorem sm_nat {k : Nat} (h : k ≤ 100000) : small62 (k : Int) = true := small62_of (by omega) (by omega)
theorem ixN_nat {k m : Nat} (h : k < m) : ixN m (k : Int) = some k := by
  unfold ixN
  simp [h]
theorem popAt_of' {k : Nat} (hM : M[n]? = some (.lst ds)) (e1 : small62 i = true) (e2 : ixN ds.length i = some k) (hk : ds[k]? = some d) : popAt (.obj n) (.int i) M = .ok d (M.set n (.lst (ds.eraseIdx k))) := by
  unfold popAt
  dsimp only [lstAt]
  rw [hM]
  dsimp only
  rw [e1, e2]
  dsimp only
  rw [hk]
theorem popAt_of {k : Nat} (hM : M[n]? = some (.lst ds)) (hk : ds[k]? = some d) (hl : ds.length ≤ 100000) : popAt (.obj n) (.int (k : Nat)) M = .ok d (M.set n (.lst (ds.eraseIdx k))) := popAt_of' hM (sm_nat (Nat.le_trans (Nat.le_of_lt (List.getElem?_eq_some_iff.mp hk).1) hl)) (ixN_nat (List.getElem?_eq_some_iff.mp hk).1) hk
theorem rdD_obj (hM : M[n]? = some (.lst ds)) : rdD M (.obj n) = .lst ds := by
  unfold rdD
  dsimp only [lstOf]
  rw [hM]
theorem fNeM_of (h1 : M[n]? = some (.lst ds)) (h2 : M[k]? = some (.lst ds)) (h : D.lay 64 (.lst ds) = true) : fNeM (.obj n) (.obj k) M = .ok (.bl false) M := by
  unfold fNeM
  rw [rdD_obj h1, rdD_obj h2, fNe_same h]
theorem fLen_obj (hM : M[n]? = some (.lst ds)) : fLen [.obj n] M = .ok (.int ds.length) M := by
  unfold fLen
  dsimp only
  first | (rw [hM]) | (simp only [hM, seqOf, lstOf])
theorem fIx_obj (hM : M[n]? = some (.lst ds)) (h : atI ds i = some d) : fIx (.obj n) (.int i) M = .ok d M := by
  unfold fIx
  simp only [seqOf, hM, h]
  rfl
theorem itLK_obj (hM : M[n]? = some (.lst ds)) : itLK (.ok (.obj n) M) = .ok ⟨ds, fun M => isAt M n (.lst ds)⟩ M := by
  unfold itLK
  dsimp only [Out.bind]
  rw [hM]
theorem isBK_objL {p : String → Bool} (hM : M[n]? = some (.lst ds)) : isBK p (.ok (.obj n) M) = .ok (.bl (p "list")) M := by
  unfold isBK
  dsimp only [Out.bind, tagOf]
  rw [hM]
theorem fCat_obj {ar : Bool} {n2 : Nat} (h1 : M[n]? = some (.lst ds)) (h2 : M[n2]? = some (.lst es)) : fCat ar (.obj n) (.obj n2) M = newL ar (ds ++ es) M := by
  unfold fCat
  dsimp only [lstAt]
  rw [h1, h2]
theorem fRep_obj {ar : Bool} (h1 : M[n]? = some (.lst ds)) (h2 : -4611686018427387904 ≤ j) (h3 : j < 4611686018427387904) : fRep ar (.obj n) (.int j) M = newL ar (List.replicate j.toNat ds).flatten M := by
  unfold fRep
  dsimp only [lstAt]
  rw [h1, small62_of h2 h3]
end
end LF
set_option Elab.async false
set_option linter.all false
set_option maxRecDepth 100000
set_option maxHeartbeats 4000000
/-! LF27: comprehensions with a state; a place of a row; sorted texts. -/
namespace LF
open PySem PySem.Spec PyProof.Rows L2
section
variable {chk : Mem → Bool} {t : DT} {de : DE} {r : Env'} {M : Mem} {dg : DG}
theorem compL_nil {acc : List D} (h : chk M = true) : compL chk dg t de r [] acc M = .ok acc M := by
  unfold compL
  rw [h]
/-- a comprehension under an invariant -/
theorem compL_inv (I : Nat → List D → Mem → Prop) (hc : ∀ i ys M, I i ys M → chk M = true) : ∀ (ds : List D) (k : Nat) (acc : List D) (M : Mem), (∀ i d ys M, ds[i]? = some d → I (k + i) ys M → ∃ r1 y M', dg d r M = .ok r1 M ∧ t r1 M = .ok true M ∧ de r1 M = .ok y M' ∧ I (k + i + 1) (ys ++ [y]) M') → I k acc M → acc.length + ds.length ≤ 100000 → ∃ ys M', compL chk dg t de r ds acc M = .ok ys M' ∧ I (k + ds.length) ys M' ∧ ys.length = acc.length + ds.length
  | [], k, acc, M, _, h, _ => ⟨acc, M, compL_nil (hc _ _ _ h), h, rfl⟩
  | d :: ds, k, acc, M, st, h, hl => by
    rw [List.length_cons] at hl
    obtain ⟨r1, y, M', e1, e2, e3, h2⟩ := st 0 d acc M rfl h
    obtain ⟨ys, M2, e4, h3, e5⟩ := compL_inv I hc ds (k + 1) (acc ++ [y]) M' (fun i d ys M e hi => by
      have z := st (i + 1) d ys M (by simpa using e) (by rw [show k + (i + 1) = k + 1 + i by omega]; exact hi)
      rw [show k + (i + 1) + 1 = k + 1 + i + 1 by omega] at z
      exact z) h2 (by simp; omega)
    refine ⟨ys, M2, ?_, by rw [show k + (d :: ds).length = k + 1 + ds.length by simp; omega]; exact h3, by rw [e5]; simp; omega⟩
    rw [compL_cons (hc _ _ _ h), e1, cmpK1_ok, e2, cmpK2_t, e3, cmpK3_ok (by omega), e4]
/-- one over a list that stays, which changes nothing -/
theorem compL_same {α : Type} {f : α → D} {g : α → D} (hc : chk M = true) (l : List α) (acc : List D) (h : ∀ a ∈ l, ∃ r1, dg (f a) r M = .ok r1 M ∧ t r1 M = .ok true M ∧ de r1 M = .ok (g a) M) (hl : acc.length + l.length ≤ 100000) : compL chk dg t de r (l.map f) acc M = .ok (acc ++ l.map g) M := by
  induction l generalizing acc with
  | nil => simp [compL_nil hc]
  | cons a l ih =>
    simp only [List.length_cons] at hl
    obtain ⟨r1, h1, h2, h3⟩ := h a List.mem_cons_self
    rw [List.map_cons, compL_cons hc, h1, cmpK1_ok, h2, cmpK2_t, h3, cmpK3_ok (by omega), ih _ (fun x hx => h x (List.mem_cons_of_mem _ hx)) (by simp; omega)]
    simp
theorem ix_pick {P : D → Prop} {ds : List D} {i : Int} (h0 : 0 ≤ i) (h1 : i < ds.length) (h : ∀ d ∈ ds, P d) : ∃ d, P d ∧ ∀ M, fIx (.lst ds) (.int i) M = .ok d M := by
  obtain ⟨j, rfl⟩ : ∃ j : Nat, i = j := ⟨i.toNat, by omega⟩
  have hj : j < ds.length := by omega
  exact ⟨ds[j], h _ (List.getElem_mem hj), fun M => fIx_lst (L2.atI_nat (List.getElem?_eq_getElem hj))⟩
/-- of a list of whole numbers -/
theorem ix_ints {P : Int → Prop} {ns : List Int} {i : Int} (h0 : 0 ≤ i) (h1 : i < ns.length) (h : ∀ n ∈ ns, P n) : ∃ n, P n ∧ ∀ M, fIx (.lst (ns.map .int)) (.int i) M = .ok (.int n) M := by
  obtain ⟨j, rfl⟩ : ∃ j : Nat, i = j := ⟨i.toNat, by omega⟩
  have hj : j < ns.length := by omega
  exact ⟨ns[j], h _ (List.getElem_mem hj), fun M => fIx_lst (L2.atI_nat (by simp [List.getElem?_eq_getElem hj]))⟩
end
/-! ### sorted texts -/
theorem leS_lt {a b : List Nat} (h : leS (tx a) (tx b) = true) (n : a ≠ b) : a < b := by
  by_cases h2 : leS (tx b) (tx a) = true
  · exact absurd (tx_inj (leS_anti _ _ h h2)) n
  · unfold leS at h2
    rw [strLt_tx] at h2
    simp at h2
    exact h2
theorem sort_lt {ks : List (List Nat)} (nd : ks.Nodup) : ∃ ss : List (List Nat), sortS (ks.map tx) = ss.map tx ∧ ss.Perm ks ∧ ss.Pairwise (· < ·) := by
  have h2 : (sortS (ks.map tx)).Pairwise fun a b => leS a b = true := List.pairwise_mergeSort (fun a b c => leS_trans a b c) leS_tot _
  have pm : (sortS (ks.map tx)).Perm (ks.map tx) := List.mergeSort_perm _ leS
  have e : sortS (ks.map tx) = ((sortS (ks.map tx)).map fun s => s.cps.toList).map tx := by
    rw [List.map_map]
    conv => lhs; rw [← List.map_id (sortS (ks.map tx))]
    exact List.map_congr_left fun s _ => tx_eta s
  have p2 := pm.map fun s : Str => s.cps.toList
  rw [List.map_map, show ((fun s : Str => s.cps.toList) ∘ tx) = id from rfl, List.map_id] at p2
  generalize (sortS (ks.map tx)).map (fun s => s.cps.toList) = ss at e p2
  refine ⟨ss, e, p2, ?_⟩
  rw [e, List.pairwise_map] at h2
  have nd2 : ss.Nodup := p2.nodup_iff.mpr nd
  exact h2.imp₂ (fun a b h n => leS_lt h n) nd2
theorem fSorted_dic {ar : Bool} {n : Nat} {M : Mem} {kvs : List (Key × D)} {ss : List Str} (hM : M[n]? = some (.dic kvs)) (h : keyStrs kvs = some ss) (hl : ss.length < 64) : fSorted ar [.obj n] M = newL ar ((sortS ss).map .str) M := by
  unfold fSorted on1
  dsimp only [textsOf]
  rw [hM]
  dsimp only
  rw [h]
  dsimp only
  rw [show Nat.blt ss.length 64 = true from Nat.ble_eq_true_of_le hl]
theorem fSorted_lst {ar : Bool} {M : Mem} {ds : List D} {ss : List Str} (h : strsOf ds = some ss) (hl : ss.length < 64) : fSorted ar [.lst ds] M = newL ar ((sortS ss).map .str) M := by
  unfold fSorted on1
  dsimp only [textsOf]
  rw [h]
  dsimp only
  rw [show Nat.blt ss.length 64 = true from Nat.ble_eq_true_of_le hl]
theorem fSum_ints {ns : List Int} {M : Mem} : fSum [.lst (ns.map .int)] M = .ok (.int ns.sum) M := by
  have e : intsOf (ns.map .int) = some ns := by
    induction ns with
    | nil => rfl
    | cons n ns ih => simp only [List.map_cons, intsOf, ih, Option.map_some]
  unfold fSum on1
  dsimp only [lstOf, Option.bind_some]
  rw [e]
/-- a dict of texts that are all True -/
def setD (ks : List (List Nat)) : List (Key × D) := ks.map fun k => (.inr (tx k), .bl true)
theorem keyStrs_set : ∀ ks : List (List Nat), keyStrs (setD ks) = some (ks.map tx)
  | [] => rfl
  | k :: ks => by
    have ih := keyStrs_set ks
    unfold setD at ih ⊢
    simp only [List.map_cons, keyStrs, ih, Option.map_some]
theorem putD_set {k : List Nat} (ks : List (List Nat)) : putD (setD ks) (.inr (tx k)) (.bl true) = setD (if k ∈ ks then ks else ks ++ [k]) := by
  unfold putD
  by_cases hm : k ∈ ks
  · have h1 : ((setD ks).any fun kv => decide (kv.1 = .inr (tx k))) = true := by
      rw [List.any_eq_true]
      exact ⟨(.inr (tx k), .bl true), List.mem_map.mpr ⟨k, hm, rfl⟩, by simp⟩
    rw [if_pos h1, if_pos hm]
    unfold setD
    rw [List.map_map]
    refine List.map_congr_left fun x _ => ?_
    simp only [Function.comp]
    split <;> rfl
  · have h1 : ¬ ((setD ks).any fun kv => decide (kv.1 = .inr (tx k))) = true := by
      rw [List.any_eq_true]
      rintro ⟨kv, hkv, e⟩
      obtain ⟨x, hx, rfl⟩ := List.mem_map.mp hkv
      have e := of_decide_eq_true e
      exact hm (tx_inj (Sum.inr.inj e) ▸ hx)
    rw [if_neg h1, if_neg hm]
    simp [setD]
end LF
set_option Elab.async false
set_option linter.all false
set_option maxRecDepth 100000
set_option maxHeartbeats 4000000
/-! LF28: code that is not come to; fields of errors; list(text). -/
namespace LF
open PySem PySem.Spec PyProof.Rows L2
section
variable {X : Cx} {W : WX}
def dNo : DS := fun _ _ => .no
def eNo : DE := fun _ _ => .no
theorem ds_no {st : Stmt} : DSx X W st dNo := ⟨fun _ _ _ => False, ⟨fun _ _ _ _ _ _ h => h.elim⟩, fun _ _ _ _ _ _ _ _ h => h.elim⟩
theorem db_no {st : List Stmt} : DBx X W st dNo := ⟨fun _ _ _ => False, ⟨fun _ _ _ _ _ _ h => h.elim⟩, fun _ _ _ _ _ _ _ _ h => h.elim⟩
theorem de_no {e : Expr} : DEx X W e eNo := ⟨fun _ _ _ => False, ⟨fun _ _ _ _ _ _ h => h.elim⟩, fun _ _ _ _ _ _ _ _ h => h.elim⟩
end
/-! ### e.f of an error -/
def xfC (K : Frg) (C : Addr) : Bool := L2.xfB K C
theorem xfC_ok {K : Frg} {C : Addr} (h : xfC K C = true) : XfC K C := L2.xfB_ok h
def tXfE (K : PySem.W.Frag) (f : Str) (te : TE) : TE := fun σ H Q => te σ H fun x H1 => ∃ (a C dd : Addr) (fs : List (Str × V)) (v : V), x = .ref a ∧ H1 a = some (.ext (IsX a C (some dd))) ∧ XfC K C ∧ PySem.W.findIn K (.ref C) f = some none ∧ H1 dd = some (.xd fs) ∧ fs.lookup f = some v ∧ Q v H1
theorem pe_xfE {X : Cx} {e : Expr} {te : TE} {pos : Pos} {n : Str} (he : PE X e te) (hb : attributeBase e n X.env (eval e X.env) = eval e X.env := by rfl) : PE X (.Attribute e n pos) (tXfE X.K n te) := by
  refine ⟨fun pins s σ H Q I h => ?_⟩
  refine attr_of hb (thn (he.run pins s σ H _ I h) fun u s1 hh => ?_)
  obtain ⟨x, H1, I1, rx, a, C, dd, fs, v, ex, ea0, T, hno, ea, l, q⟩ := hh
  subst ex
  obtain rfl : u = Value.ref a := rx
  obtain ⟨⟨o, vs, g1, g2, g3, g4⟩, _, _⟩ := (show ObjOk X.prog X.w H1 s1.heap a (.ext (IsX a C (some dd))) from I1.hok a _ ea0)
  have hx : ObjOk X.prog X.w H1 s1.heap dd (.xd fs) := I1.hok dd _ ea
  obtain ⟨mA, hns, hr⟩ := hx
  obtain ⟨od, ho, hl⟩ := lookIn_ns hns
  obtain ⟨u, hu, ru⟩ := RelO.some_of (v := v) (o := mA n) (by rw [← l]; exact hr n)
  have J : PySem.W.InstAt s1.heap a o C (some od) := ⟨g1, g2, by unfold PySem.W.notCls; rw [g4] <;> rfl, by rw [g3]; exact ho⟩
  exact HandSPX.exc_get I1.kIn J T.ga T.gg T.exC (PySem.W.findObj_own T.hdC hno rfl (by rw [hl, hu])) (handed_of ru) ⟨v, H1, I1.tok _, ru, q⟩
def fXf (ok : Str → Bool) (f : Str) : F1 := fun x M => match x with
  | .exc c ns ds => (match ok c with
    | true => liftO ((ns.zip ds).lookup f) M
    | false => .no)
  | _ => .no
theorem xf_look {K : Frg} {φ : Wd} {H : Hp} {f : Str} {d : D} : ∀ {fv : List (Str × V)} {ds : List D}, RepL K φ H ds (fv.map (·.2)) → ((fv.map (·.1)).zip ds).lookup f = some d → ∃ v, fv.lookup f = some v ∧ Rep K φ H d v
  | [], ds, _, h => by simp at h
  | (g, w) :: fv, [], r, h => by simp at h
  | (g, w) :: fv, x :: ds, r, h => by
    obtain ⟨w', r', e, r1, r2⟩ := r.inv
    simp only [List.map_cons, List.cons.injEq] at e
    obtain ⟨e1, e2⟩ := e
    subst e1
    simp only [List.map_cons, List.zip_cons_cons, List.lookup_cons] at h ⊢
    cases q : f == g with
    | true =>
      rw [q] at h
      cases h
      exact ⟨w, rfl, r1⟩
    | false =>
      rw [q] at h
      exact xf_look (e2 ▸ r2) h
theorem fXf_inv {K : Frg} {φ : Wd} {H : Hp} {Q : VK} {W : XK} {ok : Str → Bool} {f : Str} {x : D} {M : Mem} (h : Okd K φ H (RE K) (fXf ok f x M) Q W) : ∃ c ns ds d, x = .exc c ns ds ∧ ok c = true ∧ (ns.zip ds).lookup f = some d ∧ Okd K φ H (RE K) (.ok d M) Q W := by
  unfold fXf at h
  split at h
  · rename_i c ns ds
    split at h
    · rename_i q
      cases l : (ns.zip ds).lookup f with
      | none => rw [l] at h; exact h.elim
      | some d => rw [l] at h; exact ⟨c, ns, ds, d, rfl, q, l, h⟩
    · exact h.elim
  · exact h.elim
section
variable {X : Cx} {W : WX} {pos : Pos}
theorem de_xf {e : Expr} {f : Str} {da : DE} {ok : Str → Bool} (hok : ∀ c, ok c = true → XfC X.K (He.ga X.K c) ∧ PySem.W.findIn X.K (.ref (He.ga X.K c)) f = some none) (he : DEx X W e da) (hb : attributeBase e f X.env (eval e X.env) = eval e X.env := by rfl) : DEx X W (.Attribute e f pos) (dUn (fXf ok f) da) := by
  obtain ⟨_, p, s⟩ := he
  refine ⟨_, pe_xfE p hb, fun φ M H σ r Q S E h => ?_⟩
  refine s φ M H σ r _ S E (Okd.bind h fun d M1 v φ1 H1 _ g1 S1 rv h1 => ?_)
  replace h1 := fXf_inv h1
  obtain ⟨c, ns, ds, y, rfl, q, l, h1⟩ := h1
  unfold RE Rep at rv
  obtain ⟨a, dd, rfl, _, e1, fv, e2, e3, e4⟩ := rv
  subst e3
  obtain ⟨w, l2, r2⟩ := xf_look e4 l
  obtain ⟨c1, c2⟩ := hok c q
  rcases e2 with ⟨e2, e5⟩ | ⟨d2, e2, _, e5⟩
  · subst e5
    simp at l2
  · subst e2
    exact ⟨a, _, d2, fv, w, rfl, e1, c1, c2, e5, l2, h1.here S1 r2⟩
end
@[simp] theorem fXf_ev {ok : Str → Bool} {f c : Str} {ns : List Str} {ds : List D} {M : Mem} : fXf ok f (.exc c ns ds) M = (match ok c with
  | true => liftO ((ns.zip ds).lookup f) M
  | false => .no) := rfl
/-! ### list(text) -/
theorem call_listS {X : Cx} (hc : X.calm = true) : CallR X (.type "list") (fun xs H Q => ∃ z : Str, xs = [.str z] ∧ z.length ≤ sizeLine ∧ ∀ l, H l = none → Q (.ref l) (upd H l (.lst (z.cps.toList.map fun c => V.str ⟨#[c]⟩)))) := by
  intro pins s σ H xs us Q I r h
  obtain ⟨z, rfl, hz, q⟩ := h
  obtain ⟨u, rfl, t, rfl⟩ := vals1 r
  refine call_list_str (I.ok.hd hc) z t (fun h' tk acc' c' kp e it => ?_) hz
  have vs : Vals (z.cps.toList.map fun c => V.str ⟨#[c]⟩) acc'.toList := by
    refine vals_of_at ?_ fun j x u hx hu => ?_
    · have := it.1
      simp [this]
    · obtain ⟨c, t2, h1, h2⟩ := it.2 j u (by simpa using hu)
      rw [List.getElem?_map] at hx
      have h1 : z.cps.toList[j]? = some c := by simpa using h1
      rw [h1] at hx
      cases hx
      exact ⟨t2, h2⟩
  refine ⟨.ref s.heap.objs.size, _, I.laid (t' := tk) kp (Nat.le_refl _) (show ObjOk X.prog X.w _ h' _ (.lst (z.cps.toList.map fun c => V.str ⟨#[c]⟩)) from ⟨by rw [List.length_map]; exact hz, acc'.toList, c', vs, by simpa using e⟩), rfl, q _ (I.hok.fresh (Nat.le_refl _))⟩
def fListS (ar : Bool) : FN := on1 fun d M => match d with
  | .str z => (match lineB z.length with
    | true => newL ar (signs z) M
    | false => .no)
  | _ => .no
theorem repL_signs {K : Frg} {φ : Wd} {H : Hp} : ∀ l : List Nat, RepL K φ H (l.map fun c => D.str ⟨#[c]⟩) (l.map fun c => V.str ⟨#[c]⟩)
  | [] => .nil
  | c :: l => .cons rep_str (repL_signs l)
theorem o_listS {K : Frg} {ar : Bool} : OpN K (fun xs H Q => ∃ z : Str, xs = [.str z] ∧ z.length ≤ sizeLine ∧ ∀ l, H l = none → Q (.ref l) (upd H l (.lst (z.cps.toList.map fun c => V.str ⟨#[c]⟩)))) (fListS ar) := by
  intro φ M H xs ds Q W S r h
  replace h := on1_inv h
  obtain ⟨d, rfl, h⟩ := h
  obtain ⟨v, w, rfl, r1, r2⟩ := r.inv
  rw [r2.inv0]
  cases d with
  | str z =>
    dsimp only at h
    cases hl : lineB z.length with
    | false => rw [hl] at h; exact h.elim
    | true =>
      rw [hl] at h
      exact ⟨z, by rw [rep_str_inv r1], lineB_ok hl, (newL_here S (repL_signs z.cps.toList) h).2⟩
  | _ => exact h.elim
end LF
set_option Elab.async false
set_option linter.all false
set_option maxRecDepth 100000
set_option maxHeartbeats 4000000
/-! LF29: sets of texts: made of a list, sorted. -/
namespace LF
open PySem PySem.Spec PyProof.Rows L2
def sKey (p : Int × Value) : Str := match p.2 with
  | .str z _ => z
  | _ => Str.empty
def SGood (w : World) (p : Int × Value) : Prop := ∃ z u, p.2 = Value.str z u ∧ p.1 = hashStr w z
/-- a set of texts stands at a; ks: its members, in some order -/
structure SetA (w : World) (h : Heap) (a : Addr) (ks : List Str) (o : Obj) (es : Array (Int × Value)) (ep : Nat) (tb : SetTable) : Prop where
  ob : h.get? a = some o
  ex : o.ExactSet
  dt : o.data = .set es ep tb
  gd : ∀ p ∈ es.toList, SGood w p
  pm : (es.toList.map sKey).Perm ks
  nd : ks.Nodup
  bd : es.size < scanBound
  ft : tb.fits es.size = true
  ri : Ris tb.place.toList
  ld : w.params.followText "set-order" = true ∨ tb.led = true
def SetS (w : World) (h : Heap) (a : Addr) (ks : List Str) : Prop := ∃ o es ep tb, SetA w h a ks o es ep tb
section
variable {P : Program} {w : World} {h h' : Heap} {a : Addr} {ks : List Str}
theorem SetS.at (R : SetS w h a ks) (k : ∀ o, h.get? a = some o → h'.get? a = some o) : SetS w h' a ks := by
  obtain ⟨o, es, ep, tb, r⟩ := R
  exact ⟨o, es, ep, tb, k o r.ob, r.ex, r.dt, r.gd, r.pm, r.nd, r.bd, r.ft, r.ri, r.ld⟩
theorem sElems {l : List (Int × Value)} (g : ∀ p ∈ l, SGood w p) : ElemsOf (PySem.strKind P w) l := fun p hp => by
  obtain ⟨z, u, e1, e2⟩ := g p hp
  refine ⟨⟨z, ?_, e2⟩, ?_⟩
  · rw [e1]; exact strKind_is P w z u
  · rw [e1]; rfl
theorem sIs {p : Int × Value} (g : SGood w p) (z : Str) : (PySem.strKind P w).is z p.2 = true ↔ sKey p = z := by
  obtain ⟨y, u, e1, _⟩ := g
  unfold sKey
  rw [e1]
  show Value.isStrOf z (.str y u) = true ↔ y = z
  unfold Value.isStrOf
  first
    | exact beq_iff_eq
    | (simp; try exact eq_comm)
theorem sMem {l : List (Int × Value)} (g : ∀ p ∈ l, SGood w p) (z : Str) : z ∈ l.map sKey ↔ ∃ p ∈ l, (PySem.strKind P w).is z p.2 = true := by
  rw [List.mem_map]
  exact ⟨fun ⟨p, hp, q⟩ => ⟨p, hp, (sIs (g p hp) z).2 q⟩, fun ⟨p, hp, q⟩ => ⟨p, hp, (sIs (g p hp) z).1 q⟩⟩
end
section
variable {P : Program} {w : World} {A : Around} {E : Value → Shared → Prop} {s : Shared} {a : Addr} {ks : List Str}
/-- what lies behind the new member's laying -/
theorem sTail {g : Bool → Sem Unit} (hg : ∀ (b : Bool) (t : Shared) (Q' : Unit → Shared → Prop), Q' () t → wpAny (model P w) A (g b) Q' E t) {o : Obj} {es : Array (Int × Value)} {ep : Nat} {tb : SetTable}
    (ho : s.heap.get? a = some o) (hex : o.ExactSet) (hd : o.data = .set es ep tb) {fs : Array (Int × Value)} {tb2 : SetTable} (g1 : ∀ p ∈ fs.toList, SGood w p) (pm : (fs.toList.map sKey).Perm ks) (nd : ks.Nodup)
    (hb : fs.size < scanBound) (hf : tb2.fits fs.size = true) (hr : Ris tb2.place.toList) (hl : w.params.followText "set-order" = true ∨ tb2.led = true) {wd : Bool} {R : Option Bool → Shared → Prop}
    (hR : ∀ h', Heap.SameBut a s.heap h' → SetS w h' a ks → R (some true) { s with heap := h' }) :
    wpAny (model P w) A (do
        storeSet a fs tb2
        if (!wd && tb2.tooFull) = true then do
            g (relayAll tb2 fs (SetTable.grown fs.size)).2.2
            storeSet a (relayAll tb2 fs (SetTable.grown fs.size)).1 (relayAll tb2 fs (SetTable.grown fs.size)).2.1
            pure (some true)
          else pure (some true)) R E s := by
  refine wpAny_bind (wpAny_storeSet_of ho hd ?_ (fits_of_scanBound hb))
  have ho1 := store_at (es' := fs) (t' := tb2) ho hd
  have sb1 := Heap.SameBut.update s.heap a (Obj.putSet fs tb2)
  by_cases c : (!wd && tb2.tooFull) = true
  · rw [if_pos c]
    have pm2 := relayAll_perm tb2 fs (SetTable.grown fs.size)
    have hf3 := relayAll_fits tb2 fs (SetTable.grown fs.size)
    have hr3 := relayAll_ris tb2 fs (SetTable.grown fs.size)
    have hl3 := relayAll_led tb2 fs (SetTable.grown fs.size)
    generalize relayAll tb2 fs (SetTable.grown fs.size) = Z at pm2 hf3 hr3 hl3 ⊢
    obtain ⟨f2, t3, gv⟩ := Z
    dsimp only at pm2 hf3 hr3 hl3 ⊢
    have hsz : f2.size = fs.size := by
      rw [← Array.length_toList, pm2.length_eq, Array.length_toList]
    have hb2 : f2.size < scanBound := by rw [hsz]; exact hb
    refine wpAny_bind (hg _ _ _ (wpAny_bind (wpAny_storeSet_of ho1 rfl ?_ (fits_of_scanBound hb2))))
    have ho2 := store_at (es' := f2) (t' := t3) ho1 rfl
    refine wpAny_pure (hR _ (sb1.trans (Heap.SameBut.update _ a _)) ⟨_, f2, _, t3, ho2, hex, rfl, fun p hp => g1 p (pm2.mem_iff.mp hp), (pm2.map sKey).trans pm, nd, hb2, hf3, hr3, ?_⟩)
    exact hl.imp id fun z => by rw [hl3]; exact z
  · rw [if_neg c]
    exact wpAny_pure (hR _ sb1 ⟨_, fs, _, tb2, ho1, hex, rfl, g1, pm, nd, hb, hf, hr, hl⟩)
/-- one text is put into the set -/
theorem sAdd {z : Str} {u : Tok} {Q : Bool → Shared → Prop} (R : SetS w s.heap a ks) (room : ks.length + 1 < scanBound)
    (hQ : ∀ h' b, Heap.SameBut a s.heap h' → SetS w h' a (if z ∈ ks then ks else z :: ks) → Q b { s with heap := h' }) :
    wpAny (model P w) A (setAddHashed a (.str z u) ((PySem.strKind P w).hash z)) Q E s := by
  obtain ⟨o, es, ep, tb, r⟩ := R
  have hkey : (PySem.strKind P w).is z (.str z u) = true := strKind_is P w z u
  have hsc : (Value.str z u).scannable = true := rfl
  have hel : ElemsOf (PySem.strKind P w) es.toList := sElems r.gd
  have hn : es.size = ks.length := by
    rw [← r.pm.length_eq, List.length_map, Array.length_toList]
  unfold setAddHashed setAddHashedIn
  refine wpAny_holding (wpAny_bind (wpAny_setState_of r.ob r.dt r.ft ?_))
  dsimp only
  rw [byScan_of hsc r.bd hel, if_pos rfl]
  unfold setAddByScan
  refine wpAny_bind (wpAny_bind (wpAny_rule (wpAny_bind (wpAny_setScan_of hkey r.ob r.dt r.ft hel ?_))))
  cases hfi : List.findIdx? (fun e => (PySem.strKind P w).is z e.2) es.toList with
  | some j =>
    dsimp only
    obtain ⟨hj, pj, _⟩ := List.findIdx?_eq_some_iff_getElem.mp hfi
    have hm : z ∈ ks := r.pm.mem_iff.mp ((sMem (P := P) r.gd z).2 ⟨_, List.getElem_mem hj, pj⟩)
    refine wpAny_pure (wpAny_pure (hQ s.heap _ (Heap.SameBut.refl a s.heap) ?_))
    rw [if_pos hm]
    exact ⟨o, es, ep, tb, r⟩
  | none =>
    dsimp only
    have hm : z ∉ ks := fun q => by
      obtain ⟨p, hp, q⟩ := (sMem (P := P) r.gd z).1 (r.pm.mem_iff.mpr q)
      have c := List.findIdx?_eq_none_iff.mp hfi p hp
      rw [q] at c
      cases c
    have quiet : ∀ (b : Bool) (t : Shared) (Q' : Unit → Shared → Prop), Q' () t → wpAny (model P w) A (match b with
      | true => rule "set.scan.the-table-gave-way"
      | false => pure ()) Q' E t := fun b t Q' q => by
      cases b
      · exact wpAny_pure q
      · exact wpAny_rule q
    have pm1 := layNew_perm tb es ((PySem.strKind P w).hash z) (.str z u)
    have hf1 := layNew_fits tb es ((PySem.strKind P w).hash z) (.str z u)
    have hr1 := layNew_ris tb es ((PySem.strKind P w).hash z) (.str z u) r.ri
    have hl1 := layNew_led tb es ((PySem.strKind P w).hash z) (.str z u)
    generalize layNew tb es ((PySem.strKind P w).hash z) (.str z u) = Z at pm1 hf1 hr1 hl1 ⊢
    obtain ⟨fs, t1, wd, gv⟩ := Z
    dsimp only at pm1 hf1 hr1 hl1 ⊢
    rw [Array.toList_push] at pm1
    have pc : fs.toList.Perm (((PySem.strKind P w).hash z, Value.str z u) :: es.toList) := pm1.trans (List.perm_append_singleton _ _)
    have pk : (fs.toList.map sKey).Perm (z :: ks) := (pc.map sKey).trans (List.Perm.cons z r.pm)
    have g1 : ∀ p ∈ fs.toList, SGood w p := fun p hp => by
      rcases List.mem_cons.mp (pc.mem_iff.mp hp) with q | q
      · rw [q]; exact ⟨z, u, rfl, rfl⟩
      · exact r.gd p q
    have nd1 : (z :: ks).Nodup := List.nodup_cons.mpr ⟨hm, r.nd⟩
    have hb1 : fs.size < scanBound := by
      rw [← Array.length_toList, pc.length_eq, List.length_cons, Array.length_toList, hn]
      exact room
    have hled : w.params.followText "set-order" = true ∨ t1.led = true := r.ld.imp id fun q => by rw [hl1]; exact q
    have fin : ∀ h' b, Heap.SameBut a s.heap h' → SetS w h' a (z :: ks) → Q b { s with heap := h' } := fun h' b sb q => by
      refine hQ h' b sb ?_
      rw [if_neg hm]
      exact q
    refine wpAny_bind (quiet _ _ _ ?_)
    split
    · refine wpAny_bind ?_
      rw [hashByValue_scannable 8 hsc]
      refine wpAny_pure (sTail quiet r.ob r.ex r.dt g1 pk nd1 hb1 ?_ ?_ ?_ ?_)
      · first | (split <;> first | exact hf1 | exact SetTable.fits_plain_off hf1) | exact hf1
      · first | (split <;> exact hr1) | exact hr1
      · first | (split <;> exact hled) | exact hled
      · intro h' sb q
        dsimp only
        exact wpAny_pure (fin h' _ sb q)
    · refine wpAny_bind (wpAny_pure ?_)
      simp only [↓reduceIte]
      refine sTail quiet r.ob r.ex r.dt g1 pk nd1 hb1 hf1 hr1 hled ?_
      intro h' sb q
      dsimp only
      exact wpAny_pure (fin h' _ sb q)
/-- the texts that were met, each once, the last first -/
def onceS : List Str → List Str → List Str
  | acc, [] => acc
  | acc, z :: r => onceS (if z ∈ acc then acc else z :: acc) r
theorem onceS_snoc (z : Str) : ∀ (l acc : List Str), onceS acc (l ++ [z]) = if z ∈ onceS acc l then onceS acc l else z :: onceS acc l
  | [], _ => rfl
  | y :: l, acc => by
    show onceS _ (l ++ [z]) = _
    rw [onceS_snoc z l]
    rfl
theorem onceS_len : ∀ (l acc : List Str), (onceS acc l).length ≤ acc.length + l.length
  | [], acc => Nat.le_refl _
  | y :: l, acc => by
    refine Nat.le_trans (onceS_len l _) ?_
    split
    · simp only [List.length_cons]; omega
    · simp only [List.length_cons]; omega
theorem onceS_mem {z : Str} : ∀ (l acc : List Str), z ∈ onceS acc l ↔ z ∈ acc ∨ z ∈ l
  | [], acc => by simp [onceS]
  | y :: l, acc => by
    rw [onceS, onceS_mem l]
    split
    · rename_i h
      constructor
      · rintro (q | q)
        · exact .inl q
        · exact .inr (List.mem_cons_of_mem _ q)
      · rintro (q | q)
        · exact .inl q
        · rcases List.mem_cons.mp q with rfl | q
          · exact .inl h
          · exact .inr q
    · simp only [List.mem_cons]
      constructor
      · rintro ((q | q) | q)
        · exact .inr (.inl q)
        · exact .inl q
        · exact .inr (.inr q)
      · rintro (q | q | q)
        · exact .inl (.inr q)
        · exact .inl (.inl q)
        · exact .inr q
theorem onceS_nd : ∀ (l acc : List Str), acc.Nodup → (onceS acc l).Nodup
  | [], _, h => h
  | y :: l, acc, h => by
    refine onceS_nd l _ ?_
    split
    · exact h
    · rename_i q
      exact List.nodup_cons.mpr ⟨q, h⟩
theorem sLoop {I : Addr} {fp wr : List Addr} {G : Array GenState → Array GenState → Prop} {n : Nat} {Pv : Nat → Value → Prop} {St : Nat → Shared → Prop} {R : Result → Shared → Prop}
    (W : WalksS P w A.in1 I fp wr G n Pv St) (S : Addr) (hSf : S ∉ fp) (zs : List Str) (hn : n = zs.length) (hb : zs.length + 1 < scanBound) (hval : ∀ i v, Pv i v → ∃ z t, zs[i]? = some z ∧ v = .str z t) :
    ∀ (k i : Nat) (s : Shared), n - i = k → i ≤ n → St i s → SetS w s.heap S (onceS [] (zs.take i)) →
      (∀ s', Moved (S :: wr) G s s' → SetS w s'.heap S (onceS [] zs) → R (.ok (.ret .none)) s') →
      codeAny (model P w) A (.builtin "set.update.loop" ⟨[.ref S, .ref I], []⟩) R s := by
  have hSw : S ∉ wr := fun q => hSf (W.sub _ q)
  have up : ∀ b ∈ wr, b ∈ S :: wr := fun b => List.mem_cons_of_mem _
  intro k
  induction k with
  | zero =>
    intro i s hk hi hst hS hR
    have e : zs.take i = zs := List.take_of_length_le (by omega)
    have hin : i = n := by omega
    subst hin
    refine codeAny_builtin F.entry_set_update_loop ?_
    rw [Around.under_plainId F.plain_set_update_loop _]
    show wpAny _ A.in1 (pyNext (.ref I) >>= _) _ _ s
    rw [e] at hS
    refine wpAny_bind (W.done s _ _ hst fun t hm => ?_)
    show wpAny _ A.in1 (ret Value.none) _ _ t
    exact wpAny_pure (hR t (hm.mono up) (hS.at fun o q => hm.heap S o hSw q))
  | succ k ih =>
    intro i s hk hi hst hS hR
    have hlt : i < n := by omega
    refine codeAny_builtin F.entry_set_update_loop ?_
    rw [Around.under_plainId F.plain_set_update_loop _]
    show wpAny _ A.in1 (pyNext (.ref I) >>= _) _ _ s
    refine wpAny_bind (W.item i s _ _ hlt hst fun v t hP hst' hm => ?_)
    obtain ⟨z, u, hz, rfl⟩ := hval i v hP
    have hS' : SetS w t.heap S (onceS [] (zs.take i)) := hS.at fun o q => hm.heap S o hSw q
    show wpAny _ A.in1 (holding [Value.str z u] (setAdd S (.str z u)) >>= _) _ _ t
    refine wpAny_bind (wpAny_holding ?_)
    unfold setAdd
    refine wpAny_holding (wpAny_bind ((PySem.strKind P w).pyHash (k := z) (strKind_is _ _ _ _) ?_))
    have hlen := onceS_len (zs.take i) []
    have hlen2 : (zs.take i).length ≤ zs.length := by simp; omega
    simp only [List.length_nil, Nat.zero_add] at hlen
    refine sAdd (s := { t with toks := t.toks + 1 }) hS' (by omega) fun h' _ hsb hS2 => ?_
    have hS3 : SetS w h' S (onceS [] (zs.take (i + 1))) := by
      have q : zs.take (i + 1) = zs.take i ++ [z] := by rw [List.take_add_one, hz]; rfl
      rw [q, onceS_snoc]
      exact hS2
    refine wpAny_pure ⟨plainId_quiet F.plain_set_update_loop _, ih (i + 1) _ (by omega) hlt (W.frame _ t _ _ hst' (Nat.le_succ _) fun b hb o q => ?_) hS3 fun t2 hm2 hS4 => ?_⟩
    · rw [hsb.2 b (fun q2 : b = S => hSf (by rw [← q2]; exact hb))]
      exact q
    · refine hR t2 (Moved.trans W.gtrans ((hm.mono up).then_heap (Nat.le_succ _) fun b o hb q => ?_) hm2) hS4
      rw [hsb.2 b (fun q2 : b = S => hb (by rw [q2]; exact List.mem_cons_self))]
      exact q
abbrev newSet (w : World) : Obj := { cls := .type "set", dict := none, data := .set #[] 0 (.fresh 0 0 (!w.params.followText "set-order")) }
theorem sNew {h : Heap} (q : h.get? a = some (newSet w)) : SetS w h a [] :=
  ⟨_, #[], 0, _, q, ⟨rfl, rfl, rfl⟩, rfl, (fun p hp => by simp at hp), .refl _, .nil, (by decide), rfl, List.Pairwise.nil, by
    show _ ∨ (!w.params.followText "set-order") = true
    cases w.params.followText "set-order"
    · exact .inr rfl
    · exact .inl rfl⟩
set_option maxHeartbeats 3200000 in
theorem call_setS {l : Addr} {items : Array Value} (zs : List Str) {Q : Value → Shared → Prop} (hh : A.handled = none) (hl : s.heap.IsList l items) (hit : StrsAre items.toList zs) (hb : zs.length + 1 < scanBound)
    (h : ∀ (h' : Heap) (tk : Nat), SetS w h' s.heap.objs.size (onceS [] zs) → (∀ b o, s.heap.get? b = some o → h'.get? b = some o) → Q (.ref s.heap.objs.size) { s with heap := h', toks := tk }) :
    wpAny (model P w) A (call (.type "set") [.ref l]) Q E s := by
  have hisz : items.size = zs.length := by
    have q := StrsAre.len_eq hit
    rw [Array.length_toList] at q
    exact q
  obtain ⟨c, tl, hmro⟩ := F.called_set.mro
  have hmade := F.called_set.made
  have hsub := F.called_set.sub
  refine wpAny_call (codeAny_of_tree ?_)
  show wpAny _ _ (callAny (.type "set") _) _ _ _
  refine wpAny_pure ⟨Code.quiet_builtin _ (by decide +kernel), codeAny_builtin F.entry_type_call ?_⟩
  rw [Around.under_plain (weight_type_call_type "set" [.ref l] []) rfl]
  have h1 := F.called_set.notType
  have h2 := F.called_set.canCreate
  have hct := F.typeCall_set_1 (.ref l)
  repeat (any_goals (first | assumption | wp_step))
  refine codeAny_mono (code_set_led1 (.ref l) (E := E) (Q₁ := fun ob t => ob = .ref s.heap.objs.size ∧ t = { s with heap := s.heap.push (newSet w) }) ⟨rfl, rfl⟩) fun r t hr => ?_
  cases r with
  | error e => exact hr
  | ok fl =>
    cases fl with
    | ret obj =>
      obtain ⟨rfl, rfl⟩ := hr
      have hS : (s.heap.push (newSet w)).get? s.heap.objs.size = some (newSet w) := Heap.get?_push_size _ rfl
      have hT : Shared.TypeIs { s with heap := s.heap.push (newSet w) } (.ref s.heap.objs.size) "set" := ⟨_, hS, rfl⟩
      have hli := F.called_set.init.lookup
      have hbi := F.called_set.init.bind (.ref s.heap.objs.size)
      repeat (any_goals (first | assumption | wp_step))
      refine codeAny_mono (codeAny_call_builtin (R := wants (fun r t => r = .none ∧ ∃ h' tk, t = { s with heap := h', toks := tk } ∧ SetS w h' s.heap.objs.size (onceS [] zs) ∧
          (∀ b o, s.heap.get? b = some o → h'.get? b = some o)) E) F.called_set.init.plain F.entry_set_init (check_set_init_1 hT ?_)) fun r2 t2 hr2 => ?_
      · obtain ⟨⟨cls, dic, dat, slo⟩, hol, hcl, nl, hdl⟩ := hl
        simp only at hcl hdl
        subst hcl; subst hdl
        have hol2 : (s.heap.push (newSet w)).get? l = some { cls := .type "list", dict := dic, data := .seq items nl, slots := slo } := Heap.get?_push_of_some _ hol
        have hsls := F.sub_list_set
        have hslf := F.sub_list_frozenset
        have hne : (Value.type "list" == Value.type "dict") = false := by decide
        have hl1 : (s.heap.push (newSet w)).IsList l items := ⟨_, hol2, rfl, nl, rfl⟩
        unfold Builtin.«set.__init__» noKeywords Builtin.Frozenset.updateFrom
        generalize hPI : pyIter = PI
        wp_walk
        subst hPI
        refine wpAny_pyIter_list hl1 (wpAny_bind (wpAny_runValue ?_))
        have hlS : l < s.heap.objs.size := Heap.lt_size hol
        have hh3 : A.in1.in1.in1.handled = none := by simp [hh]
        have hneI : l ≠ (s.heap.push (newSet w)).objs.size := by
          rw [Heap.size_push]
          exact Nat.ne_of_lt (Nat.lt_succ_of_lt hlS)
        have hSf : s.heap.objs.size ∉ [(s.heap.push (newSet w)).objs.size, l] := by
          rw [Heap.size_push]
          simp only [List.mem_cons, List.mem_singleton, List.not_mem_nil, or_false, not_or]
          exact ⟨Nat.ne_of_lt (Nat.lt_succ_self _), Nat.ne_of_gt hlS⟩
        have hval : ∀ (i : Nat) (v : Value), items[i]? = some v → ∃ z t, zs[i]? = some z ∧ v = .str z t := fun i v hv => by
          have hi : i < zs.length := by rw [← hisz]; exact (Array.getElem?_eq_some_iff.mp hv).1
          obtain ⟨t, e⟩ := SS.strs_at hit i v (by rw [Array.getElem?_toList]; exact hv)
          refine ⟨zs[i], t, List.getElem?_eq_getElem hi, ?_⟩
          rw [e, List.getD_eq_getElem?_getD, List.getElem?_eq_getElem hi]
          rfl
        refine sLoop ((Walks.list hh3 _ l hneI items).toS) s.heap.objs.size hSf zs hisz hb hval (items.size - 0) 0 _ (by omega) (Nat.zero_le _)
          ⟨⟨_, Heap.get?_push_size _ rfl, rfl, rfl⟩, (hl1.push _)⟩ ?hS0 ?hR
        case hS0 => exact sNew (Heap.get?_push_of_some _ hS)
        case hR =>
          intro t hm hS'
          obtain ⟨h', g2, d', tk', os'⟩ := t
          have eg : g2 = s.gens := hm.gens
          have ed : d' = s.drawn := hm.drawn
          have eo : os' = s.os := hm.os
          subst eg; subst ed; subst eo
          show wpAny _ _ _ _ _ _
          refine wpAny_pure ?_
          show wpAny _ _ (ret Value.none) _ _ _
          refine wpAny_pure ⟨rfl, h', tk', rfl, hS', fun b o e => ?_⟩
          have hb0 : b < s.heap.objs.size := Heap.lt_size e
          refine hm.heap b o ?_ (Heap.get?_push_of_some _ (Heap.get?_push_of_some _ e))
          simp only [List.mem_cons, List.mem_singleton, List.not_mem_nil, or_false, not_or]
          refine ⟨Nat.ne_of_lt hb0, ?_⟩
          rw [Heap.size_push]
          exact Nat.ne_of_lt (Nat.lt_succ_of_lt hb0)
      · cases r2 with
        | error e => exact hr2
        | ok fl2 =>
          cases fl2 with
          | ret r =>
            obtain ⟨rfl, h', tk, rfl, hS', hk'⟩ := hr2
            repeat (any_goals (first | assumption | wp_step))
            exact h _ _ hS' hk'
          | _ => exact hr2.elim
    | _ => exact hr.elim
theorem strs_of : ∀ (l : List Value), (∀ v ∈ l, ∃ z t, v = Value.str z t) → StrsAre l (l.map fun v => sKey (0, v))
  | [], _ => .nil
  | v :: l, h => by
    obtain ⟨z, t, rfl⟩ := h v List.mem_cons_self
    exact .cons z t (strs_of l fun u hu => h u (List.mem_cons_of_mem _ hu))
/-- sorted(a set of texts) -/
theorem sSorted {Q : Value → Shared → Prop} (R : SetS w s.heap a ks) (hh : A.handled = none) (h64 : ks.length < 64)
    (hQ : ∀ t p (out : Array Value) (c : Nat) (zs : List Str), (∀ b o, s.heap.get? b = some o → t.heap.get? b = some o) → t.gens = s.gens → t.os = s.os → s.heap.objs.size ≤ p →
      t.heap.get? p = some (seqObj "list" out c) → StrsAre out.toList zs → zs.Perm ks → sortedS zs = true → Q (.ref p) t) :
    wpAny (model P w) A (call (.builtin "sorted") [.ref a]) Q E s := by
  obtain ⟨o, es, ep, tb, r⟩ := R
  refine Calls.call_function_entry kind_sorted plain_sorted entry_sorted (args_sorted1 _) ?_
  unfold Builtin.«sorted»
  refine wpAny_bind (m := checkCount "sorted" 1 1 _) (wpAny_pure ?_)
  refine wpAny_bind (collect_set (A := A.in1) hh ⟨o, r.ob, r.ex.1, r.dt⟩ r.ft r.bd r.ri r.ld fun t vs k1 hz g1 o1 pm => ?_)
  have hI : StrsAre vs (vs.map fun v => sKey (0, v)) := strs_of vs fun v hv => by
    obtain ⟨p, hp, q⟩ := List.mem_map.mp (pm.mem_iff.mp hv)
    obtain ⟨z, u, e1, _⟩ := r.gd p hp
    exact ⟨z, u, by rw [← q]; exact e1⟩
  have pk : (vs.map fun v => sKey (0, v)).Perm ks := by
    have q := pm.map fun v => sKey (0, v)
    rw [List.map_map] at q
    exact q.trans r.pm
  have hvl : vs.length = ks.length := by
    have q := pk.length_eq
    rw [List.length_map] at q
    exact q
  refine wpAny_bind (wpAny_newList ?_ (by rw [hvl, sizeLine_eq]; omega))
  have hoL : (t.heap.push (seqObj "list" vs.toArray 0)).get? t.heap.objs.size = some (seqObj "list" vs.toArray 0) := Heap.get?_push_size _ rfl
  refine wpAny_bind (wpAny_holding (wpAny_call_entry slot_list_sort ⟨_, hoL, rfl⟩ entry_list_sort (list_sort_treeK strKind_oneLt hoL hI.keysOf (fun x y rest e => keyKind_strs (by rw [← e]; exact hI)) (by rw [hvl]; exact h64) fun st hp hs => ⟨_, rfl, ?_⟩) (args_list_sort _)))
  obtain ⟨zs, a1, a2, a3⟩ := sorted_out_str hI hp hs
  obtain ⟨c, hc⟩ := sortedHeap_at (vs := vs) (out := (arrOf st).map (·.2)) hoL
  refine wpAny_pure ⟨_, rfl, hQ _ t.heap.objs.size _ c zs (fun b x e => ?_) g1 o1 hz hc a1 (a2.trans pk) a3⟩
  have q := k1 b x e
  have hlt := Heap.lt_size q
  show (sortedHeap (t.heap.push (seqObj "list" vs.toArray 0)) t.heap.objs.size vs _).get? b = some x
  rw [sortedHeap_old (Nat.ne_of_lt hlt) (by rw [size_push']; exact Nat.lt_succ_of_lt hlt)]
  exact Heap.get?_push_of_some _ q
end
end LF
set_option Elab.async false
set_option linter.all false
set_option maxRecDepth 100000
set_option maxHeartbeats 4000000
/-! LF30: dicts: walked, asked, taken out of; sorted rows of whole numbers, of sets; zip, enumerate of lists; l[i] = e. -/
namespace LF
open PySem PySem.Spec PyProof.Rows L2
def keyD : Key → D
  | .inl i => .int i
  | .inr s => .str s
theorem rep_key {K : Frg} {φ : Wd} {H : Hp} : ∀ k : Key, Rep K φ H (keyD k) (kV k)
  | .inl _ => rep_int
  | .inr _ => rep_str
/-- a dict of the arena, also one that is walked -/
def dicAt (M : Mem) : D → Option (List (Key × D))
  | .obj n => (match M[n]? with
    | some (.dic kvs) => some kvs
    | some (.fz kvs) => some kvs
    | _ => none)
  | _ => none
theorem dicAt_rep {K : Frg} {φ : Wd} {M : Mem} {H : Hp} {d : D} {v : V} {kvs : List (Key × D)} (S : Sto K φ M H) (r : Rep K φ H d v) (h : dicAt M d = some kvs) : ∃ a kv, v = .ref a ∧ Rd H a (.dK kv) ∧ RepK K φ H kvs kv := by
  cases d with
  | obj n =>
    unfold Rep at r
    obtain ⟨a, ha, rfl⟩ := r
    replace h : (match M[n]? with
      | some (.dic kvs) => some kvs
      | some (.fz kvs) => some kvs
      | _ => none) = some kvs := h
    split at h
    · rename_i l e
      cases h
      obtain ⟨kv, e1, e2⟩ := S.ob n a _ ha e
      exact ⟨a, kv, rfl, .inl e1, e2⟩
    · rename_i l e
      cases h
      obtain ⟨od, kv, e1, e2⟩ := S.ob n a _ ha e
      exact ⟨a, kv, rfl, .inr ⟨od, e1⟩, e2⟩
    · cases h
  | _ => cases h
/-! ### k in d -/
def fDIn (neg : Bool) : F2 := fun x y M => match keyOf x, dicAt M y with
  | some k, some kvs => .ok (.bl (if neg then !(lookD kvs k).isSome else (lookD kvs k).isSome)) M
  | _, _ => .no
def rDIn (neg : Bool) : R2 := fun x y H Q => ∃ a o, y = .ref a ∧ DGet H a x o ∧ Q (.bl (if neg then !o.isSome else o.isSome)) H
theorem op_din {X : Cx} (hu : X.A.units + 1 < cLine) : OpR X (compareOp .In) (rDIn false) := by
  intro pins s σ H x y v u Q I rx ry h
  obtain ⟨a, o, rfl, g, q⟩ := h
  cases ry
  exact d_in hu I g rx fun s3 I3 => ⟨.bl _, H, I3, rfl, q⟩
theorem op_dnotin {X : Cx} (hu : X.A.units + 1 < cLine) : OpR X (compareOp .NotIn) (rDIn true) := by
  intro pins s σ H x y v u Q I rx ry h
  obtain ⟨a, o, rfl, g, q⟩ := h
  cases ry
  exact d_notIn hu I g rx fun s3 I3 => ⟨.bl _, H, I3, rfl, q⟩
theorem look_some {K : Frg} {φ : Wd} {H : Hp} {kvs : List (Key × D)} {kv : List (Key × V)} (r : RepK K φ H kvs kv) (k : Key) : (valV kv k).isSome = (lookD kvs k).isSome := by
  cases q : lookD kvs k with
  | none => rw [(r.look (k := k)).1 q]; rfl
  | some d =>
    obtain ⟨w, k1, _⟩ := (r.look (k := k)).2 d q
    rw [k1]; rfl
theorem o_din {K : Frg} {neg : Bool} : Op2 K (rDIn neg) (fDIn neg) := by
  intro φ M H x y a b Q W S ra rb h
  unfold fDIn at h
  split at h
  · rename_i k kvs ek ed
    obtain ⟨p, kv, rfl, h1, h2⟩ := dicAt_rep S rb ed
    refine ⟨p, valV kv k, rfl, .inl ⟨kv, k, h1, key_rep ra ek, rfl⟩, ?_⟩
    rw [look_some h2]
    exact okB S h
  · exact h.elim
/-! ### list(d), sorted(whole numbers) -/
def fListD (ar : Bool) : FN := on1 fun d M => match dicAt M d with
  | some kvs => newL ar (kvs.map fun kv => keyD kv.1) M
  | none => .no
theorem repL_keys {K : Frg} {φ : Wd} {H : Hp} : ∀ {kvs : List (Key × D)} {kv : List (Key × V)}, RepK K φ H kvs kv → RepL K φ H (kvs.map fun kv => keyD kv.1) (kv.map fun kv => kV kv.1)
  | [], _, h => by
    have h : _ = [] := h
    rw [h]; exact .nil
  | (k, d) :: r, _, ⟨v, l, e, _, h2⟩ => by
    rw [e]
    exact .cons (rep_key k) (repL_keys h2)
theorem o_listD {K : Frg} {ar : Bool} : OpN K (fun xs H Q => ∃ (a : Addr) (kvs : List (Key × V)), xs = [.ref a] ∧ Rd H a (.dK kvs) ∧ ∀ p, H p = none → Q (.ref p) (upd H p (.lst (kvs.map fun kv => kV kv.1)))) (fListD ar) := by
  intro φ M H xs ds Q W S r h
  replace h := on1_inv h
  obtain ⟨d, rfl, h⟩ := h
  obtain ⟨v, w, rfl, r1, r2⟩ := r.inv
  rw [r2.inv0]
  cases e : dicAt M d with
  | none => rw [e] at h; exact h.elim
  | some kvs =>
    rw [e] at h
    obtain ⟨a, kv, rfl, h1, h2⟩ := dicAt_rep S r1 e
    exact ⟨a, kv, rfl, h1, (newL_here S (repL_keys h2) h).2⟩
def leI (a b : Int) : Bool := decide (a ≤ b)
def sortI (ns : List Int) : List Int := ns.mergeSort leI
theorem sortI_one {ys xs : List Int} (p : ys.Perm xs) (h : ys.Pairwise (· ≤ ·)) : ys = sortI xs := by
  have h1 : ys.Pairwise fun a b => leI a b = true := h.imp fun q => decide_eq_true q
  have h2 : (sortI xs).Pairwise fun a b => leI a b = true := List.pairwise_mergeSort (fun a b c p q => by unfold leI at *; simp only [decide_eq_true_eq] at *; omega) (fun a b => by unfold leI; simp only [Bool.or_eq_true, decide_eq_true_eq]; omega) xs
  exact List.Perm.eq_of_pairwise (fun a b _ _ p q => by unfold leI at *; simp only [decide_eq_true_eq] at *; omega) h1 h2 (p.trans (List.mergeSort_perm xs leI).symm)
def fSortI (ar : Bool) : FN := on1 fun d M => match (lstOf M d).bind intsOf with
  | some ns => (match Nat.blt ns.length 64 with
    | true => newL ar ((sortI ns).map .int) M
    | false => .no)
  | none => .no
theorem o_sortI {K : Frg} {ar : Bool} : OpN K (rSorted K) (fSortI ar) := by
  intro φ M H xs ds Q W S r h
  replace h := on1_inv h
  obtain ⟨d, rfl, h⟩ := h
  obtain ⟨v, w, rfl, r1, r2⟩ := r.inv
  rw [r2.inv0]
  cases e : lstOf M d with
  | none => rw [e] at h; exact h.elim
  | some es =>
    rw [e, Option.bind_some] at h
    cases e2 : intsOf es with
    | none => rw [e2] at h; exact h.elim
    | some ns =>
      rw [e2] at h
      dsimp only at h
      cases e3 : Nat.blt ns.length 64 with
      | false => rw [e3] at h; exact h.elim
      | true =>
        rw [e3] at h
        obtain ⟨a, ys, rfl, h1, h2⟩ := lstOf_rep S r1 e
        rw [ints_rep h2 e2] at h1
        exact ⟨a, ns, rfl, h1, Nat.le_of_ble_eq_true e3, fun zs p pm so hp => by rw [sortI_one pm so]; exact (newL_here S (repL_ints (sortI ns)) h).2 p hp⟩
/-! ### d.pop(k), d.pop(k, None) -/
def dpopAt (o k : D) (z : Option D) (M : Mem) : Out D := match o, keyOf k with
  | .obj n, some k => (match M[n]? with
    | some (.dic kvs) => (match lookD kvs k, z with
      | some d, _ => .ok d (M.set n (.dic (dropD kvs k)))
      | none, some d => .ok d M
      | none, none => .no)
    | _ => .no)
  | _, _ => .no
theorem dpopAt_inv {K : Frg} {φ : Wd} {H : Hp} {Q : VK} {W : XK} {x y : D} {z : Option D} {M : Mem} (h : Okd K φ H (RE K) (dpopAt x y z M) Q W) : ∃ n k kvs, x = .obj n ∧ keyOf y = some k ∧ M[n]? = some (.dic kvs) ∧
    ((∃ d, lookD kvs k = some d ∧ Okd K φ H (RE K) (.ok d (M.set n (.dic (dropD kvs k)))) Q W) ∨ (∃ d, lookD kvs k = none ∧ z = some d ∧ Okd K φ H (RE K) (.ok d M) Q W)) := by
  unfold dpopAt at h
  split at h
  · rename_i n k e
    split at h
    · rename_i kvs e2
      refine ⟨n, k, kvs, rfl, e, e2, ?_⟩
      split at h
      · rename_i d e3
        exact .inl ⟨d, e3, h⟩
      · rename_i d e3
        exact .inr ⟨d, e3, rfl, h⟩
      · exact h.elim
    · exact h.elim
  · exact h.elim
/-- the receiver is a dict -/
def isDicB (M : Mem) : D → Bool
  | .obj n => (match M[n]? with
    | some (.dic _) => true
    | _ => false)
  | _ => false
theorem isDicB_rep {K : Frg} {φ : Wd} {M : Mem} {H : Hp} {d : D} {v : V} (S : Sto K φ M H) (r : Rep K φ H d v) (h : isDicB M d = true) : ∃ a, v = .ref a ∧ IsD H a := by
  cases d with
  | obj n =>
    unfold Rep at r
    obtain ⟨a, ha, rfl⟩ := r
    replace h : (match M[n]? with
      | some (.dic _) => true
      | _ => false) = true := h
    split at h
    · rename_i l e
      obtain ⟨kv, e1, e2⟩ := S.ob n a _ ha e
      exact ⟨a, rfl, .inl ⟨kv, .inl e1⟩⟩
    · cases h
  | _ => cases h
def dDPop (do_ dk : DE) : DE := fun r M => (do_ r M).bind fun o M1 => match isDicB M1 o with
  | true => (dk r M1).bind fun k M2 => dpopAt o k none M2
  | false => .no
def dDPop2 (do_ dk dz : DE) : DE := fun r M => (do_ r M).bind fun o M1 => match isDicB M1 o with
  | true => (dk r M1).bind fun k M2 => (dz r M2).bind fun z M3 => dpopAt o k (some z) M3
  | false => .no
section
variable {X : Cx} {W : WX} {pos apos cpos : Pos} {o e f : Expr} {do_ de dz : DE}
theorem de_dpop (ho : DEx X W o do_) (he : DEx X W e de) (m : M1 X o "pop" apos e cpos) : DEx X W (.Call (.Attribute o "pop" apos) [e] [] cpos) (dDPop do_ de) := by
  obtain ⟨_, p1, s1⟩ := ho
  obtain ⟨_, p2, s2⟩ := he
  refine ⟨_, pe_dpop1 p1 p2 m, fun φ M H σ r Q S E h => ?_⟩
  refine s1 φ M H σ r _ S E (Okd.bind h fun x M1 v φ1 H1 _ g1 S1 r1 h1 => ?_)
  cases q : isDicB M1 x with
  | false => rw [q] at h1; exact h1.elim
  | true =>
    rw [q] at h1
    obtain ⟨a, rfl, d⟩ := isDicB_rep S1 r1 q
    refine ⟨a, rfl, d, ?_⟩
    refine s2 φ1 M1 H1 σ r _ S1 (E.grow g1) (Okd.bind h1 fun y M2 u φ2 H2 _ g2 S2 r2 h2 => ?_)
    obtain ⟨n, k, kvs, rfl, hk, hM, h3⟩ := dpopAt_inv h2
    have r1 := Rep.grow g2 _ _ r1
    unfold Rep at r1
    obtain ⟨b, hb, eb⟩ := r1
    cases eb
    obtain ⟨kv, e1, e2⟩ := S2.ob n a _ hb hM
    rcases h3 with ⟨z, z1, z2⟩ | ⟨z, z1, z2, _⟩
    · obtain ⟨w, k1, k2⟩ := (e2.look (k := k)).2 z z1
      refine ⟨kv, k, w, e1, key_rep r2 hk, k1, ?_⟩
      have gp : Grow φ2 H2 φ2 (upd H2 a (.dK (dropK kv k))) := Grow.put (List.mem_of_getElem? hb) (fun ob u z => by rw [e1] at z; cases z)
      exact z2 w φ2 _ gp (S2.put hb ⟨_, upd_same, RepK.mo gp.mo e2.drop⟩) (Rep.grow gp _ _ k2)
    · cases z2
theorem de_dpop2 (ho : DEx X W o do_) (he : DEx X W e de) (hf : DEx X W f dz) (m : M2 X o "pop" apos e f cpos) : DEx X W (.Call (.Attribute o "pop" apos) [e, f] [] cpos) (dDPop2 do_ de dz) := by
  obtain ⟨_, p1, s1⟩ := ho
  obtain ⟨_, p2, s2⟩ := he
  obtain ⟨_, p3, s3⟩ := hf
  refine ⟨_, pe_dpop2 p1 p2 p3 m, fun φ M H σ r Q S E h => ?_⟩
  refine s1 φ M H σ r _ S E (Okd.bind h fun x M1 v φ1 H1 _ g1 S1 r1 h1 => ?_)
  cases q : isDicB M1 x with
  | false => rw [q] at h1; exact h1.elim
  | true =>
    rw [q] at h1
    obtain ⟨a, rfl, d⟩ := isDicB_rep S1 r1 q
    refine ⟨a, rfl, d, ?_⟩
    refine s2 φ1 M1 H1 σ r _ S1 (E.grow g1) (Okd.bind h1 fun y M2 u φ2 H2 _ g2 S2 r2 h2 => ?_)
    refine s3 φ2 M2 H2 σ r _ S2 ((E.grow g1).grow g2) (Okd.bind h2 fun zd M3 zv φ3 H3 _ g3 S3 r3 h2 => ?_)
    obtain ⟨n, k, kvs, rfl, hk, hM, h3⟩ := dpopAt_inv h2
    have r1 := Rep.grow (g2.trans g3) _ _ r1
    unfold Rep at r1
    obtain ⟨b, hb, eb⟩ := r1
    cases eb
    obtain ⟨kv, e1, e2⟩ := S3.ob n a _ hb hM
    refine ⟨kv, k, e1, key_rep (Rep.grow g3 _ _ r2) hk, fun w hw => ?_, fun hw => ?_⟩
    · rcases h3 with ⟨z, z1, z2⟩ | ⟨z, z1, z2, _⟩
      · obtain ⟨w2, k1, k2⟩ := (e2.look (k := k)).2 z z1
        rw [k1] at hw
        cases hw
        have gp : Grow φ3 H3 φ3 (upd H3 a (.dK (dropK kv k))) := Grow.put (List.mem_of_getElem? hb) (fun ob u z => by rw [e1] at z; cases z)
        exact z2 w φ3 _ gp (S3.put hb ⟨_, upd_same, RepK.mo gp.mo e2.drop⟩) (Rep.grow gp _ _ k2)
      · rw [(e2.look (k := k)).1 z1] at hw
        cases hw
    · rcases h3 with ⟨z, z1, z2⟩ | ⟨z, z1, z2, z3⟩
      · obtain ⟨w2, k1, k2⟩ := (e2.look (k := k)).2 z z1
        rw [k1] at hw
        cases hw
      · cases z2
        exact z3.here S3 r3
end
/-! ### a dict is walked: locked -/
def dLockE (sel de : DE) : DE := fun r M => match sel r M with
  | .ok (.obj n) _ => (match M[n]? with
    | some (.dic kvs) => (match de r (M.set n (.fz kvs)) with
      | .ok x M2 => (match M2[n]? with
        | some (.fz kvs2) => .ok x (M2.set n (.dic kvs2))
        | _ => .no)
      | _ => .no)
    | _ => .no)
  | _ => .no
theorem dLockE_inv {K : Frg} {φ : Wd} {H : Hp} {Q : VK} {W : XK} {sel de : DE} {r : Env'} {M : Mem} (h : Okd K φ H (RE K) (dLockE sel de r M) Q W) : ∃ n kvs x M2 kvs2, M[n]? = some (.dic kvs) ∧ de r (M.set n (.fz kvs)) = .ok x M2 ∧ M2[n]? = some (.fz kvs2) ∧ Okd K φ H (RE K) (.ok x (M2.set n (.dic kvs2))) Q W := by
  unfold dLockE at h
  split at h
  · rename_i n _ _
    split at h
    · rename_i kvs e
      split at h
      · rename_i x M2 e2
        split at h
        · rename_i kvs2 e3
          exact ⟨n, kvs, x, M2, kvs2, e, e2, e3, h⟩
        · exact h.elim
      · exact h.elim
    · exact h.elim
  · exact h.elim
theorem sim_lock {K : Frg} {W : WX} {te : TE} {sel de : DE} (s : SimE K W te de) : SimE K W (tLockE te) (dLockE sel de) := by
  intro φ M H σ r Q S E h
  obtain ⟨n, kvs, x, M2, kvs2, hM, hd, hM2, h⟩ := dLockE_inv h
  obtain ⟨a, ha, kv, h1, h2⟩ := S.get hM
  refine ⟨a, .dK kv, h1, True.intro, fun od => ?_⟩
  have ma := List.mem_of_getElem? ha
  have gp : Grow φ H φ (upd H a (.frz od (.dK kv))) := Grow.put ma (fun ob u z => by rw [h1] at z; cases z)
  refine s φ (M.set n (.fz kvs)) _ σ r _ (S.put ha ⟨od, kv, upd_same, RepK.mo gp.mo h2⟩) (E.grow gp) ?_
  rw [hd]
  intro b φ' H' g' S' rb
  have fa : H' a = some (.frz od (.dK kv)) := g'.frz a od _ upd_same
  have ha' := g'.get ha
  have ma' := List.mem_of_getElem? ha'
  have mo : Mo φ' H' φ' (upd H' a (.dK kv)) := Mo.put ma'
  obtain ⟨od2, kv2, k1, k2⟩ := S'.ob n a _ ha' hM2
  rw [fa] at k1
  cases k1
  have ne : ∀ c o, H c = some o → (∀ kv, o ≠ .dK kv) → c ≠ a := fun c o e z q => by rw [q, h1] at e; cases e; exact z _ rfl
  have G : Grow φ H φ' (upd H' a (.dK kv)) := by
    refine ⟨?_, g'.lk, fun c o e nc => ?_, fun c e => ?_, fun c o u e => ?_⟩
    · obtain ⟨ψ, e, hψ⟩ := g'.ext
      refine ⟨ψ, e, fun c hc => ?_⟩
      have z := hψ c hc
      by_cases q : c = a
      · rw [q, upd_same] at z; cases z
      · rw [upd_ne q] at z; exact z
    · have q : c ≠ a := fun q => nc (q ▸ ma)
      rw [upd_ne q]
      exact g'.stay c o (by rw [upd_ne q]; exact e) nc
    · by_cases q : c = a
      · rw [q, upd_same] at e; cases e
      · rw [upd_ne q] at e
        have z := g'.dom c e
        rw [upd_ne q] at z; exact z
    · have q : c ≠ a := ne c _ e (fun _ z => nomatch z)
      rw [upd_ne q]
      exact g'.frz c o u (by rw [upd_ne q]; exact e)
  exact ⟨fa, h b φ' _ G (S'.put ha' ⟨kv, upd_same, RepK.mo mo k2⟩) (Rep.mo mo _ _ rb)⟩
theorem de_lockE {X : Cx} {W : WX} {e : Expr} {de : DE} (sel : DE) (he : DEx X W e de) : DEx X W e (dLockE sel de) := by
  obtain ⟨_, p, s⟩ := he
  exact ⟨_, pe_lock p, sim_lock s⟩
/-- the keys of a locked dict -/
def dItK (de : DE) : DI := fun r M => (de r M).bind fun d M1 => match d with
  | .obj n => (match M1[n]? with
    | some (.fz kvs) => .ok ⟨kvs.map fun kv => keyD kv.1, anyM⟩ M1
    | _ => .no)
  | _ => .no
theorem dItK_inv {K : Frg} {φ : Wd} {H : Hp} {d : D} {M : Mem} {R : It → Hp → Prop} {W : XK} (h : Okd K φ H (fun φ H => Serves K φ H) (match d with
  | .obj n => (match M[n]? with
    | some (.fz kvs) => .ok ⟨kvs.map fun kv => keyD kv.1, anyM⟩ M
    | _ => .no)
  | _ => .no) R W) : ∃ n kvs, d = .obj n ∧ M[n]? = some (.fz kvs) ∧ Okd K φ H (fun φ H => Serves K φ H) (.ok ⟨kvs.map fun kv => keyD kv.1, anyM⟩ M) R W := by
  split at h
  · rename_i n
    split at h
    · rename_i kvs e
      exact ⟨n, kvs, rfl, e, h⟩
    · exact h.elim
  · exact h.elim
theorem di_keys {X : Cx} {W : WX} {tg e : Expr} {de : DE} (he : DEx X W e de) : DIx X W tg e (dItK de) := by
  obtain ⟨_, p, s⟩ := he
  refine ⟨_, pi_keys p, fun φ M H σ r R S E h => ?_⟩
  refine s φ M H σ r _ S E (Okd.bind h fun d M1 v φ1 H1 _ g1 S1 rv h1 => ?_)
  obtain ⟨n, kvs, rfl, hM, h1⟩ := dItK_inv h1
  unfold RE Rep at rv
  obtain ⟨a, ha, rfl⟩ := rv
  obtain ⟨od, kv, e1, e2⟩ := S1.ob n a _ ha hM
  refine ⟨a, od, rfl, .inl ⟨kv, e1, h1 _ φ1 H1 Grow.refl S1 fun i φ M H g fz S c => ?_⟩⟩
  have fa := fz a od _ e1
  have hl : kv.length = kvs.length := e2.len
  refine ⟨fun e => ⟨fa, ?_⟩, fun d e => ?_⟩
  · have e : i = (kvs.map fun kv => keyD kv.1).length := e
    rw [List.length_map] at e
    omega
  · have e : (kvs.map fun kv => keyD kv.1)[i]? = some d := e
    obtain ⟨u, u1, u2⟩ := (repL_keys e2).get e
    rw [List.getElem?_map] at u1
    cases q : kv[i]? with
    | none => rw [q] at u1; cases u1
    | some kw =>
      rw [q] at u1
      cases u1
      obtain ⟨k, w⟩ := kw
      refine ⟨⟨fa, (List.getElem?_eq_some_iff.mp q).1⟩, fun x H' y => ?_⟩
      obtain ⟨rfl, k2, w2, z1, rfl⟩ := y
      rw [q] at z1
      cases z1
      have kd : d = keyD k := by
        rw [List.getElem?_map] at e
        have kk := congrArg (fun l => l[i]?) e2.keys
        rw [List.getElem?_map, List.getElem?_map, q] at kk
        cases q2 : kvs[i]? with
        | none => rw [q2] at e; cases e
        | some kw2 =>
          rw [q2] at e kk
          cases e
          simp only [Option.map_some, Option.some.injEq] at kk
          rw [kk]
      rw [kd]
      exact ⟨φ, Grow.refl, S, rep_key k⟩
end LF
set_option Elab.async false
set_option linter.all false
set_option maxRecDepth 100000
set_option maxHeartbeats 4000000
/-! LF31: sorted(set(texts)), len(set(whole numbers)), zip and enumerate of lists, l[i] = e. -/
namespace LF
open PySem PySem.Spec PyProof.Rows L2
def SetT (w : World) (a : Addr) (ks : List Str) : HO := .ext fun h => SetS w h a ks
theorem setT_new {w : World} {P : Program} {H : Hp} {h : Heap} {a : Addr} {ks : List Str} (R : SetS w h a ks) : ObjOk P w H h a (SetT w a ks) := by
  have ⟨o, _, _, _, q⟩ := R
  exact ⟨R, ⟨o, q.ob⟩, fun h1 h2 p k => SetS.at p k⟩
def rSetS (K : Frg) (w : World) : List V → Hp → VK → Prop := fun xs H Q => ∃ (l : Addr) (zs : List Str), xs = [V.ref l] ∧ SqL K H l (zs.map V.str) ∧ zs.length < 64 ∧ ∀ p, H p = none → Q (.ref p) (upd H p (SetT w p (onceS [] zs)))
theorem cr_setS {X : Cx} (hc : X.calm = true) : CallR X (.type "set") (rSetS X.K X.w) := by
  intro pins s σ H xs us Q I r h
  obtain ⟨l, zs, rfl, hl, hb, q⟩ := h
  rw [Vals.ref1 r]
  obtain ⟨its, rv, pl, hz⟩ := I.list hl
  refine call_setS zs (I.ok.hd hc) pl.isList (by simpa using rv.strs) (by unfold scanBound; omega) fun h' tk R k => ?_
  exact ⟨.ref s.heap.objs.size, upd H s.heap.objs.size (SetT X.w s.heap.objs.size (onceS [] zs)), I.laid (t' := tk) k (Nat.le_refl _) (setT_new R), rfl, q _ (I.hok.fresh (Nat.le_refl _))⟩
def rSortT (w : World) : List V → Hp → VK → Prop := fun vs H Q => ∃ (a : Addr) (ks : List Str), vs = [V.ref a] ∧ H a = some (SetT w a ks) ∧ ks.length < 64 ∧ ∀ (zs : List Str) (p : Addr), zs.Perm ks → sortedS zs = true → H p = none → Q (.ref p) (upd H p (.lst (zs.map V.str)))
theorem cr_sortT {X : Cx} (hc : X.calm = true) : CallR X (.builtin "sorted") (rSortT X.w) := by
  intro pins s σ H vs us Q I r h
  obtain ⟨a, ks, rfl, ha, h64, q⟩ := h
  have R : SetS X.w s.heap a ks := (I.hok a _ ha).1
  rw [Vals.ref1 r]
  refine sSorted R (I.ok.hd hc) h64 fun t p out c zs k g o hp hg hi pm so => ?_
  have hlen : (zs.map V.str).length ≤ sizeLine := by
    rw [List.length_map, pm.length_eq, sizeLine_eq]
    omega
  have hn : H p = none := I.hok.fresh hp
  have J : Inv X pins σ (upd H p (.lst (zs.map V.str))) { s with heap := t.heap, gens := t.gens, drawn := t.drawn, toks := t.toks } :=
    I.call (ch := []) (Un.laid k hp hn) (I.hok.laid k hp ⟨hlen, out.toList, c, vals_of_strs hi, hg⟩) (by rw [g]; exact I.bare) (fun _ z => nomatch z)
  have e : t = { s with heap := t.heap, gens := t.gens, drawn := t.drawn, toks := t.toks } := by
    cases t
    cases s
    cases o
    rfl
  rw [e]
  exact ⟨.ref p, _, J, rfl, q zs p pm so hn⟩
/-- sorted(set(x)) -/
def fSortSet (ar : Bool) : F1 := fun d M => match (lstOf M d).bind strsOf with
  | some ss => (match Nat.blt ss.length 64 with
    | true => newL ar ((sortS (onceS [] ss)).map .str) M
    | false => .no)
  | none => .no
theorem fSortSet_inv {K : Frg} {φ : Wd} {H : Hp} {Q : VK} {W : XK} {ar : Bool} {d : D} {M : Mem} (h : Okd K φ H (RE K) (fSortSet ar d M) Q W) : ∃ es ss, lstOf M d = some es ∧ strsOf es = some ss ∧ ss.length < 64 ∧ Okd K φ H (RE K) (newL ar ((sortS (onceS [] ss)).map .str) M) Q W := by
  unfold fSortSet at h
  cases e : lstOf M d with
  | none => rw [e] at h; exact h.elim
  | some es =>
    rw [e, Option.bind_some] at h
    cases e2 : strsOf es with
    | none => rw [e2] at h; exact h.elim
    | some ss =>
      rw [e2] at h
      dsimp only at h
      cases e3 : Nat.blt ss.length 64 with
      | false => rw [e3] at h; exact h.elim
      | true =>
        rw [e3] at h
        exact ⟨es, ss, rfl, e2, Nat.le_of_ble_eq_true e3, h⟩
/-- a new thing outside of the arena, then more -/
theorem newL_two {K : Frg} {φ : Wd} {M : Mem} {H : Hp} {Q : VK} {W : XK} {ar : Bool} {ds : List D} {xs : List V} (S : Sto K φ M H) (r : ∀ H', RepL K φ H' ds xs) (h : Okd K φ H (RE K) (newL ar ds M) Q W) {p : Addr} {o : HO} (hp : H p = none) {q : Addr} (hq : upd H p o q = none) : Q (.ref q) (upd (upd H p o) q (.lst xs)) :=
  (newL_here (S.new hp) (r _) (Okd.grow (Grow.new hp) h)).2 q hq
section
variable {X : Cx} {W : WX} {pos : Pos}
theorem de_sortSet {e : Expr} {de : DE} {ar : Bool} {p p2 q : Pos} (hc : X.calm = true) (hg : Gl X "sorted") (hm : X.mg "sorted" = none) (hg2 : Gl X "set") (hm2 : X.mg "set" = none) (he : DEx X W e de)
    (n1 : starEach [.Call (.Name "set" p2) [e] [] q] X.env = (false, eval (.Call (.Name "set" p2) [e] [] q) X.env) :: starEach [] X.env := by rfl) (n2 : starEach [e] X.env = (false, eval e X.env) :: starEach [] X.env := by rfl)
    (hpl : (backTo pos (starEach [] X.env)).any (·.1) = false := by rfl) (hpl2 : (backTo q (starEach [] X.env)).any (·.1) = false := by rfl) : DEx X W (.Call (.Name "sorted" p) [.Call (.Name "set" p2) [e] [] q] [] pos) (dUn (fSortSet ar) de) := by
  obtain ⟨te, p1, s1⟩ := he
  refine ⟨_, pe_callB (cr_sortT hc) hg hm (by decide +kernel) (pa_cons (pe_callTy (cr_setS hc) hg2 hm2 (by decide +kernel) (pa_cons p1 pa_nil n2) (by decide) (by decide) n2 hpl2) pa_nil n1) (by decide) (by decide) n1 hpl, fun φ M H σ r Q S E h => ?_⟩
  refine s1 φ M H σ r _ S E (Okd.bind h fun d M1 v φ1 H1 _ g1 S1 rv h1 => ?_)
  obtain ⟨es, ss, e1, e2, l64, h1⟩ := fSortSet_inv h1
  obtain ⟨a, ys, rfl, q1, q2⟩ := lstOf_rep S1 rv e1
  rw [strs_rep q2 e2] at q1
  refine ⟨a, ss, rfl, q1, l64, fun pl hp => ?_⟩
  have l2 := onceS_len ss []
  simp only [List.length_nil, Nat.zero_add] at l2
  refine ⟨pl, _, rfl, upd_same, by omega, fun zs pq pm so hq => ?_⟩
  rw [sort_one pm so]
  exact newL_two S1 (fun _ => repL_strs _) h1 hp hq
def fLenSetI : F1 := fun d M => match (lstOf M d).bind intsOf with
  | some ns => (match decide ns.Nodup && Nat.ble ns.length 4000 with
    | true => .ok (.int ns.length) M
    | false => .no)
  | none => .no
theorem fLenSetI_inv {K : Frg} {φ : Wd} {H : Hp} {Q : VK} {W : XK} {d : D} {M : Mem} (h : Okd K φ H (RE K) (fLenSetI d M) Q W) : ∃ es ns, lstOf M d = some es ∧ intsOf es = some ns ∧ ns.Nodup ∧ ns.length ≤ 4000 ∧ Okd K φ H (RE K) (.ok (.int ns.length) M) Q W := by
  unfold fLenSetI at h
  cases e : lstOf M d with
  | none => rw [e] at h; exact h.elim
  | some es =>
    rw [e, Option.bind_some] at h
    cases e2 : intsOf es with
    | none => rw [e2] at h; exact h.elim
    | some ns =>
      rw [e2] at h
      dsimp only at h
      cases e3 : decide ns.Nodup && Nat.ble ns.length 4000 with
      | false => rw [e3] at h; exact h.elim
      | true =>
        rw [e3] at h
        obtain ⟨k1, k2⟩ := Bool.and_eq_true_iff.mp e3
        exact ⟨es, ns, rfl, e2, of_decide_eq_true k1, Nat.le_of_ble_eq_true k2, h⟩
theorem de_lenSetI {e : Expr} {de : DE} {p p2 q : Pos} (hc : X.calm = true) (hg : Gl X "len") (hm : X.mg "len" = none) (hg2 : Gl X "set") (hm2 : X.mg "set" = none) (he : DEx X W e de)
    (n2 : starEach [e] X.env = (false, eval e X.env) :: starEach [] X.env := by rfl) : DEx X W (.Call (.Name "len" p) [.Call (.Name "set" p2) [e] [] q] [] pos) (dUn fLenSetI de) := by
  obtain ⟨te, p1, s1⟩ := he
  refine ⟨_, RZ.pe_lenSetI hg hm hg2 hm2 p1 hc n2, fun φ M H σ r Q S E h => ?_⟩
  refine s1 φ M H σ r _ S E (Okd.bind h fun d M1 v φ1 H1 _ g1 S1 rv h1 => ?_)
  obtain ⟨es, ns, e1, e2, nd, l4, h1⟩ := fLenSetI_inv h1
  obtain ⟨a, ys, rfl, q1, q2⟩ := lstOf_rep S1 rv e1
  rw [ints_rep q2 e2] at q1
  exact ⟨a, ns, rfl, q1, nd, l4, okI S1 h1⟩
/-! ### enumerate(list), zip(list, list) -/
noncomputable def chkL (d : D) (ds : List D) : Mem → Bool := match d with
  | .obj n => fun M => isAt M n (.lst ds)
  | _ => anyM
/-- a row that is walked: what it is, and whether it still is -/
def rowAt (M : Mem) : D → Option (List D)
  | .lst ds => some ds
  | .obj n => (match M[n]? with
    | some (.lst ds) => some ds
    | _ => none)
  | _ => none
theorem rowAt_rep {K : Frg} {φ : Wd} {M : Mem} {H : Hp} {d : D} {v : V} {ds : List D} (S : Sto K φ M H) (r : Rep K φ H d v) (h : rowAt M d = some ds) :
    ∃ a, v = .ref a ∧ (∃ xs, SqL K H a xs) ∧ ∀ φ2 M2 H2, Mo φ H φ2 H2 → Sto K φ2 M2 H2 → chkL d ds M2 = true → ∃ xs, SqL K H2 a xs ∧ RepL K φ2 H2 ds xs := by
  cases d with
  | lst es =>
    cases h
    unfold Rep at r
    obtain ⟨a, xs, rfl, h1, h2⟩ := r
    exact ⟨a, rfl, ⟨xs, h1.sq⟩, fun φ2 M2 H2 g S2 _ => ⟨xs, (h1.mo g).sq, RepL.mo g _ _ h2⟩⟩
  | obj n =>
    unfold Rep at r
    obtain ⟨a, ha, rfl⟩ := r
    replace h : (match M[n]? with
      | some (.lst es) => some es
      | _ => none) = some ds := h
    split at h
    · rename_i es e
      cases h
      obtain ⟨xs, e1, e2⟩ := S.ob n a _ ha e
      refine ⟨a, rfl, ⟨xs, SqL.of e1⟩, fun φ2 M2 H2 g S2 c => ?_⟩
      obtain ⟨ys, k1, k2⟩ := S2.ob n a _ (g.get n a ha) (isAt_ok c)
      exact ⟨ys, SqL.of k1, k2⟩
    · cases h
  | _ => cases h
def pairsL (ds : List D) : List D := ds.zipIdx.map fun di => .tup [.int (di.2 : Nat), di.1]
noncomputable def dItEL (da : DE) : DI := fun r M => (da r M).bind fun d M1 => match rowAt M1 d with
  | some ds => .ok ⟨pairsL ds, chkL d ds⟩ M1
  | none => .no
theorem di_enumL {e : Expr} {de : DE} {p tpos : Pos} {elts : List Expr} {kk : Nat} (hg : Gl X "enumerate") (hm : X.mg "enumerate" = none) (he : DEx X W e de) (h1 : starEach [e] X.env = (false, eval e X.env) :: starEach [] X.env := by rfl) (hs : starEach [e] X.env = [(false, eval e X.env)] := by rfl) :
    DIx X W (.Tuple elts kk tpos) (.Call (.Name "enumerate" p) [e] [] pos) (dItEL de) := by
  obtain ⟨_, p1, s1⟩ := he
  refine ⟨_, pi_enum hg hm (pa_cons p1 pa_nil h1) hs, fun φ M H σ r R S E h => ?_⟩
  refine s1 φ M H σ r _ S E (Okd.bind h fun d M1 v φ1 H1 _ g1 S1 rv h2 => ?_)
  cases q : rowAt M1 d with
  | none => rw [q] at h2; exact h2.elim
  | some ds =>
    rw [q] at h2
    obtain ⟨a, rfl, ⟨xs, q1⟩, q2⟩ := rowAt_rep S1 rv q
    refine ⟨a, xs, rfl, q1, h2.here S1 fun i φ M H g fz S c => ?_⟩
    obtain ⟨ys, k1, k2⟩ := q2 φ M H g S c
    have hl : (pairsL ds).length = ds.length := by unfold pairsL; simp
    refine ⟨fun e => ⟨ys, k1, by rw [k2.len]; exact Nat.le_of_eq (hl.symm.trans e.symm)⟩, fun z e => ?_⟩
    have e : (pairsL ds)[i]? = some z := e
    unfold pairsL at e
    rw [List.getElem?_map, List.getElem?_zipIdx] at e
    cases q3 : ds[i]? with
    | none => rw [q3] at e; cases e
    | some x =>
      rw [q3] at e
      simp only [Option.map_some, Option.some.injEq, Nat.zero_add] at e
      subst e
      obtain ⟨u, u1, u2⟩ := k2.get q3
      refine ⟨⟨ys, u, k1, u1⟩, fun y H' z => ?_⟩
      obtain ⟨T, u3, rfl, hT, rfl, z2⟩ := z
      have z3 := z2 ys k1
      rw [u1] at z3
      cases z3
      exact ⟨φ, Grow.new hT, S.new hT, rep_tup_new S hT (.cons rep_int (.cons u2 .nil))⟩
def pairsZ (ds es : List D) : List D := (ds.zip es).map fun de => .tup [de.1, de.2]
noncomputable def dItZ (da db : DE) : DI := fun r M => (da r M).bind fun d M1 => (db r M1).bind fun e M2 => match rowAt M2 d, rowAt M2 e with
  | some ds, some es => .ok ⟨pairsZ ds es, fun M => chkL d ds M && chkL e es M⟩ M2
  | _, _ => .no
theorem di_zip {a b : Expr} {da db : DE} {p tpos : Pos} {elts : List Expr} {kk : Nat} (hg : Gl X "zip") (hm : X.mg "zip" = none) (ha : DEx X W a da) (hb : DEx X W b db)
    (h1 : starEach [a, b] X.env = (false, eval a X.env) :: starEach [b] X.env := by rfl) (h2 : starEach [b] X.env = (false, eval b X.env) :: starEach [] X.env := by rfl) (hpl : (backTo pos (starEach [b] X.env)).any (·.1) = false := by rfl) :
    DIx X W (.Tuple elts kk tpos) (.Call (.Name "zip" p) [a, b] [] pos) (dItZ da db) := by
  obtain ⟨_, p1, s1⟩ := ha
  obtain ⟨_, p2, s2⟩ := hb
  refine ⟨_, pi_zip hg hm (pa_cons p1 (pa_cons p2 pa_nil h2) h1) h1 hpl, fun φ M H σ r R S E h => ?_⟩
  refine s1 φ M H σ r _ S E (Okd.bind h fun d M1 v φ1 H1 _ g1 S1 rv h3 => ?_)
  refine s2 φ1 M1 H1 σ r _ S1 (E.grow g1) (Okd.bind h3 fun e M2 u φ2 H2 _ g2 S2 ru h4 => ?_)
  have rv := Rep.grow g2 _ _ rv
  cases q : rowAt M2 d with
  | none => rw [q] at h4; exact h4.elim
  | some ds =>
    rw [q] at h4
    cases q' : rowAt M2 e with
    | none => rw [q'] at h4; exact h4.elim
    | some es =>
      rw [q'] at h4
      obtain ⟨x, rfl, ⟨xs, q1⟩, q2⟩ := rowAt_rep S2 rv q
      obtain ⟨y, rfl, ⟨ys, q3⟩, q4⟩ := rowAt_rep S2 ru q'
      refine ⟨x, y, xs, ys, rfl, q1, q3, h4.here S2 fun i φ M H g fz S c => ?_⟩
      obtain ⟨c1, c2⟩ := Bool.and_eq_true_iff.mp c
      obtain ⟨us, k1, k2⟩ := q2 φ M H g S c1
      obtain ⟨ws, k3, k4⟩ := q4 φ M H g S c2
      have hl : (pairsZ ds es).length = min ds.length es.length := by unfold pairsZ; simp
      refine ⟨fun z => ?_, fun z e => ?_⟩
      · have z : i = (pairsZ ds es).length := z
        refine ⟨us, ws, k1, k3, ?_⟩
        rw [k2.len, k4.len]
        omega
      · have e : (pairsZ ds es)[i]? = some z := e
        unfold pairsZ at e
        rw [List.getElem?_map] at e
        cases q5 : (ds.zip es)[i]? with
        | none => rw [q5] at e; cases e
        | some dd =>
          rw [q5] at e
          cases e
          obtain ⟨e1, e2⟩ := List.getElem?_zip_eq_some.mp q5
          obtain ⟨v1, v2, v3⟩ := k2.get e1
          obtain ⟨v4, v5, v6⟩ := k4.get e2
          refine ⟨⟨us, ws, v1, v4, k1, k3, v2, v5⟩, fun t H' z => ?_⟩
          obtain ⟨T, t1, t2, rfl, hT, rfl, z1, z2⟩ := z
          have z3 := z1 us k1
          have z4 := z2 ws k3
          rw [v2] at z3
          rw [v5] at z4
          cases z3
          cases z4
          exact ⟨φ, Grow.new hT, S.new hT, rep_tup_new S hT (.cons v3 (.cons v6 .nil))⟩
/-! ### l[i] = e -/
def setAt (o i v : D) (r : Env') (M : Mem) : Out Env' := match o, i with
  | .obj n, .int k => (match M[n]? with
    | some (.lst ds) => (match ixN ds.length k with
      | some j => .ok r (M.set n (.lst (ds.set j v)))
      | none => .no)
    | _ => .no)
  | _, _ => .no
def gSubL (da db : DE) : DG := fun v r M => match da r M with
  | .ok o M1 => (match db r M1 with
    | .ok i M2 => setAt o i v r M2
    | _ => .no)
  | _ => .no
theorem dg_subL {o i : Expr} {da db : DE} (ho : DEx X W o da) (hi : DEx X W i db) (hz : ∀ v, assign (.Subscript o i pos) X.env v = (do
      let ov ← holding [v] (eval o X.env)
      let iv ← holding [v, ov] (eval i X.env)
      standAt pos
      holding [v, ov, iv] (setItem ov iv v)
      release [v, ov, iv] []) := by intro _; rfl) : DGx X W (.Subscript o i pos) (gSubL da db) := by
  obtain ⟨_, p1, s1⟩ := ho
  obtain ⟨_, p2, s2⟩ := hi
  refine ⟨_, pg_sub p1 p2 set_list hz, fun φ M H σ r x d Q S E rd h => ?_⟩
  unfold gSubL at h
  refine s1 φ M H σ r _ S E ?_
  cases e1 : da r M with
  | ok od M1 =>
    rw [e1] at h
    dsimp only at h
    intro ov φ1 H1 g1 S1 r1
    refine s2 φ1 M1 H1 σ r _ S1 (E.grow g1) ?_
    cases e2 : db r M1 with
    | ok id M2 =>
      rw [e2] at h
      dsimp only at h
      intro iv φ2 H2 g2 S2 r2
      have r1 := Rep.grow g2 _ _ r1
      have rd := Rep.grow (g1.trans g2) _ _ rd
      cases od with
      | obj n =>
        cases id with
        | int k =>
          unfold setAt at h
          dsimp only at h
          cases e3 : M2[n]? with
          | none => rw [e3] at h; exact h.elim
          | some mo =>
            rw [e3] at h
            cases mo with
            | lst ds =>
              dsimp only at h
              cases e4 : ixN ds.length k with
              | none => rw [e4] at h; exact h.elim
              | some j =>
                rw [e4] at h
                dsimp only at h
                unfold Rep at r1
                obtain ⟨a, ha, rfl⟩ := r1
                obtain ⟨xs, k1, k2⟩ := S2.ob n a _ ha e3
                refine ⟨a, xs, k, j, rfl, rep_int_inv r2, k1, by rw [k2.len]; exact e4, ?_⟩
                have gp : Grow φ2 H2 φ2 (upd H2 a (.lst (xs.set j x))) := Grow.put (List.mem_of_getElem? ha) (fun ob u z => by rw [k1] at z; cases z)
                exact h σ φ2 _ ((g1.trans g2).trans gp) (S2.put ha ⟨_, upd_same, RepL.grow gp _ _ (k2.setAt j rd)⟩) (E.grow ((g1.trans g2).trans gp))
            | _ => exact h.elim
        | _ => exact h.elim
      | _ => cases id <;> exact h.elim
    | _ => rw [e2] at h; exact h.elim
  | _ => rw [e1] at h; exact h.elim
end
end LF
set_option Elab.async false
set_option linter.all false
set_option maxRecDepth 100000
set_option maxHeartbeats 4000000
/-! LF32: the Hook, looking at fewer objects: what the names lead to, level by level, each class by its own names alone. -/
namespace LF
open PySem PySem.Spec PyProof.Rows L2
def refsS (o : Obj) : List Addr := match o.data with
  | .dict es _ => es.toList.flatMap fun e => He.refV e.val
  | .func fd => He.refV fd.code ++ (He.refV fd.defaults ++ fd.closure.map (·.2))
  | .cls cd => [cd.ns]
  | _ => []
def lvlS (g : Addr → Option Obj) (as : List Addr) : List Addr := as.flatMap fun a => match g a with
  | some o => refsS o
  | none => []
def asS (g : Addr → Option Obj) : Nat → List Addr → List Addr
  | 0, as => as
  | n + 1, as => as ++ asS g n (lvlS g as)
def obsSG (n : Nat) (xb : Frg → Bool) (fa : List He.Fa) (fn : List He.DefD) (g : Addr → Option Obj) : AlX := obsX xb fa fn (He.frG g (cStatics :: asS g n [mainGlobals]))
def hookS (n : Nat) (xb : Frg → Bool) (fa : List He.Fa) (fn : List He.DefD) : PySem.W.Hook where
  α := AlX
  obs := fun s => obsSG n xb fa fn s.heap.get?
  val := fun _ => valX fn
  says := fun _ h => ∃ K : PySem.W.Frag, K.In h ∧ SaysX xb fa fn K
  of := fun _ _ e => ⟨_, He.frG_in, congrArg (fun z : AlX => z.1) e, congrArg (fun z : AlX => z.2) e⟩
  keeps := fun _ _ _ ⟨K, hK, c⟩ k => ⟨K, PySem.W.Frag.In.keeps hK k, c⟩
theorem obsSG_eq {n : Nat} {xb : Frg → Bool} {fa : List He.Fa} {fn : List He.DefD} {g : Addr → Option Obj} {s : Shared} (h : ∀ a, g a = s.heap.get? a) : obsSG n xb fa fn g = (hookS n xb fa fn).obs s := by
  have e : g = s.heap.get? := funext h
  rw [e] <;> rfl
end LF
set_option Elab.async false
set_option linter.all false
set_option maxRecDepth 100000
set_option maxHeartbeats 4000000
/-! LF33: rules to evaluate: dicts, zip, enumerate, l[i] = e; frames. -/
namespace LF
open PySem PySem.Spec PyProof.Rows L2
section
variable {r : Env'} {M M1 : Mem} {i j : Int} {s t : Str} {x y d : D} {ds es : List D} {b : Bool} {e : Exn} {n k : Nat} {c f : Str} {fs : List (Str × D)} {kvs : List (Key × D)} {da db : DE}
def subK2 (o : D) (q : Out D) (v : D) (r : Env') : Out Env' := match q with
  | .ok i M2 => setAt o i v r M2
  | _ => .no
def subK1 (o : Out D) (db : DE) (v : D) (r : Env') : Out Env' := match o with
  | .ok o M1 => subK2 o (db r M1) v r
  | _ => .no
@[simp] theorem gSubL_ev : gSubL da db d r M = subK1 (da r M) db d r := rfl
@[simp] theorem subK1_ok : subK1 (.ok x M) db d r = subK2 x (db r M) d r := rfl
@[simp] theorem subK2_ok : subK2 x (.ok y M) d r = setAt x y d r M := rfl
theorem setAt_of (hM : M[n]? = some (.lst ds)) (hk : k < ds.length) : setAt (.obj n) (.int (k : Nat)) d r M = .ok r (M.set n (.lst (ds.set k d))) := by
  unfold setAt
  dsimp only
  rw [hM]
  dsimp only
  rw [ixN_nat hk]
theorem putAttr_at {ok : Str → Bool} {X : Mem} (h1 : ok c = true) (h2 : fs.length < 1000) : putAttr ok f (.obj M.length) d r (M ++ .ins c fs :: X) = .nx r (M ++ .ins c (putFD f d fs) :: X) := by
  rw [putAttr_of (c := c) (fs := fs) (by simp) h1 h2]
  simp
theorem dicAt_of (hM : M[n]? = some (.dic kvs)) : dicAt M (.obj n) = some kvs := by
  unfold dicAt
  dsimp only
  rw [hM]
theorem fDIn_of {neg : Bool} {kk : Key} (hk : keyOf x = some kk) (hM : M[n]? = some (.dic kvs)) : fDIn neg x (.obj n) M = .ok (.bl (if neg then !(lookD kvs kk).isSome else (lookD kvs kk).isSome)) M := by
  unfold fDIn
  rw [hk, dicAt_of hM]
theorem fListD_of {ar : Bool} (hM : M[n]? = some (.dic kvs)) : fListD ar [.obj n] M = newL ar (kvs.map fun kv => keyD kv.1) M := by
  unfold fListD on1
  dsimp only
  rw [dicAt_of hM]
theorem fListOf_obj {ar : Bool} (hM : M[n]? = some (.lst ds)) : fListOf ar [.obj n] M = newL ar ds M := by
  unfold fListOf on1
  simp only [seqOf, hM]
theorem meth0 {m : Str} {tab : MTab} {F : FN} {o : Out D} (hM : M[n]? = some (.ins c fs)) (h1 : tab c = some (1, F)) (h2 : fs.lookup m = none) (e : F [.obj n] M = o) : methK1 m tab (.ok (.obj n) M) dNil r = o := by
  rw [methK1_of hM h1 h2]
  exact e
def dpopK2 (o : D) (q : Out D) : Out D := q.bind fun k M2 => dpopAt o k none M2
def dpopK1 (o : Out D) (dk : DE) (r : Env') : Out D := o.bind fun o M1 => match isDicB M1 o with
  | true => dpopK2 o (dk r M1)
  | false => .no
@[simp] theorem dDPop_ev : dDPop da db r M = dpopK1 (da r M) db r := rfl
theorem dpopK1_of (hM : M[n]? = some (.dic kvs)) : dpopK1 (.ok (.obj n) M) db r = dpopK2 (.obj n) (db r M) := by
  unfold dpopK1
  dsimp only [Out.bind, isDicB]
  rw [hM]
@[simp] theorem dpopK2_ok : dpopK2 x (.ok y M) = dpopAt x y none M := rfl
def dpop2K3 (o k : D) (q : Out D) : Out D := q.bind fun z M3 => dpopAt o k (some z) M3
def dpop2K2 (o : D) (q : Out D) (dz : DE) (r : Env') : Out D := q.bind fun k M2 => dpop2K3 o k (dz r M2)
def dpop2K1 (o : Out D) (dk dz : DE) (r : Env') : Out D := o.bind fun o M1 => match isDicB M1 o with
  | true => dpop2K2 o (dk r M1) dz r
  | false => .no
@[simp] theorem dDPop2_ev {dz : DE} : dDPop2 da db dz r M = dpop2K1 (da r M) db dz r := rfl
theorem dpop2K1_of {dz : DE} (hM : M[n]? = some (.dic kvs)) : dpop2K1 (.ok (.obj n) M) db dz r = dpop2K2 (.obj n) (db r M) dz r := by
  unfold dpop2K1
  dsimp only [Out.bind, isDicB]
  rw [hM]
@[simp] theorem dpop2K2_ok {dz : DE} : dpop2K2 x (.ok y M) dz r = dpop2K3 x y (dz r M) := rfl
@[simp] theorem dpop2K3_ok : dpop2K3 x y (.ok d M) = dpopAt x y (some d) M := rfl
theorem dpopAt_in {kk : Key} {z : Option D} (hk : keyOf y = some kk) (hM : M[n]? = some (.dic kvs)) (h : lookD kvs kk = some d) : dpopAt (.obj n) y z M = .ok d (M.set n (.dic (dropD kvs kk))) := by
  unfold dpopAt
  rw [hk]
  dsimp only
  rw [hM]
  dsimp only
  rw [h]
theorem dpopAt_out {kk : Key} (hk : keyOf y = some kk) (hM : M[n]? = some (.dic kvs)) (h : lookD kvs kk = none) : dpopAt (.obj n) y (some d) M = .ok d M := by
  unfold dpopAt
  rw [hk]
  dsimp only
  rw [hM]
  dsimp only
  rw [h]
theorem fLen_dic (hM : M[n]? = some (.dic kvs)) : fLen [.obj n] M = .ok (.int kvs.length) M := by
  unfold fLen
  dsimp only
  rw [hM]
theorem intsOf_map : ∀ ns : List Int, intsOf (ns.map .int) = some ns
  | [] => rfl
  | n :: ns => by simp only [List.map_cons, intsOf, intsOf_map ns, Option.map_some]
theorem fSortI_lst {ar : Bool} {ns : List Int} (h : ns.length < 64) : fSortI ar [.lst (ns.map .int)] M = newL ar ((sortI ns).map .int) M := by
  unfold fSortI on1
  dsimp only [lstOf, Option.bind_some]
  rw [intsOf_map]
  dsimp only
  rw [show Nat.blt ns.length 64 = true from Nat.ble_eq_true_of_le h]
theorem fLenSetI_lst {ns : List Int} (nd : ns.Nodup) (h : ns.length ≤ 4000) : fLenSetI (.lst (ns.map .int)) M = .ok (.int ns.length) M := by
  unfold fLenSetI
  dsimp only [lstOf, Option.bind_some]
  rw [intsOf_map]
  dsimp only
  rw [decide_eq_true nd, show Nat.ble ns.length 4000 = true from Nat.ble_eq_true_of_le h]
  rfl
noncomputable def elK (o : Out D) : Out Src := o.bind fun d M1 => match rowAt M1 d with
  | some ds => .ok ⟨pairsL ds, chkL d ds⟩ M1
  | none => .no
@[simp] theorem dItEL_ev : dItEL da r M = elK (da r M) := rfl
@[simp] theorem elK_lst : elK (.ok (.lst ds) M) = .ok ⟨pairsL ds, anyM⟩ M := rfl
noncomputable def zipK2 (d : D) (o : Out D) : Out Src := o.bind fun e M2 => match rowAt M2 d, rowAt M2 e with
  | some ds, some es => .ok ⟨pairsZ ds es, fun M => chkL d ds M && chkL e es M⟩ M2
  | _, _ => .no
noncomputable def zipK1 (o : Out D) (db : DE) (r : Env') : Out Src := o.bind fun d M1 => zipK2 d (db r M1)
@[simp] theorem dItZ_ev : dItZ da db r M = zipK1 (da r M) db r := rfl
@[simp] theorem zipK1_ok : zipK1 (.ok x M) db r = zipK2 x (db r M) := rfl
theorem zipK2_lst : zipK2 (.lst ds) (.ok (.lst es) M) = .ok ⟨pairsZ ds es, fun _ => true⟩ M := rfl
end
/-! ### frames -/
/-- what stood stands, but at the places S -/
structure Fr (S : List Nat) (M M' : Mem) : Prop where
  len : M.length ≤ M'.length
  get : ∀ j, j < M.length → j ∉ S → M'[j]? = M[j]?
section
variable {S T : List Nat} {M M1 M2 : Mem} {j : Nat} {o : MO}
theorem Fr.refl : Fr S M M := ⟨Nat.le_refl _, fun _ _ _ => rfl⟩
theorem Fr.trans (a : Fr S M M1) (b : Fr S M1 M2) : Fr S M M2 := ⟨Nat.le_trans a.len b.len, fun j h n => (b.get j (Nat.lt_of_lt_of_le h a.len) n).trans (a.get j h n)⟩
theorem Fr.mono (a : Fr S M M1) (h : ∀ j ∈ S, j ∈ T) : Fr T M M1 := ⟨a.len, fun j hj n => a.get j hj fun z => n (h j z)⟩
theorem Fr.at (a : Fr S M M1) (h : M[j]? = some o) (n : j ∉ S) : M1[j]? = some o := (a.get j (List.getElem?_eq_some_iff.mp h).1 n).trans h
theorem Fr.app : Fr S M (M ++ M1) := ⟨by simp, fun j h _ => List.getElem?_append_left h⟩
theorem Fr.set {i : Nat} (h : i ∈ S) : Fr S M (M.set i o) := ⟨by simp, fun j _ n => List.getElem?_set_ne (fun z : i = j => n (by rw [← z]; exact h))⟩
theorem at_set {i : Nat} (h : M[i]? = some o) {p : MO} : (M.set i p)[i]? = some p := List.getElem?_set_self (List.getElem?_eq_some_iff.mp h).1
theorem at_ne {i : Nat} (h : M[j]? = some o) (n : i ≠ j) {p : MO} : (M.set i p)[j]? = some o := by rw [List.getElem?_set_ne n]; exact h
theorem at_app (h : M[j]? = some o) : (M ++ M1)[j]? = some o := by rw [List.getElem?_append_left (List.getElem?_eq_some_iff.mp h).1]; exact h
end
end LF
set_option Elab.async false
set_option linter.all false
set_option maxRecDepth 100000
set_option maxHeartbeats 4000000
/-! LF34: a + b of lists that stay. -/
namespace LF
open PySem PySem.Spec PyProof.Rows L2
def rCatL (K : Frg) : R2 := fun x y H Q => ∃ l b xs zs, x = .ref l ∧ y = .ref b ∧ SqL K H l xs ∧ SqL K H b zs ∧ xs.length + zs.length ≤ sizeLine ∧ ∀ p, H p = none → Q (.ref p) (upd H p (.lst (xs ++ zs)))
theorem op_catL {X : Cx} : OpR X (binaryOp .Add) (rCatL X.K) := by
  intro pins s σ H x y v u Q I rx ry h
  obtain ⟨l, b, xs, zs, rfl, rfl, h1, h2, hz, q⟩ := h
  cases rx
  cases ry
  obtain ⟨its, r1, ⟨⟨cls, dd, data, sl⟩, n, ho, hc, hd, he⟩, z1⟩ := I.list h1
  obtain ⟨its2, r2, ⟨⟨cls2, dd2, data2, sl2⟩, n2, ho2, hc2, hd2, he2⟩, z2⟩ := I.list h2
  simp only at hc hd he hc2 hd2 he2
  subst hc hd he hc2 hd2 he2
  have l1 := r1.length
  have l2 := r2.length
  refine concat_meets ⟨_, ho, rfl⟩ ⟨_, ho2, rfl⟩ noFill_list_add seq_list_add PySem.F.slot_list_add PySem.F.entry_list_add (PySem.F.args_list_add_2 _ _) (list_addW l b its.toArray its2.toArray n n2 none none sl sl2 (by rw [List.size_toArray, List.size_toArray]; omega)) ⟨ho, ho2, ?_⟩
  have ea : its.toArray ++ its2.toArray = (its ++ its2).toArray := by simp
  rw [ea]
  exact ⟨.ref _, _, I.lnew (t' := s.toks) (r1.append r2) (by rw [List.length_append]; omega), rfl, q _ I.fresh⟩
def fCatL (ar : Bool) : F2 := fun x y M => match lstOf M x, lstOf M y with
  | some a, some b => newL ar (a ++ b) M
  | _, _ => .no
theorem o_catL {K : Frg} {ar : Bool} : Op2 K (rCatL K) (fCatL ar) := by
  intro φ M H x y a b Q W S ra rb h
  unfold fCatL at h
  cases e1 : lstOf M a with
  | none => rw [e1] at h; exact h.elim
  | some ds =>
    cases e2 : lstOf M b with
    | none => rw [e1, e2] at h; exact h.elim
    | some es =>
      rw [e1, e2] at h
      obtain ⟨l, xs, rfl, h1, r1⟩ := lstOf_rep S ra e1
      obtain ⟨k, ys, rfl, h2, r2⟩ := lstOf_rep S rb e2
      obtain ⟨z, w⟩ := newL_here S (r1.app r2) h
      rw [List.length_append] at z
      exact ⟨l, k, xs, ys, rfl, rfl, h1, h2, z, w⟩
theorem fCatL_lst {ds es : List D} {M : Mem} (h : ds.length + es.length ≤ 100000) : fCatL false (.lst ds) (.lst es) M = .ok (.lst (ds ++ es)) M := by
  unfold fCatL
  dsimp only [lstOf]
  unfold newL
  rw [show lineB (ds ++ es).length = true from Nat.ble_eq_true_of_le (by rw [List.length_append]; exact h)]
end LF
set_option Elab.async false
set_option linter.all false
set_option maxRecDepth 100000
set_option maxHeartbeats 8000000
/-! K10: the walk: each def of the row, what it does on plain data. -/
namespace K10
open PySem PySem.Spec PyProof.Rows L2 LF
noncomputable section
def top (i : Nat) : Stmt := PySem.Challenge.pw_leafhouse_k10_whole_shelves_alike.main.body.getD i (.Pass ⟨0, 0, 0, 0⟩)
def c_SIGNS : Str := "0123456789abcdefghijklmnopqrstuvwxyzABCDEFGHIJKLMNOPQRSTUVWXYZ+-"
def xtab : XTab := [("BadPage", ["BadPage", "TableError"]), ("BadSize", ["BadSize", "TableError"]), ("BadText", ["BadText", "TableError"])]
def xU : List Str := ["BadPage", "BadText"]
def xV : List Str := ["TableError", "BadText", "BadPage"]
def itab : ITab := [("Head", ["top", "depth", "amount", "free"]), ("Leaf", ["entries"]), ("Fork", ["parting", "kids"]), ("Rest", ["text", "behind"]), ("Free", ["behind"]), ("Parts", ["text", "place"]), ("Disk", ["size", "texts", "lines", "begun", "due", "cut", "on"]), ("Shelf", ["disk", "most", "there", "altered", "came"])]
abbrev s_BadPage___init__ : Stmt := sub (top 6) 0
abbrev s_is_whole : Stmt := top 14
abbrev s_is_text : Stmt := top 15
abbrev s_number_of : Stmt := top 17
abbrev s_Head___init__ : Stmt := sub (top 33) 0
abbrev s_Head_letter : Stmt := sub (top 33) 1
abbrev s_Leaf___init__ : Stmt := sub (top 34) 0
abbrev s_Leaf_letter : Stmt := sub (top 34) 1
abbrev s_Fork___init__ : Stmt := sub (top 35) 0
abbrev s_Fork_letter : Stmt := sub (top 35) 1
abbrev s_Rest___init__ : Stmt := sub (top 36) 0
abbrev s_Rest_letter : Stmt := sub (top 36) 1
abbrev s_Free___init__ : Stmt := sub (top 37) 0
abbrev s_Free_letter : Stmt := sub (top 37) 1
abbrev s_has_word : Stmt := top 38
abbrev s_Parts___init__ : Stmt := sub (top 50) 0
abbrev s_Shelf_thin : Stmt := sub (top 59) 1
abbrev s_Shelf_changed : Stmt := sub (top 59) 5
abbrev s_Shelf_held : Stmt := sub (top 59) 6
abbrev s_Shelf_forget : Stmt := sub (top 59) 9
abbrev s_Disk_pages : Stmt := sub (top 61) 1
abbrev s_Disk_rows : Stmt := sub (top 61) 2
abbrev s_Disk_writes : Stmt := sub (top 61) 3
abbrev s_Disk_begin_one : Stmt := sub (top 61) 7
abbrev s_Disk_end_one : Stmt := sub (top 61) 8
abbrev s_Disk_part_of : Stmt := sub (top 61) 9
abbrev s__law_draw : Stmt := top 63
abbrev s__law_tape : Stmt := top 64
abbrev s__law_signs : Stmt := top 65
abbrev s__law_due : Stmt := top 71
abbrev s_digits : Stmt := top 16
abbrev s_is_number : Stmt := top 24
abbrev s_is_key : Stmt := top 25
abbrev s_is_value : Stmt := top 26
abbrev s_is_size : Stmt := top 44
abbrev s_Shelf___init__ : Stmt := sub (top 59) 0
abbrev s__law_text : Stmt := top 66
abbrev s__law_size : Stmt := top 70
abbrev s__law_held_right : Stmt := top 74
abbrev s__law_forgotten : Stmt := top 77
abbrev s_check_of : Stmt := top 18
abbrev s_are_keys : Stmt := top 27
abbrev s_is_cell : Stmt := top 28
abbrev s_cell_body : Stmt := top 30
abbrev s_key_body : Stmt := top 31
abbrev s_Head_body : Stmt := sub (top 33) 2
abbrev s_Rest_body : Stmt := sub (top 36) 2
abbrev s_Free_body : Stmt := sub (top 37) 2
abbrev s_need_size : Stmt := top 45
abbrev s_Parts_signs : Stmt := sub (top 50) 1
abbrev s_Disk___init__ : Stmt := sub (top 61) 0
abbrev s__law_keys : Stmt := top 67
abbrev s__law_longer : Stmt := top 68
abbrev s_is_row : Stmt := top 29
abbrev s_Leaf_body : Stmt := sub (top 34) 2
abbrev s_Fork_body : Stmt := sub (top 35) 2
abbrev s_Parts_figure : Stmt := sub (top 50) 2
abbrev s_Parts_others : Stmt := sub (top 50) 3
abbrev s_made : Stmt := top 39
abbrev s_cell_in : Stmt := top 51
abbrev s_key_in : Stmt := top 52
abbrev s_is_page : Stmt := top 46
abbrev s_need_page : Stmt := top 47
abbrev s_shape_in : Stmt := top 53
abbrev s_body_of : Stmt := top 48
abbrev s_page_text : Stmt := top 49
abbrev s_page_of : Stmt := top 54
abbrev s_fit_text : Stmt := top 58
abbrev s__law_page : Stmt := top 69
abbrev s__law_disks_right : Stmt := top 73
abbrev s_Shelf_read_one : Stmt := sub (top 59) 2
abbrev s_Shelf_put : Stmt := sub (top 59) 4
abbrev s_Disk_write : Stmt := sub (top 61) 10
abbrev s_Shelf_page : Stmt := sub (top 59) 3
abbrev s_Shelf_write : Stmt := sub (top 59) 7
abbrev s__law_all_told : Stmt := top 72
abbrev s__law_write : Stmt := top 75
abbrev s__law_asked_or_put : Stmt := top 76
abbrev s__law_written : Stmt := top 78
abbrev s_law : Stmt := top 79
structure Top (K : Frg) (mg : Str → Option Value) : Prop where
  g_all : mg "all" = none
  g_bool : mg "bool" = none
  g_enumerate : mg "enumerate" = none
  g_int : mg "int" = none
  g_isinstance : mg "isinstance" = none
  g_len : mg "len" = none
  g_list : mg "list" = none
  g_max : mg "max" = none
  g_ord : mg "ord" = none
  g_range : mg "range" = none
  g_reversed : mg "reversed" = none
  g_set : mg "set" = none
  g_sorted : mg "sorted" = none
  g_str : mg "str" = none
  g_tuple : mg "tuple" = none
  g_zip : mg "zip" = none
  g_AHEAD : ∃ t, mg "AHEAD" = some (.int 31 t)
  g_AROUND : ∃ t, mg "AROUND" = some (.int 5 t)
  g_CHECK : ∃ t, mg "CHECK" = some (.int 4093 t)
  g_LEAST_HELD : ∃ t, mg "LEAST_HELD" = some (.int 2 t)
  g_LEAST_SIZE : ∃ t, mg "LEAST_SIZE" = some (.int 64 t)
  g_MOST_HELD : ∃ t, mg "MOST_HELD" = some (.int 40 t)
  g_MOST_KEY : ∃ t, mg "MOST_KEY" = some (.int 12 t)
  g_MOST_MANY : ∃ t, mg "MOST_MANY" = some (.int 3 t)
  g_MOST_NUMBER : ∃ t, mg "MOST_NUMBER" = some (.int 4095 t)
  g_MOST_ROWS : ∃ t, mg "MOST_ROWS" = some (.int 63 t)
  g_MOST_SIZE : ∃ t, mg "MOST_SIZE" = some (.int 200 t)
  g_MOST_VALUE : ∃ t, mg "MOST_VALUE" = some (.int 400 t)
  g_PERCENT : ∃ t, mg "PERCENT" = some (.int 37 t)
  g_SIGNS : ∃ t, mg "SIGNS" = some (.str c_SIGNS t)
  g_BadPage : mg "BadPage" = some (.ref (He.ga K "BadPage"))
  g_BadText : mg "BadText" = some (.ref (He.ga K "BadText"))
  g_Disk : mg "Disk" = some (.ref (He.ga K "Disk"))
  g_Fork : mg "Fork" = some (.ref (He.ga K "Fork"))
  g_Free : mg "Free" = some (.ref (He.ga K "Free"))
  g_Head : mg "Head" = some (.ref (He.ga K "Head"))
  g_Leaf : mg "Leaf" = some (.ref (He.ga K "Leaf"))
  g_Parts : mg "Parts" = some (.ref (He.ga K "Parts"))
  g_Rest : mg "Rest" = some (.ref (He.ga K "Rest"))
  g_Shelf : mg "Shelf" = some (.ref (He.ga K "Shelf"))
  g_TableError : mg "TableError" = some (.ref (He.ga K "TableError"))
  e_BadNumber : ExcOk K mg "BadNumber"
  e_BadSize : ExcOk K mg "BadSize"
  e_BadText : ExcOk K mg "BadText"
  e_PowerGone : ExcOk K mg "PowerGone"
  cl_Head : Cls K (He.ga K "Head")
  cl_Leaf : Cls K (He.ga K "Leaf")
  cl_Fork : Cls K (He.ga K "Fork")
  cl_Rest : Cls K (He.ga K "Rest")
  cl_Free : Cls K (He.ga K "Free")
  cl_Parts : Cls K (He.ga K "Parts")
  cl_Disk : Cls K (He.ga K "Disk")
  cl_Shelf : Cls K (He.ga K "Shelf")
  g_is_whole : mg "is_whole" = some (.ref (He.ga K "is_whole"))
  g_is_text : mg "is_text" = some (.ref (He.ga K "is_text"))
  g_number_of : mg "number_of" = some (.ref (He.ga K "number_of"))
  k_Head : Mk K (He.ga K "Head") (He.ma K (He.ga K "Head") "__init__")
  m_Head_letter : Meth K (He.ga K "Head") "letter" (He.ma K (He.ga K "Head") "letter")
  k_Leaf : Mk K (He.ga K "Leaf") (He.ma K (He.ga K "Leaf") "__init__")
  m_Leaf_letter : Meth K (He.ga K "Leaf") "letter" (He.ma K (He.ga K "Leaf") "letter")
  k_Fork : Mk K (He.ga K "Fork") (He.ma K (He.ga K "Fork") "__init__")
  m_Fork_letter : Meth K (He.ga K "Fork") "letter" (He.ma K (He.ga K "Fork") "letter")
  k_Rest : Mk K (He.ga K "Rest") (He.ma K (He.ga K "Rest") "__init__")
  m_Rest_letter : Meth K (He.ga K "Rest") "letter" (He.ma K (He.ga K "Rest") "letter")
  k_Free : Mk K (He.ga K "Free") (He.ma K (He.ga K "Free") "__init__")
  m_Free_letter : Meth K (He.ga K "Free") "letter" (He.ma K (He.ga K "Free") "letter")
  g_has_word : mg "has_word" = some (.ref (He.ga K "has_word"))
  k_Parts : Mk K (He.ga K "Parts") (He.ma K (He.ga K "Parts") "__init__")
  m_Shelf_thin : Meth K (He.ga K "Shelf") "thin" (He.ma K (He.ga K "Shelf") "thin")
  m_Shelf_changed : Meth K (He.ga K "Shelf") "changed" (He.ma K (He.ga K "Shelf") "changed")
  m_Shelf_held : Meth K (He.ga K "Shelf") "held" (He.ma K (He.ga K "Shelf") "held")
  m_Shelf_forget : Meth K (He.ga K "Shelf") "forget" (He.ma K (He.ga K "Shelf") "forget")
  m_Disk_pages : Meth K (He.ga K "Disk") "pages" (He.ma K (He.ga K "Disk") "pages")
  m_Disk_rows : Meth K (He.ga K "Disk") "rows" (He.ma K (He.ga K "Disk") "rows")
  m_Disk_writes : Meth K (He.ga K "Disk") "writes" (He.ma K (He.ga K "Disk") "writes")
  m_Disk_begin_one : Meth K (He.ga K "Disk") "begin_one" (He.ma K (He.ga K "Disk") "begin_one")
  m_Disk_end_one : Meth K (He.ga K "Disk") "end_one" (He.ma K (He.ga K "Disk") "end_one")
  m_Disk_part_of : Meth K (He.ga K "Disk") "part_of" (He.ma K (He.ga K "Disk") "part_of")
  g__law_draw : mg "_law_draw" = some (.ref (He.ga K "_law_draw"))
  g__law_tape : mg "_law_tape" = some (.ref (He.ga K "_law_tape"))
  g__law_signs : mg "_law_signs" = some (.ref (He.ga K "_law_signs"))
  g__law_due : mg "_law_due" = some (.ref (He.ga K "_law_due"))
  g_digits : mg "digits" = some (.ref (He.ga K "digits"))
  g_is_number : mg "is_number" = some (.ref (He.ga K "is_number"))
  g_is_key : mg "is_key" = some (.ref (He.ga K "is_key"))
  g_is_value : mg "is_value" = some (.ref (He.ga K "is_value"))
  g_is_size : mg "is_size" = some (.ref (He.ga K "is_size"))
  k_Shelf : Mk K (He.ga K "Shelf") (He.ma K (He.ga K "Shelf") "__init__")
  g__law_text : mg "_law_text" = some (.ref (He.ga K "_law_text"))
  g__law_size : mg "_law_size" = some (.ref (He.ga K "_law_size"))
  g__law_held_right : mg "_law_held_right" = some (.ref (He.ga K "_law_held_right"))
  g__law_forgotten : mg "_law_forgotten" = some (.ref (He.ga K "_law_forgotten"))
  g_check_of : mg "check_of" = some (.ref (He.ga K "check_of"))
  g_are_keys : mg "are_keys" = some (.ref (He.ga K "are_keys"))
  g_is_cell : mg "is_cell" = some (.ref (He.ga K "is_cell"))
  g_cell_body : mg "cell_body" = some (.ref (He.ga K "cell_body"))
  g_key_body : mg "key_body" = some (.ref (He.ga K "key_body"))
  m_Head_body : Meth K (He.ga K "Head") "body" (He.ma K (He.ga K "Head") "body")
  m_Rest_body : Meth K (He.ga K "Rest") "body" (He.ma K (He.ga K "Rest") "body")
  m_Free_body : Meth K (He.ga K "Free") "body" (He.ma K (He.ga K "Free") "body")
  g_need_size : mg "need_size" = some (.ref (He.ga K "need_size"))
  m_Parts_signs : Meth K (He.ga K "Parts") "signs" (He.ma K (He.ga K "Parts") "signs")
  k_Disk : Mk K (He.ga K "Disk") (He.ma K (He.ga K "Disk") "__init__")
  g__law_keys : mg "_law_keys" = some (.ref (He.ga K "_law_keys"))
  g__law_longer : mg "_law_longer" = some (.ref (He.ga K "_law_longer"))
  g_is_row : mg "is_row" = some (.ref (He.ga K "is_row"))
  m_Leaf_body : Meth K (He.ga K "Leaf") "body" (He.ma K (He.ga K "Leaf") "body")
  m_Fork_body : Meth K (He.ga K "Fork") "body" (He.ma K (He.ga K "Fork") "body")
  m_Parts_figure : Meth K (He.ga K "Parts") "figure" (He.ma K (He.ga K "Parts") "figure")
  m_Parts_others : Meth K (He.ga K "Parts") "others" (He.ma K (He.ga K "Parts") "others")
  g_made : mg "made" = some (.ref (He.ga K "made"))
  g_cell_in : mg "cell_in" = some (.ref (He.ga K "cell_in"))
  g_key_in : mg "key_in" = some (.ref (He.ga K "key_in"))
  g_is_page : mg "is_page" = some (.ref (He.ga K "is_page"))
  g_need_page : mg "need_page" = some (.ref (He.ga K "need_page"))
  g_shape_in : mg "shape_in" = some (.ref (He.ga K "shape_in"))
  g_body_of : mg "body_of" = some (.ref (He.ga K "body_of"))
  g_page_text : mg "page_text" = some (.ref (He.ga K "page_text"))
  g_page_of : mg "page_of" = some (.ref (He.ga K "page_of"))
  g_fit_text : mg "fit_text" = some (.ref (He.ga K "fit_text"))
  g__law_page : mg "_law_page" = some (.ref (He.ga K "_law_page"))
  g__law_disks_right : mg "_law_disks_right" = some (.ref (He.ga K "_law_disks_right"))
  m_Shelf_read_one : Meth K (He.ga K "Shelf") "read_one" (He.ma K (He.ga K "Shelf") "read_one")
  m_Shelf_put : Meth K (He.ga K "Shelf") "put" (He.ma K (He.ga K "Shelf") "put")
  m_Disk_write : Meth K (He.ga K "Disk") "write" (He.ma K (He.ga K "Disk") "write")
  m_Shelf_page : Meth K (He.ga K "Shelf") "page" (He.ma K (He.ga K "Shelf") "page")
  m_Shelf_write : Meth K (He.ga K "Shelf") "write" (He.ma K (He.ga K "Shelf") "write")
  g__law_all_told : mg "_law_all_told" = some (.ref (He.ga K "_law_all_told"))
  g__law_write : mg "_law_write" = some (.ref (He.ga K "_law_write"))
  g__law_asked_or_put : mg "_law_asked_or_put" = some (.ref (He.ga K "_law_asked_or_put"))
  g__law_written : mg "_law_written" = some (.ref (He.ga K "_law_written"))
  g_law : mg "law" = some (.ref (He.ga K "law"))
  d_BadPage___init__ : ∃ fd, FunD K "__init__" "BadPage.__init__" (defArgs s_BadPage___init__) (defBody s_BadPage___init__) (defScope s_BadPage___init__) [.non] [] (He.ma K (He.ga K "BadPage") "__init__") fd
  d_is_whole : ∃ fd, FunD K "is_whole" "is_whole" (defArgs s_is_whole) (defBody s_is_whole) (defScope s_is_whole) [] [] (He.ga K "is_whole") fd
  d_is_text : ∃ fd, FunD K "is_text" "is_text" (defArgs s_is_text) (defBody s_is_text) (defScope s_is_text) [] [] (He.ga K "is_text") fd
  d_number_of : ∃ fd, FunD K "number_of" "number_of" (defArgs s_number_of) (defBody s_number_of) (defScope s_number_of) [] [] (He.ga K "number_of") fd
  d_Head___init__ : ∃ fd, FunD K "__init__" "Head.__init__" (defArgs s_Head___init__) (defBody s_Head___init__) (defScope s_Head___init__) [] [] (He.ma K (He.ga K "Head") "__init__") fd
  d_Head_letter : ∃ fd, FunD K "letter" "Head.letter" (defArgs s_Head_letter) (defBody s_Head_letter) (defScope s_Head_letter) [] [] (He.ma K (He.ga K "Head") "letter") fd
  d_Leaf___init__ : ∃ fd, FunD K "__init__" "Leaf.__init__" (defArgs s_Leaf___init__) (defBody s_Leaf___init__) (defScope s_Leaf___init__) [] [] (He.ma K (He.ga K "Leaf") "__init__") fd
  d_Leaf_letter : ∃ fd, FunD K "letter" "Leaf.letter" (defArgs s_Leaf_letter) (defBody s_Leaf_letter) (defScope s_Leaf_letter) [] [] (He.ma K (He.ga K "Leaf") "letter") fd
  d_Fork___init__ : ∃ fd, FunD K "__init__" "Fork.__init__" (defArgs s_Fork___init__) (defBody s_Fork___init__) (defScope s_Fork___init__) [] [] (He.ma K (He.ga K "Fork") "__init__") fd
  d_Fork_letter : ∃ fd, FunD K "letter" "Fork.letter" (defArgs s_Fork_letter) (defBody s_Fork_letter) (defScope s_Fork_letter) [] [] (He.ma K (He.ga K "Fork") "letter") fd
  d_Rest___init__ : ∃ fd, FunD K "__init__" "Rest.__init__" (defArgs s_Rest___init__) (defBody s_Rest___init__) (defScope s_Rest___init__) [] [] (He.ma K (He.ga K "Rest") "__init__") fd
  d_Rest_letter : ∃ fd, FunD K "letter" "Rest.letter" (defArgs s_Rest_letter) (defBody s_Rest_letter) (defScope s_Rest_letter) [] [] (He.ma K (He.ga K "Rest") "letter") fd
  d_Free___init__ : ∃ fd, FunD K "__init__" "Free.__init__" (defArgs s_Free___init__) (defBody s_Free___init__) (defScope s_Free___init__) [] [] (He.ma K (He.ga K "Free") "__init__") fd
  d_Free_letter : ∃ fd, FunD K "letter" "Free.letter" (defArgs s_Free_letter) (defBody s_Free_letter) (defScope s_Free_letter) [] [] (He.ma K (He.ga K "Free") "letter") fd
  d_has_word : ∃ fd, FunD K "has_word" "has_word" (defArgs s_has_word) (defBody s_has_word) (defScope s_has_word) [] [] (He.ga K "has_word") fd
  d_Parts___init__ : ∃ fd, FunD K "__init__" "Parts.__init__" (defArgs s_Parts___init__) (defBody s_Parts___init__) (defScope s_Parts___init__) [] [] (He.ma K (He.ga K "Parts") "__init__") fd
  d_Shelf_thin : ∃ fd, FunD K "thin" "Shelf.thin" (defArgs s_Shelf_thin) (defBody s_Shelf_thin) (defScope s_Shelf_thin) [] [] (He.ma K (He.ga K "Shelf") "thin") fd
  d_Shelf_changed : ∃ fd, FunD K "changed" "Shelf.changed" (defArgs s_Shelf_changed) (defBody s_Shelf_changed) (defScope s_Shelf_changed) [] [] (He.ma K (He.ga K "Shelf") "changed") fd
  d_Shelf_held : ∃ fd, FunD K "held" "Shelf.held" (defArgs s_Shelf_held) (defBody s_Shelf_held) (defScope s_Shelf_held) [] [] (He.ma K (He.ga K "Shelf") "held") fd
  d_Shelf_forget : ∃ fd, FunD K "forget" "Shelf.forget" (defArgs s_Shelf_forget) (defBody s_Shelf_forget) (defScope s_Shelf_forget) [] [] (He.ma K (He.ga K "Shelf") "forget") fd
  d_Disk_pages : ∃ fd, FunD K "pages" "Disk.pages" (defArgs s_Disk_pages) (defBody s_Disk_pages) (defScope s_Disk_pages) [] [] (He.ma K (He.ga K "Disk") "pages") fd
  d_Disk_rows : ∃ fd, FunD K "rows" "Disk.rows" (defArgs s_Disk_rows) (defBody s_Disk_rows) (defScope s_Disk_rows) [] [] (He.ma K (He.ga K "Disk") "rows") fd
  d_Disk_writes : ∃ fd, FunD K "writes" "Disk.writes" (defArgs s_Disk_writes) (defBody s_Disk_writes) (defScope s_Disk_writes) [] [] (He.ma K (He.ga K "Disk") "writes") fd
  d_Disk_begin_one : ∃ fd, FunD K "begin_one" "Disk.begin_one" (defArgs s_Disk_begin_one) (defBody s_Disk_begin_one) (defScope s_Disk_begin_one) [] [] (He.ma K (He.ga K "Disk") "begin_one") fd
  d_Disk_end_one : ∃ fd, FunD K "end_one" "Disk.end_one" (defArgs s_Disk_end_one) (defBody s_Disk_end_one) (defScope s_Disk_end_one) [] [] (He.ma K (He.ga K "Disk") "end_one") fd
  d_Disk_part_of : ∃ fd, FunD K "part_of" "Disk.part_of" (defArgs s_Disk_part_of) (defBody s_Disk_part_of) (defScope s_Disk_part_of) [] [] (He.ma K (He.ga K "Disk") "part_of") fd
  d__law_draw : ∃ fd, FunD K "_law_draw" "_law_draw" (defArgs s__law_draw) (defBody s__law_draw) (defScope s__law_draw) [] [] (He.ga K "_law_draw") fd
  d__law_tape : ∃ fd, FunD K "_law_tape" "_law_tape" (defArgs s__law_tape) (defBody s__law_tape) (defScope s__law_tape) [] [] (He.ga K "_law_tape") fd
  d__law_signs : ∃ fd, FunD K "_law_signs" "_law_signs" (defArgs s__law_signs) (defBody s__law_signs) (defScope s__law_signs) [] [] (He.ga K "_law_signs") fd
  d__law_due : ∃ fd, FunD K "_law_due" "_law_due" (defArgs s__law_due) (defBody s__law_due) (defScope s__law_due) [] [] (He.ga K "_law_due") fd
  d_digits : ∃ fd, FunD K "digits" "digits" (defArgs s_digits) (defBody s_digits) (defScope s_digits) [] [] (He.ga K "digits") fd
  d_is_number : ∃ fd, FunD K "is_number" "is_number" (defArgs s_is_number) (defBody s_is_number) (defScope s_is_number) [.int 0] [] (He.ga K "is_number") fd
  d_is_key : ∃ fd, FunD K "is_key" "is_key" (defArgs s_is_key) (defBody s_is_key) (defScope s_is_key) [] [] (He.ga K "is_key") fd
  d_is_value : ∃ fd, FunD K "is_value" "is_value" (defArgs s_is_value) (defBody s_is_value) (defScope s_is_value) [] [] (He.ga K "is_value") fd
  d_is_size : ∃ fd, FunD K "is_size" "is_size" (defArgs s_is_size) (defBody s_is_size) (defScope s_is_size) [] [] (He.ga K "is_size") fd
  d_Shelf___init__ : ∃ fd, FunD K "__init__" "Shelf.__init__" (defArgs s_Shelf___init__) (defBody s_Shelf___init__) (defScope s_Shelf___init__) [] [] (He.ma K (He.ga K "Shelf") "__init__") fd
  d__law_text : ∃ fd, FunD K "_law_text" "_law_text" (defArgs s__law_text) (defBody s__law_text) (defScope s__law_text) [] [] (He.ga K "_law_text") fd
  d__law_size : ∃ fd, FunD K "_law_size" "_law_size" (defArgs s__law_size) (defBody s__law_size) (defScope s__law_size) [] [] (He.ga K "_law_size") fd
  d__law_held_right : ∃ fd, FunD K "_law_held_right" "_law_held_right" (defArgs s__law_held_right) (defBody s__law_held_right) (defScope s__law_held_right) [] [] (He.ga K "_law_held_right") fd
  d__law_forgotten : ∃ fd, FunD K "_law_forgotten" "_law_forgotten" (defArgs s__law_forgotten) (defBody s__law_forgotten) (defScope s__law_forgotten) [] [] (He.ga K "_law_forgotten") fd
  d_check_of : ∃ fd, FunD K "check_of" "check_of" (defArgs s_check_of) (defBody s_check_of) (defScope s_check_of) [] [] (He.ga K "check_of") fd
  d_are_keys : ∃ fd, FunD K "are_keys" "are_keys" (defArgs s_are_keys) (defBody s_are_keys) (defScope s_are_keys) [] [] (He.ga K "are_keys") fd
  d_is_cell : ∃ fd, FunD K "is_cell" "is_cell" (defArgs s_is_cell) (defBody s_is_cell) (defScope s_is_cell) [] [] (He.ga K "is_cell") fd
  d_cell_body : ∃ fd, FunD K "cell_body" "cell_body" (defArgs s_cell_body) (defBody s_cell_body) (defScope s_cell_body) [] [] (He.ga K "cell_body") fd
  d_key_body : ∃ fd, FunD K "key_body" "key_body" (defArgs s_key_body) (defBody s_key_body) (defScope s_key_body) [] [] (He.ga K "key_body") fd
  d_Head_body : ∃ fd, FunD K "body" "Head.body" (defArgs s_Head_body) (defBody s_Head_body) (defScope s_Head_body) [] [] (He.ma K (He.ga K "Head") "body") fd
  d_Rest_body : ∃ fd, FunD K "body" "Rest.body" (defArgs s_Rest_body) (defBody s_Rest_body) (defScope s_Rest_body) [] [] (He.ma K (He.ga K "Rest") "body") fd
  d_Free_body : ∃ fd, FunD K "body" "Free.body" (defArgs s_Free_body) (defBody s_Free_body) (defScope s_Free_body) [] [] (He.ma K (He.ga K "Free") "body") fd
  d_need_size : ∃ fd, FunD K "need_size" "need_size" (defArgs s_need_size) (defBody s_need_size) (defScope s_need_size) [] [] (He.ga K "need_size") fd
  d_Parts_signs : ∃ fd, FunD K "signs" "Parts.signs" (defArgs s_Parts_signs) (defBody s_Parts_signs) (defScope s_Parts_signs) [] [] (He.ma K (He.ga K "Parts") "signs") fd
  d_Disk___init__ : ∃ fd, FunD K "__init__" "Disk.__init__" (defArgs s_Disk___init__) (defBody s_Disk___init__) (defScope s_Disk___init__) [] [] (He.ma K (He.ga K "Disk") "__init__") fd
  d__law_keys : ∃ fd, FunD K "_law_keys" "_law_keys" (defArgs s__law_keys) (defBody s__law_keys) (defScope s__law_keys) [] [] (He.ga K "_law_keys") fd
  d__law_longer : ∃ fd, FunD K "_law_longer" "_law_longer" (defArgs s__law_longer) (defBody s__law_longer) (defScope s__law_longer) [] [] (He.ga K "_law_longer") fd
  d_is_row : ∃ fd, FunD K "is_row" "is_row" (defArgs s_is_row) (defBody s_is_row) (defScope s_is_row) [] [] (He.ga K "is_row") fd
  d_Leaf_body : ∃ fd, FunD K "body" "Leaf.body" (defArgs s_Leaf_body) (defBody s_Leaf_body) (defScope s_Leaf_body) [] [] (He.ma K (He.ga K "Leaf") "body") fd
  d_Fork_body : ∃ fd, FunD K "body" "Fork.body" (defArgs s_Fork_body) (defBody s_Fork_body) (defScope s_Fork_body) [] [] (He.ma K (He.ga K "Fork") "body") fd
  d_Parts_figure : ∃ fd, FunD K "figure" "Parts.figure" (defArgs s_Parts_figure) (defBody s_Parts_figure) (defScope s_Parts_figure) [] [] (He.ma K (He.ga K "Parts") "figure") fd
  d_Parts_others : ∃ fd, FunD K "others" "Parts.others" (defArgs s_Parts_others) (defBody s_Parts_others) (defScope s_Parts_others) [] [] (He.ma K (He.ga K "Parts") "others") fd
  d_made : ∃ fd, FunD K "made" "made" (defArgs s_made) (defBody s_made) (defScope s_made) [] [] (He.ga K "made") fd
  d_cell_in : ∃ fd, FunD K "cell_in" "cell_in" (defArgs s_cell_in) (defBody s_cell_in) (defScope s_cell_in) [] [] (He.ga K "cell_in") fd
  d_key_in : ∃ fd, FunD K "key_in" "key_in" (defArgs s_key_in) (defBody s_key_in) (defScope s_key_in) [] [] (He.ga K "key_in") fd
  d_is_page : ∃ fd, FunD K "is_page" "is_page" (defArgs s_is_page) (defBody s_is_page) (defScope s_is_page) [] [] (He.ga K "is_page") fd
  d_need_page : ∃ fd, FunD K "need_page" "need_page" (defArgs s_need_page) (defBody s_need_page) (defScope s_need_page) [] [] (He.ga K "need_page") fd
  d_shape_in : ∃ fd, FunD K "shape_in" "shape_in" (defArgs s_shape_in) (defBody s_shape_in) (defScope s_shape_in) [] [] (He.ga K "shape_in") fd
  d_body_of : ∃ fd, FunD K "body_of" "body_of" (defArgs s_body_of) (defBody s_body_of) (defScope s_body_of) [] [] (He.ga K "body_of") fd
  d_page_text : ∃ fd, FunD K "page_text" "page_text" (defArgs s_page_text) (defBody s_page_text) (defScope s_page_text) [] [] (He.ga K "page_text") fd
  d_page_of : ∃ fd, FunD K "page_of" "page_of" (defArgs s_page_of) (defBody s_page_of) (defScope s_page_of) [] [] (He.ga K "page_of") fd
  d_fit_text : ∃ fd, FunD K "fit_text" "fit_text" (defArgs s_fit_text) (defBody s_fit_text) (defScope s_fit_text) [] [] (He.ga K "fit_text") fd
  d__law_page : ∃ fd, FunD K "_law_page" "_law_page" (defArgs s__law_page) (defBody s__law_page) (defScope s__law_page) [] [] (He.ga K "_law_page") fd
  d__law_disks_right : ∃ fd, FunD K "_law_disks_right" "_law_disks_right" (defArgs s__law_disks_right) (defBody s__law_disks_right) (defScope s__law_disks_right) [] [] (He.ga K "_law_disks_right") fd
  d_Shelf_read_one : ∃ fd, FunD K "read_one" "Shelf.read_one" (defArgs s_Shelf_read_one) (defBody s_Shelf_read_one) (defScope s_Shelf_read_one) [] [] (He.ma K (He.ga K "Shelf") "read_one") fd
  d_Shelf_put : ∃ fd, FunD K "put" "Shelf.put" (defArgs s_Shelf_put) (defBody s_Shelf_put) (defScope s_Shelf_put) [] [] (He.ma K (He.ga K "Shelf") "put") fd
  d_Disk_write : ∃ fd, FunD K "write" "Disk.write" (defArgs s_Disk_write) (defBody s_Disk_write) (defScope s_Disk_write) [] [] (He.ma K (He.ga K "Disk") "write") fd
  d_Shelf_page : ∃ fd, FunD K "page" "Shelf.page" (defArgs s_Shelf_page) (defBody s_Shelf_page) (defScope s_Shelf_page) [] [] (He.ma K (He.ga K "Shelf") "page") fd
  d_Shelf_write : ∃ fd, FunD K "write" "Shelf.write" (defArgs s_Shelf_write) (defBody s_Shelf_write) (defScope s_Shelf_write) [] [] (He.ma K (He.ga K "Shelf") "write") fd
  d__law_all_told : ∃ fd, FunD K "_law_all_told" "_law_all_told" (defArgs s__law_all_told) (defBody s__law_all_told) (defScope s__law_all_told) [] [] (He.ga K "_law_all_told") fd
  d__law_write : ∃ fd, FunD K "_law_write" "_law_write" (defArgs s__law_write) (defBody s__law_write) (defScope s__law_write) [] [] (He.ga K "_law_write") fd
  d__law_asked_or_put : ∃ fd, FunD K "_law_asked_or_put" "_law_asked_or_put" (defArgs s__law_asked_or_put) (defBody s__law_asked_or_put) (defScope s__law_asked_or_put) [] [] (He.ga K "_law_asked_or_put") fd
  d__law_written : ∃ fd, FunD K "_law_written" "_law_written" (defArgs s__law_written) (defBody s__law_written) (defScope s__law_written) [] [] (He.ga K "_law_written") fd
  d_law : ∃ fd, FunD K "law" "law" (defArgs s_law) (defBody s_law) (defScope s_law) [] [] (He.ga K "law") fd
  x : XFacts K xtab xU xV
  i : IFacts K itab
  oe_BadPage : OexC K (He.ga K "BadPage") ∧ PySem.W.findIn K (.ref (He.ga K "BadPage")) "number" = some none
  in_BadPage : PySem.W.findIn K (.ref (He.ga K "BadPage")) "__init__" = some (some (.ref (He.ma K (He.ga K "BadPage") "__init__"))) ∧ PySem.W.typeIn K (.ref (He.ma K (He.ga K "BadPage") "__init__")) = some (.type "function")
  ba_TableError : BaseC K (He.ga K "TableError")
section
variable {P : Program} {w : World} {K : Frg} {mg : Str → Option Value} {base : Heap}
def N_BadPage___init__ : List Str := ["self", "number"]
theorem sc_BadPage___init__ : FnScope N_BadPage___init__ ["self", "number"] (defScope s_BadPage___init__) := ⟨rfl, rfl, rfl, by decide +kernel, rfl, by decide +kernel, by decide +kernel⟩
theorem ex_BadPage (T : Top K mg) : ExiOk P w K mg base 1 "BadPage" "number" := by
  obtain ⟨fd, G⟩ := T.d_BadPage___init__
  exact exi_byD (msg := "no page") (N := N_BadPage___init__) T.g_BadPage T.oe_BadPage.1 T.oe_BadPage.2 T.in_BadPage G sc_BadPage___init__ rfl rfl (fun _ _ _ _ _ _ _ us its hu hi => match us, its, hu, hi with | [_, _], [_], _, _ => ⟨_, rfl, rfl⟩) (fun _ _ _ _ _ _ _ us its hu hi => match us, its, hu, hi with | [_], [_], _, _ => ⟨_, rfl, rfl⟩) (fun cdv A outer s H E => pss_cons (ps_expr (pe_ownInit (b := "TableError") T.ba_TableError rfl T.g_TableError (pa_cons (pe_var (i := 0) rfl (.inl rfl)) (pa_cons pe_str pa_nil)))) (pss_one (ps_ost (pe_var (i := 0) rfl (.inl rfl)) (pe_var (i := 1) rfl (.inl rfl)))))
def N_is_whole : List Str := ["thing"]
theorem sc_is_whole : FnScope N_is_whole ["thing"] (defScope s_is_whole) := ⟨rfl, rfl, rfl, by decide +kernel, rfl, by decide +kernel, by decide +kernel⟩
def b_is_whole : DS :=
  (dRet (dAndV (dIsB (fun t => t == "int" || t == "bool") (dVar 0)) (dNotV (dIsB (fun t => t == "bool") (dVar 0)))))
def f_is_whole : FN := runB 1 b_is_whole
theorem ok_is_whole (T : Top K mg) : DefOk P w K mg base 1 "is_whole" 1 f_is_whole := by
  obtain ⟨fd, G⟩ := T.d_is_whole
  refine def_by T.g_is_whole G sc_is_whole rfl (fun _ _ _ _ _ _ us hl => match us, hl with | [_], _ => rfl) (fun cdv A outer s H E hr tk hp =>
  (db_one (ds_ret (de_and (de_isiB (T := "int") (by decide +kernel) rfl T.g_isinstance rfl T.g_int (by decide +kernel) (de_var (i := 0) rfl (.inl rfl))) (de_one (de_not (de_isiB (T := "bool") (by decide +kernel) rfl T.g_isinstance rfl T.g_bool (by decide +kernel) (de_var (i := 0) rfl (.inl rfl)))))))))
def N_is_text : List Str := ["thing", "sign"]
theorem sc_is_text : FnScope N_is_text ["thing"] (defScope s_is_text) := ⟨rfl, rfl, rfl, by decide +kernel, rfl, by decide +kernel, by decide +kernel⟩
def c1_is_text : DE :=
  (dAndV (dChain fLeX fLeX (dC (.str " ")) (dVar 1) (dC (.str "~"))) (dBin fNe (dCB fOrd (dCons (dVar 1) dNil)) (dC (.int 37))))
def b_is_text : DS :=
  (dSeq (dIf (dNot (dTest (dIsB (fun t => t == "str") (dVar 0))))
   (dRet (dC (.bl false)))
   dNext)
  (dRet (dCB fAll (dCons (dComp (dItS (dVar 0)) (gSlot 1) dYes c1_is_text [1]) dNil))))
def f_is_text : FN := runB 2 b_is_text
theorem ok_is_text (T : Top K mg) : DefOk P w K mg base 1 "is_text" 1 f_is_text := by
  obtain ⟨fd, G⟩ := T.d_is_text
  refine def_by T.g_is_text G sc_is_text rfl (fun _ _ _ _ _ _ us hl => match us, hl with | [_], _ => rfl) (fun cdv A outer s H E hr tk hp =>
  (db_cons (ds_if (dt_not (dt_val (de_isiB (T := "str") (by decide +kernel) rfl T.g_isinstance rfl T.g_str (by decide +kernel) (de_var (i := 0) rfl (.inl rfl)))))
   (db_one (ds_ret de_bl))
   db_nil)
  (db_one (ds_ret (de_callB (cr_all rfl) o_all rfl T.g_all (by decide +kernel) (da_cons (de_comp (own := [("sign", 1)]) rfl sc_is_text.nd (di_str (de_var (i := 0) rfl (.inl rfl))) (show BlkOk N_is_text (defScope s_is_text) _ _ from blk_of (by decide +kernel)) (fun _ _ _ _ _ => (dc_name sc_is_text.nd rfl (.inl rfl) (by simp))) (fun _ _ _ _ _ => dp_nil) (fun _ _ _ _ _ => (de_and (de_chain opr_leX o_leX opr_leX o_leX de_str (de_var (i := 1) rfl (.inl rfl)) de_str) (de_one (de_cmp (op_neD hr.units) o_ne (de_callB call_ord o_ord rfl T.g_ord (by decide +kernel) (da_cons (de_var (i := 1) rfl (.inl rfl)) da_nil)) (de_gint rfl T.g_PERCENT)))))) da_nil))))))
def N_number_of : List Str := ["text", "found", "sign", "place"]
theorem sc_number_of : FnScope N_number_of ["text"] (defScope s_number_of) := ⟨rfl, rfl, rfl, by decide +kernel, rfl, by decide +kernel, by decide +kernel⟩
def l1_number_of : DS :=
  (dSeq (dAsg (dM1 (mInt PySem.Txt.find) (dC (.str c_SIGNS)) (dVar 2)) (gSlot 3))
   (dSeq (dIf (dTest (dBin fLtX (dVar 3) (dC (.int 0))))
    (dRaise "BadText")
    dNext)
   (dAsg (dBin fBitOr (dBin fShl (dVar 1) (dC (.int 6))) (dVar 3)) (gSlot 1))))
def b_number_of : DS :=
  (dSeq (dIf (dOr (dNot (dTest (dIsB (fun t => t == "str") (dVar 0)))) (dNot (dTest (dChain fLeX fLeX (dC (.int 1)) (dCB fLen (dCons (dVar 0) dNil)) (dC (.int 3))))))
   (dRaise "BadText")
   dNext)
  (dSeq (dAsg (dC (.int 0)) (gSlot 1))
  (dSeq (dFor (dItS (dVar 0)) (gSlot 2)
   l1_number_of)
  (dRet (dVar 1)))))
def f_number_of : FN := runB 4 b_number_of
theorem ok_number_of (T : Top K mg) : DefOk P w K mg base 1 "number_of" 1 f_number_of := by
  obtain ⟨fd, G⟩ := T.d_number_of
  refine def_by T.g_number_of G sc_number_of rfl (fun _ _ _ _ _ _ us hl => match us, hl with | [_], _ => rfl) (fun cdv A outer s H E hr tk hp =>
  (db_cons (ds_if (dt_w (dw_or (dt_not (dt_val (de_isiB (T := "str") (by decide +kernel) rfl T.g_isinstance rfl T.g_str (by decide +kernel) (de_var (i := 0) rfl (.inl rfl))))) (dw_or1 (dt_not (dt_chain opr_leX o_leX opr_leX o_leX de_int (de_callB c_len o_len rfl T.g_len (by decide +kernel) (da_cons (de_var (i := 0) rfl (.inl rfl)) da_nil)) (de_gint rfl T.g_MOST_MANY))))))
   (db_one (ds_raise T.e_BadText rfl tk rfl))
   db_nil)
  (db_cons (ds_set sc_number_of.nd (i := 1) rfl (.inl rfl) de_int)
  (db_cons (ds_for hp rfl (di_str (de_var (i := 0) rfl (.inl rfl))) (dg_name sc_number_of.nd (i := 2) rfl (.inl rfl))
   (db_cons (ds_set sc_number_of.nd (i := 3) rfl (.inl rfl) (de_find (de_gstr (z := c_SIGNS) rfl T.g_SIGNS) (de_var (i := 2) rfl (.inl rfl))))
   (db_cons (ds_if (dt_cmp opr_ltX o_ltX (de_var (i := 3) rfl (.inl rfl)) de_int)
    (db_one (ds_raise T.e_BadText rfl tk rfl))
    db_nil)
   (db_one (ds_set sc_number_of.nd (i := 1) rfl (.inl rfl) (de_bin op_or o_or (de_bin op_shl o_shl (de_var (i := 1) rfl (.inl rfl)) de_int) (de_var (i := 3) rfl (.inl rfl))))))))
  (db_one (ds_ret (de_var (i := 1) rfl (.inl rfl))))))))
def N_Head___init__ : List Str := ["self", "top", "depth", "amount", "free"]
theorem sc_Head___init__ : FnScope N_Head___init__ ["self", "top", "depth", "amount", "free"] (defScope s_Head___init__) := ⟨rfl, rfl, rfl, by decide +kernel, rfl, by decide +kernel, by decide +kernel⟩
def b_Head___init__ : DS :=
  (dSeq (dAttrPut (okF itab "top") "top" (dVar 0) (dVar 1))
  (dSeq (dAttrPut (okF itab "depth") "depth" (dVar 0) (dVar 2))
  (dSeq (dAttrPut (okF itab "amount") "amount" (dVar 0) (dVar 3))
  (dAttrPut (okF itab "free") "free" (dVar 0) (dVar 4)))))
def f_Head___init__ : FN := runB 5 b_Head___init__
theorem mk_Head (T : Top K mg) : MakeOk P w K mg base 1 "Head" 5 f_Head___init__ := by
  obtain ⟨fd, G⟩ := T.d_Head___init__
  refine make_by T.g_Head T.k_Head G sc_Head___init__ rfl (fun _ _ _ _ _ _ us hl => match us, hl with | [_, _, _, _, _], _ => rfl) (fun cdv A outer s H E hr tk hp =>
  (db_cons (ds_attr (fun _ h => T.i.fld h) (de_var (i := 0) rfl (.inl rfl)) (de_var (i := 1) rfl (.inl rfl)))
  (db_cons (ds_attr (fun _ h => T.i.fld h) (de_var (i := 0) rfl (.inl rfl)) (de_var (i := 2) rfl (.inl rfl)))
  (db_cons (ds_attr (fun _ h => T.i.fld h) (de_var (i := 0) rfl (.inl rfl)) (de_var (i := 3) rfl (.inl rfl)))
  (db_one (ds_attr (fun _ h => T.i.fld h) (de_var (i := 0) rfl (.inl rfl)) (de_var (i := 4) rfl (.inl rfl))))))))
def N_Head_letter : List Str := ["self"]
theorem sc_Head_letter : FnScope N_Head_letter ["self"] (defScope s_Head_letter) := ⟨rfl, rfl, rfl, by decide +kernel, rfl, by decide +kernel, by decide +kernel⟩
def b_Head_letter : DS :=
  (dRet (dC (.str "h")))
def f_Head_letter : FN := runB 1 b_Head_letter
theorem ok_Head_letter (T : Top K mg) : MethOk P w K mg base 1 "Head" "letter" 1 f_Head_letter := by
  obtain ⟨fd, G⟩ := T.d_Head_letter
  refine meth_by T.cl_Head T.m_Head_letter G sc_Head_letter rfl (fun _ _ _ _ _ _ us hl => match us, hl with | [_], _ => rfl) (fun cdv A outer s H E hr tk hp =>
  (db_one (ds_ret de_str)))
def N_Leaf___init__ : List Str := ["self", "entries"]
theorem sc_Leaf___init__ : FnScope N_Leaf___init__ ["self", "entries"] (defScope s_Leaf___init__) := ⟨rfl, rfl, rfl, by decide +kernel, rfl, by decide +kernel, by decide +kernel⟩
def b_Leaf___init__ : DS :=
  (dAttrPut (okF itab "entries") "entries" (dVar 0) (dVar 1))
def f_Leaf___init__ : FN := runB 2 b_Leaf___init__
theorem mk_Leaf (T : Top K mg) : MakeOk P w K mg base 1 "Leaf" 2 f_Leaf___init__ := by
  obtain ⟨fd, G⟩ := T.d_Leaf___init__
  refine make_by T.g_Leaf T.k_Leaf G sc_Leaf___init__ rfl (fun _ _ _ _ _ _ us hl => match us, hl with | [_, _], _ => rfl) (fun cdv A outer s H E hr tk hp =>
  (db_one (ds_attr (fun _ h => T.i.fld h) (de_var (i := 0) rfl (.inl rfl)) (de_var (i := 1) rfl (.inl rfl)))))
def N_Leaf_letter : List Str := ["self"]
theorem sc_Leaf_letter : FnScope N_Leaf_letter ["self"] (defScope s_Leaf_letter) := ⟨rfl, rfl, rfl, by decide +kernel, rfl, by decide +kernel, by decide +kernel⟩
def b_Leaf_letter : DS :=
  (dRet (dC (.str "l")))
def f_Leaf_letter : FN := runB 1 b_Leaf_letter
theorem ok_Leaf_letter (T : Top K mg) : MethOk P w K mg base 1 "Leaf" "letter" 1 f_Leaf_letter := by
  obtain ⟨fd, G⟩ := T.d_Leaf_letter
  refine meth_by T.cl_Leaf T.m_Leaf_letter G sc_Leaf_letter rfl (fun _ _ _ _ _ _ us hl => match us, hl with | [_], _ => rfl) (fun cdv A outer s H E hr tk hp =>
  (db_one (ds_ret de_str)))
def N_Fork___init__ : List Str := ["self", "keys", "kids"]
theorem sc_Fork___init__ : FnScope N_Fork___init__ ["self", "keys", "kids"] (defScope s_Fork___init__) := ⟨rfl, rfl, rfl, by decide +kernel, rfl, by decide +kernel, by decide +kernel⟩
def b_Fork___init__ : DS :=
  (dSeq (dAttrPut (okF itab "parting") "parting" (dVar 0) (dVar 1))
  (dAttrPut (okF itab "kids") "kids" (dVar 0) (dVar 2)))
def f_Fork___init__ : FN := runB 3 b_Fork___init__
theorem mk_Fork (T : Top K mg) : MakeOk P w K mg base 1 "Fork" 3 f_Fork___init__ := by
  obtain ⟨fd, G⟩ := T.d_Fork___init__
  refine make_by T.g_Fork T.k_Fork G sc_Fork___init__ rfl (fun _ _ _ _ _ _ us hl => match us, hl with | [_, _, _], _ => rfl) (fun cdv A outer s H E hr tk hp =>
  (db_cons (ds_attr (fun _ h => T.i.fld h) (de_var (i := 0) rfl (.inl rfl)) (de_var (i := 1) rfl (.inl rfl)))
  (db_one (ds_attr (fun _ h => T.i.fld h) (de_var (i := 0) rfl (.inl rfl)) (de_var (i := 2) rfl (.inl rfl))))))
def N_Fork_letter : List Str := ["self"]
theorem sc_Fork_letter : FnScope N_Fork_letter ["self"] (defScope s_Fork_letter) := ⟨rfl, rfl, rfl, by decide +kernel, rfl, by decide +kernel, by decide +kernel⟩
def b_Fork_letter : DS :=
  (dRet (dC (.str "f")))
def f_Fork_letter : FN := runB 1 b_Fork_letter
theorem ok_Fork_letter (T : Top K mg) : MethOk P w K mg base 1 "Fork" "letter" 1 f_Fork_letter := by
  obtain ⟨fd, G⟩ := T.d_Fork_letter
  refine meth_by T.cl_Fork T.m_Fork_letter G sc_Fork_letter rfl (fun _ _ _ _ _ _ us hl => match us, hl with | [_], _ => rfl) (fun cdv A outer s H E hr tk hp =>
  (db_one (ds_ret de_str)))
def N_Rest___init__ : List Str := ["self", "text", "next_one"]
theorem sc_Rest___init__ : FnScope N_Rest___init__ ["self", "text", "next_one"] (defScope s_Rest___init__) := ⟨rfl, rfl, rfl, by decide +kernel, rfl, by decide +kernel, by decide +kernel⟩
def b_Rest___init__ : DS :=
  (dSeq (dAttrPut (okF itab "text") "text" (dVar 0) (dVar 1))
  (dAttrPut (okF itab "behind") "behind" (dVar 0) (dVar 2)))
def f_Rest___init__ : FN := runB 3 b_Rest___init__
theorem mk_Rest (T : Top K mg) : MakeOk P w K mg base 1 "Rest" 3 f_Rest___init__ := by
  obtain ⟨fd, G⟩ := T.d_Rest___init__
  refine make_by T.g_Rest T.k_Rest G sc_Rest___init__ rfl (fun _ _ _ _ _ _ us hl => match us, hl with | [_, _, _], _ => rfl) (fun cdv A outer s H E hr tk hp =>
  (db_cons (ds_attr (fun _ h => T.i.fld h) (de_var (i := 0) rfl (.inl rfl)) (de_var (i := 1) rfl (.inl rfl)))
  (db_one (ds_attr (fun _ h => T.i.fld h) (de_var (i := 0) rfl (.inl rfl)) (de_var (i := 2) rfl (.inl rfl))))))
def N_Rest_letter : List Str := ["self"]
theorem sc_Rest_letter : FnScope N_Rest_letter ["self"] (defScope s_Rest_letter) := ⟨rfl, rfl, rfl, by decide +kernel, rfl, by decide +kernel, by decide +kernel⟩
def b_Rest_letter : DS :=
  (dRet (dC (.str "r")))
def f_Rest_letter : FN := runB 1 b_Rest_letter
theorem ok_Rest_letter (T : Top K mg) : MethOk P w K mg base 1 "Rest" "letter" 1 f_Rest_letter := by
  obtain ⟨fd, G⟩ := T.d_Rest_letter
  refine meth_by T.cl_Rest T.m_Rest_letter G sc_Rest_letter rfl (fun _ _ _ _ _ _ us hl => match us, hl with | [_], _ => rfl) (fun cdv A outer s H E hr tk hp =>
  (db_one (ds_ret de_str)))
def N_Free___init__ : List Str := ["self", "next_one"]
theorem sc_Free___init__ : FnScope N_Free___init__ ["self", "next_one"] (defScope s_Free___init__) := ⟨rfl, rfl, rfl, by decide +kernel, rfl, by decide +kernel, by decide +kernel⟩
def b_Free___init__ : DS :=
  (dAttrPut (okF itab "behind") "behind" (dVar 0) (dVar 1))
def f_Free___init__ : FN := runB 2 b_Free___init__
theorem mk_Free (T : Top K mg) : MakeOk P w K mg base 1 "Free" 2 f_Free___init__ := by
  obtain ⟨fd, G⟩ := T.d_Free___init__
  refine make_by T.g_Free T.k_Free G sc_Free___init__ rfl (fun _ _ _ _ _ _ us hl => match us, hl with | [_, _], _ => rfl) (fun cdv A outer s H E hr tk hp =>
  (db_one (ds_attr (fun _ h => T.i.fld h) (de_var (i := 0) rfl (.inl rfl)) (de_var (i := 1) rfl (.inl rfl)))))
def N_Free_letter : List Str := ["self"]
theorem sc_Free_letter : FnScope N_Free_letter ["self"] (defScope s_Free_letter) := ⟨rfl, rfl, rfl, by decide +kernel, rfl, by decide +kernel, by decide +kernel⟩
def b_Free_letter : DS :=
  (dRet (dC (.str "e")))
def f_Free_letter : FN := runB 1 b_Free_letter
theorem ok_Free_letter (T : Top K mg) : MethOk P w K mg base 1 "Free" "letter" 1 f_Free_letter := by
  obtain ⟨fd, G⟩ := T.d_Free_letter
  refine meth_by T.cl_Free T.m_Free_letter G sc_Free_letter rfl (fun _ _ _ _ _ _ us hl => match us, hl with | [_], _ => rfl) (fun cdv A outer s H E hr tk hp =>
  (db_one (ds_ret de_str)))
def mt_letter : MTab := tabOf [("Head", 1, f_Head_letter), ("Leaf", 1, f_Leaf_letter), ("Fork", 1, f_Fork_letter), ("Rest", 1, f_Rest_letter), ("Free", 1, f_Free_letter)]
theorem mt_letter_ok (T : Top K mg) : ∀ c n F, mt_letter c = some (n, F) → MethOk P w K mg base 1 c "letter" n F := by
  refine tab_all (R := fun c n F => MethOk P w K mg base 1 c "letter" n F) fun p hp => ?_
  simp only [List.mem_cons, List.mem_nil_iff, or_false] at hp
  rcases hp with rfl | rfl | rfl | rfl | rfl
  · exact (ok_Head_letter T).mono (by decide)
  · exact (ok_Leaf_letter T).mono (by decide)
  · exact (ok_Fork_letter T).mono (by decide)
  · exact (ok_Rest_letter T).mono (by decide)
  · exact (ok_Free_letter T).mono (by decide)
def N_has_word : List Str := ["thing", "word", "size"]
theorem sc_has_word : FnScope N_has_word ["thing", "word", "size"] (defScope s_has_word) := ⟨rfl, rfl, rfl, by decide +kernel, rfl, by decide +kernel, by decide +kernel⟩
def b_has_word : DS :=
  (dRet (dAndV (dIsB (fun t => t == "tuple") (dVar 0)) (dAndV (dBin fEq (dCB fLen (dCons (dVar 0) dNil)) (dVar 2)) (dAndV (dIsB (fun t => t == "str") (dBin fIx (dVar 0) (dC (.int 0)))) (dBin fEq (dBin fIx (dVar 0) (dC (.int 0))) (dVar 1))))))
def f_has_word : FN := runB 3 b_has_word
theorem ok_has_word (T : Top K mg) : DefOk P w K mg base 1 "has_word" 3 f_has_word := by
  obtain ⟨fd, G⟩ := T.d_has_word
  refine def_by T.g_has_word G sc_has_word rfl (fun _ _ _ _ _ _ us hl => match us, hl with | [_, _, _], _ => rfl) (fun cdv A outer s H E hr tk hp =>
  (db_one (ds_ret (de_and (de_isiB (T := "tuple") (by decide +kernel) rfl T.g_isinstance rfl T.g_tuple (by decide +kernel) (de_var (i := 0) rfl (.inl rfl))) (de_and (de_cmp (op_eqD hr.units) o_eq (de_callB c_len o_len rfl T.g_len (by decide +kernel) (da_cons (de_var (i := 0) rfl (.inl rfl)) da_nil)) (de_var (i := 2) rfl (.inl rfl))) (de_and (de_isiB (T := "str") (by decide +kernel) rfl T.g_isinstance rfl T.g_str (by decide +kernel) (de_ix (de_var (i := 0) rfl (.inl rfl)) de_int)) (de_one (de_cmp (op_eqD hr.units) o_eq (de_ix (de_var (i := 0) rfl (.inl rfl)) de_int) (de_var (i := 1) rfl (.inl rfl))))))))))
def N_Parts___init__ : List Str := ["self", "text"]
theorem sc_Parts___init__ : FnScope N_Parts___init__ ["self", "text"] (defScope s_Parts___init__) := ⟨rfl, rfl, rfl, by decide +kernel, rfl, by decide +kernel, by decide +kernel⟩
def b_Parts___init__ : DS :=
  (dSeq (dAttrPut (okF itab "text") "text" (dVar 0) (dVar 1))
  (dAttrPut (okF itab "place") "place" (dVar 0) (dC (.int 0))))
def f_Parts___init__ : FN := runB 2 b_Parts___init__
theorem mk_Parts (T : Top K mg) : MakeOk P w K mg base 1 "Parts" 2 f_Parts___init__ := by
  obtain ⟨fd, G⟩ := T.d_Parts___init__
  refine make_by T.g_Parts T.k_Parts G sc_Parts___init__ rfl (fun _ _ _ _ _ _ us hl => match us, hl with | [_, _], _ => rfl) (fun cdv A outer s H E hr tk hp =>
  (db_cons (ds_attr (fun _ h => T.i.fld h) (de_var (i := 0) rfl (.inl rfl)) (de_var (i := 1) rfl (.inl rfl)))
  (db_one (ds_attr (fun _ h => T.i.fld h) (de_var (i := 0) rfl (.inl rfl)) de_int))))
def N_Shelf_thin : List Str := ["self", "number"]
theorem sc_Shelf_thin : FnScope N_Shelf_thin ["self"] (defScope s_Shelf_thin) := ⟨rfl, rfl, rfl, by decide +kernel, rfl, by decide +kernel, by decide +kernel⟩
def c1_Shelf_thin : DE :=
  (dVar 1)
def t2_Shelf_thin : DT :=
  (dTest (dBin (fDIn true) (dVar 1) (dUn (fAttr (okF itab "altered") "altered") (dVar 0))))
def l3_Shelf_thin : DS :=
  (dIf (dTest (dBin fGtX (dCB fLen (dCons (dUn (fAttr (okF itab "there") "there") (dVar 0)) dNil)) (dUn (fAttr (okF itab "most") "most") (dVar 0))))
    (dExpr (dDPop (dUn (fAttr (okF itab "there") "there") (dVar 0)) (dVar 1)))
    dNext)
def b_Shelf_thin : DS :=
  (dFor (dItL (dLockE (dUn (fAttr (okF itab "there") "there") (dVar 0)) (dComp (dItK (dUn (fAttr (okF itab "there") "there") (dVar 0))) (gSlot 1) t2_Shelf_thin c1_Shelf_thin [1]))) (gSlot 1)
   l3_Shelf_thin)
def f_Shelf_thin : FN := runB 2 b_Shelf_thin
theorem ok_Shelf_thin (T : Top K mg) : MethOk P w K mg base 1 "Shelf" "thin" 1 f_Shelf_thin := by
  obtain ⟨fd, G⟩ := T.d_Shelf_thin
  refine meth_by T.cl_Shelf T.m_Shelf_thin G sc_Shelf_thin rfl (fun _ _ _ _ _ _ us hl => match us, hl with | [_], _ => rfl) (fun cdv A outer s H E hr tk hp =>
  (db_one (ds_for hp rfl (di_list (de_lockE (dUn (fAttr (okF itab "there") "there") (dVar 0)) (de_comp (own := [("number", 1)]) rfl sc_Shelf_thin.nd (di_keys (de_attr (fun _ h => T.i.fld h) (de_var (i := 0) rfl (.inr (.inl rfl))))) (show BlkOk N_Shelf_thin (defScope s_Shelf_thin) _ _ from blk_of (by decide +kernel)) (fun _ _ _ _ _ => (dc_name sc_Shelf_thin.nd rfl (.inl rfl) (by simp))) (fun _ _ _ _ _ => (dp_one (dt_cmp (op_dnotin (room1 hr)) o_din (de_var (i := 1) rfl (.inl rfl)) (de_attr (fun _ h => T.i.fld h) (de_var (i := 0) rfl (.inr (.inl rfl))))))) (fun _ _ _ _ _ => (de_var (i := 1) rfl (.inl rfl)))))) (dg_name sc_Shelf_thin.nd (i := 1) rfl (.inl rfl))
   (db_one (ds_if (dt_cmp opr_gtX o_gtX (de_callB c_len o_len rfl T.g_len (by decide +kernel) (da_cons (de_attr (fun _ h => T.i.fld h) (de_var (i := 0) rfl (.inr (.inl rfl)))) da_nil)) (de_attr (fun _ h => T.i.fld h) (de_var (i := 0) rfl (.inr (.inl rfl)))))
    (db_one (ds_expr (de_dpop (de_attr (fun _ h => T.i.fld h) (de_var (i := 0) rfl (.inr (.inl rfl)))) (de_var (i := 1) rfl (.inl rfl)) ⟨rfl, rfl, rfl, rfl⟩)))
    db_nil)))))
def mt_thin : MTab := tabOf [("Shelf", 1, f_Shelf_thin)]
theorem mt_thin_ok (T : Top K mg) : ∀ c n F, mt_thin c = some (n, F) → MethOk P w K mg base 1 c "thin" n F := by
  refine tab_all (R := fun c n F => MethOk P w K mg base 1 c "thin" n F) fun p hp => ?_
  simp only [List.mem_cons, List.mem_nil_iff, or_false] at hp
  rcases hp with rfl
  · exact (ok_Shelf_thin T).mono (by decide)
def N_Shelf_changed : List Str := ["self"]
theorem sc_Shelf_changed : FnScope N_Shelf_changed ["self"] (defScope s_Shelf_changed) := ⟨rfl, rfl, rfl, by decide +kernel, rfl, by decide +kernel, by decide +kernel⟩
def b_Shelf_changed : DS :=
  (dRet (dCB (fSortI false) (dCons (dCB (fListD false) (dCons (dUn (fAttr (okF itab "altered") "altered") (dVar 0)) dNil)) dNil)))
def f_Shelf_changed : FN := runB 1 b_Shelf_changed
theorem ok_Shelf_changed (T : Top K mg) : MethOk P w K mg base 1 "Shelf" "changed" 1 f_Shelf_changed := by
  obtain ⟨fd, G⟩ := T.d_Shelf_changed
  refine meth_by T.cl_Shelf T.m_Shelf_changed G sc_Shelf_changed rfl (fun _ _ _ _ _ _ us hl => match us, hl with | [_], _ => rfl) (fun cdv A outer s H E hr tk hp =>
  (db_one (ds_ret (de_callB cr_sorted o_sortI rfl T.g_sorted (by decide +kernel) (da_cons (de_callTy (call_listD rfl) o_listD rfl T.g_list (by decide +kernel) (da_cons (de_attr (fun _ h => T.i.fld h) (de_var (i := 0) rfl (.inl rfl))) da_nil)) da_nil)))))
def mt_changed : MTab := tabOf [("Shelf", 1, f_Shelf_changed)]
theorem mt_changed_ok (T : Top K mg) : ∀ c n F, mt_changed c = some (n, F) → MethOk P w K mg base 1 c "changed" n F := by
  refine tab_all (R := fun c n F => MethOk P w K mg base 1 c "changed" n F) fun p hp => ?_
  simp only [List.mem_cons, List.mem_nil_iff, or_false] at hp
  rcases hp with rfl
  · exact (ok_Shelf_changed T).mono (by decide)
def N_Shelf_held : List Str := ["self"]
theorem sc_Shelf_held : FnScope N_Shelf_held ["self"] (defScope s_Shelf_held) := ⟨rfl, rfl, rfl, by decide +kernel, rfl, by decide +kernel, by decide +kernel⟩
def b_Shelf_held : DS :=
  (dRet (dCB (fListD false) (dCons (dUn (fAttr (okF itab "there") "there") (dVar 0)) dNil)))
def f_Shelf_held : FN := runB 1 b_Shelf_held
theorem ok_Shelf_held (T : Top K mg) : MethOk P w K mg base 1 "Shelf" "held" 1 f_Shelf_held := by
  obtain ⟨fd, G⟩ := T.d_Shelf_held
  refine meth_by T.cl_Shelf T.m_Shelf_held G sc_Shelf_held rfl (fun _ _ _ _ _ _ us hl => match us, hl with | [_], _ => rfl) (fun cdv A outer s H E hr tk hp =>
  (db_one (ds_ret (de_callTy (call_listD rfl) o_listD rfl T.g_list (by decide +kernel) (da_cons (de_attr (fun _ h => T.i.fld h) (de_var (i := 0) rfl (.inl rfl))) da_nil)))))
def mt_held : MTab := tabOf [("Shelf", 1, f_Shelf_held)]
theorem mt_held_ok (T : Top K mg) : ∀ c n F, mt_held c = some (n, F) → MethOk P w K mg base 1 c "held" n F := by
  refine tab_all (R := fun c n F => MethOk P w K mg base 1 c "held" n F) fun p hp => ?_
  simp only [List.mem_cons, List.mem_nil_iff, or_false] at hp
  rcases hp with rfl
  · exact (ok_Shelf_held T).mono (by decide)
def N_Shelf_forget : List Str := ["self"]
theorem sc_Shelf_forget : FnScope N_Shelf_forget ["self"] (defScope s_Shelf_forget) := ⟨rfl, rfl, rfl, by decide +kernel, rfl, by decide +kernel, by decide +kernel⟩
def b_Shelf_forget : DS :=
  (dSeq (dAttrPut (okF itab "there") "there" (dVar 0) dNewDic)
  (dAttrPut (okF itab "altered") "altered" (dVar 0) dNewDic))
def f_Shelf_forget : FN := runB 1 b_Shelf_forget
theorem ok_Shelf_forget (T : Top K mg) : MethOk P w K mg base 1 "Shelf" "forget" 1 f_Shelf_forget := by
  obtain ⟨fd, G⟩ := T.d_Shelf_forget
  refine meth_by T.cl_Shelf T.m_Shelf_forget G sc_Shelf_forget rfl (fun _ _ _ _ _ _ us hl => match us, hl with | [_], _ => rfl) (fun cdv A outer s H E hr tk hp =>
  (db_cons (ds_attr (fun _ h => T.i.fld h) (de_var (i := 0) rfl (.inl rfl)) de_dnewA)
  (db_one (ds_attr (fun _ h => T.i.fld h) (de_var (i := 0) rfl (.inl rfl)) de_dnewA))))
def mt_forget : MTab := tabOf [("Shelf", 1, f_Shelf_forget)]
theorem mt_forget_ok (T : Top K mg) : ∀ c n F, mt_forget c = some (n, F) → MethOk P w K mg base 1 c "forget" n F := by
  refine tab_all (R := fun c n F => MethOk P w K mg base 1 c "forget" n F) fun p hp => ?_
  simp only [List.mem_cons, List.mem_nil_iff, or_false] at hp
  rcases hp with rfl
  · exact (ok_Shelf_forget T).mono (by decide)
def N_Disk_pages : List Str := ["self"]
theorem sc_Disk_pages : FnScope N_Disk_pages ["self"] (defScope s_Disk_pages) := ⟨rfl, rfl, rfl, by decide +kernel, rfl, by decide +kernel, by decide +kernel⟩
def b_Disk_pages : DS :=
  (dRet (dCB (fListOf false) (dCons (dUn (fAttr (okF itab "texts") "texts") (dVar 0)) dNil)))
def f_Disk_pages : FN := runB 1 b_Disk_pages
theorem ok_Disk_pages (T : Top K mg) : MethOk P w K mg base 1 "Disk" "pages" 1 f_Disk_pages := by
  obtain ⟨fd, G⟩ := T.d_Disk_pages
  refine meth_by T.cl_Disk T.m_Disk_pages G sc_Disk_pages rfl (fun _ _ _ _ _ _ us hl => match us, hl with | [_], _ => rfl) (fun cdv A outer s H E hr tk hp =>
  (db_one (ds_ret (de_callTy call_list_of o_listOf rfl T.g_list (by decide +kernel) (da_cons (de_attr (fun _ h => T.i.fld h) (de_var (i := 0) rfl (.inl rfl))) da_nil)))))
def mt_pages : MTab := tabOf [("Disk", 1, f_Disk_pages)]
theorem mt_pages_ok (T : Top K mg) : ∀ c n F, mt_pages c = some (n, F) → MethOk P w K mg base 1 c "pages" n F := by
  refine tab_all (R := fun c n F => MethOk P w K mg base 1 c "pages" n F) fun p hp => ?_
  simp only [List.mem_cons, List.mem_nil_iff, or_false] at hp
  rcases hp with rfl
  · exact (ok_Disk_pages T).mono (by decide)
def N_Disk_rows : List Str := ["self"]
theorem sc_Disk_rows : FnScope N_Disk_rows ["self"] (defScope s_Disk_rows) := ⟨rfl, rfl, rfl, by decide +kernel, rfl, by decide +kernel, by decide +kernel⟩
def b_Disk_rows : DS :=
  (dRet (dCB (fListOf false) (dCons (dUn (fAttr (okF itab "lines") "lines") (dVar 0)) dNil)))
def f_Disk_rows : FN := runB 1 b_Disk_rows
theorem ok_Disk_rows (T : Top K mg) : MethOk P w K mg base 1 "Disk" "rows" 1 f_Disk_rows := by
  obtain ⟨fd, G⟩ := T.d_Disk_rows
  refine meth_by T.cl_Disk T.m_Disk_rows G sc_Disk_rows rfl (fun _ _ _ _ _ _ us hl => match us, hl with | [_], _ => rfl) (fun cdv A outer s H E hr tk hp =>
  (db_one (ds_ret (de_callTy call_list_of o_listOf rfl T.g_list (by decide +kernel) (da_cons (de_attr (fun _ h => T.i.fld h) (de_var (i := 0) rfl (.inl rfl))) da_nil)))))
def mt_rows : MTab := tabOf [("Disk", 1, f_Disk_rows)]
theorem mt_rows_ok (T : Top K mg) : ∀ c n F, mt_rows c = some (n, F) → MethOk P w K mg base 1 c "rows" n F := by
  refine tab_all (R := fun c n F => MethOk P w K mg base 1 c "rows" n F) fun p hp => ?_
  simp only [List.mem_cons, List.mem_nil_iff, or_false] at hp
  rcases hp with rfl
  · exact (ok_Disk_rows T).mono (by decide)
def N_Disk_writes : List Str := ["self"]
theorem sc_Disk_writes : FnScope N_Disk_writes ["self"] (defScope s_Disk_writes) := ⟨rfl, rfl, rfl, by decide +kernel, rfl, by decide +kernel, by decide +kernel⟩
def b_Disk_writes : DS :=
  (dRet (dUn (fAttr (okF itab "begun") "begun") (dVar 0)))
def f_Disk_writes : FN := runB 1 b_Disk_writes
theorem ok_Disk_writes (T : Top K mg) : MethOk P w K mg base 1 "Disk" "writes" 1 f_Disk_writes := by
  obtain ⟨fd, G⟩ := T.d_Disk_writes
  refine meth_by T.cl_Disk T.m_Disk_writes G sc_Disk_writes rfl (fun _ _ _ _ _ _ us hl => match us, hl with | [_], _ => rfl) (fun cdv A outer s H E hr tk hp =>
  (db_one (ds_ret (de_attr (fun _ h => T.i.fld h) (de_var (i := 0) rfl (.inl rfl))))))
def mt_writes : MTab := tabOf [("Disk", 1, f_Disk_writes)]
theorem mt_writes_ok (T : Top K mg) : ∀ c n F, mt_writes c = some (n, F) → MethOk P w K mg base 1 c "writes" n F := by
  refine tab_all (R := fun c n F => MethOk P w K mg base 1 c "writes" n F) fun p hp => ?_
  simp only [List.mem_cons, List.mem_nil_iff, or_false] at hp
  rcases hp with rfl
  · exact (ok_Disk_writes T).mono (by decide)
def N_Disk_begin_one : List Str := ["self"]
theorem sc_Disk_begin_one : FnScope N_Disk_begin_one ["self"] (defScope s_Disk_begin_one) := ⟨rfl, rfl, rfl, by decide +kernel, rfl, by decide +kernel, by decide +kernel⟩
def b_Disk_begin_one : DS :=
  (dSeq (dIf (dNot (dTest (dUn (fAttr (okF itab "on") "on") (dVar 0))))
   (dRaise "PowerGone")
   dNext)
  (dSeq (dAttrPut (okF itab "begun") "begun" (dVar 0) (dBin fAdd (dUn (fAttr (okF itab "begun") "begun") (dVar 0)) (dC (.int 1))))
  (dIf (dTest (dBin (fIsN true) (dUn (fAttr (okF itab "due") "due") (dVar 0)) (dC .non)))
   (dSeq (dAttrPut (okF itab "due") "due" (dVar 0) (dBin fSub (dUn (fAttr (okF itab "due") "due") (dVar 0)) (dC (.int 1))))
   (dAttrPut (okF itab "on") "on" (dVar 0) (dBin fGtX (dUn (fAttr (okF itab "due") "due") (dVar 0)) (dC (.int 0)))))
   dNext)))
def f_Disk_begin_one : FN := runB 1 b_Disk_begin_one
theorem ok_Disk_begin_one (T : Top K mg) : MethOk P w K mg base 1 "Disk" "begin_one" 1 f_Disk_begin_one := by
  obtain ⟨fd, G⟩ := T.d_Disk_begin_one
  refine meth_by T.cl_Disk T.m_Disk_begin_one G sc_Disk_begin_one rfl (fun _ _ _ _ _ _ us hl => match us, hl with | [_], _ => rfl) (fun cdv A outer s H E hr tk hp =>
  (db_cons (ds_if (dt_not (dt_val (de_attr (fun _ h => T.i.fld h) (de_var (i := 0) rfl (.inl rfl)))))
   (db_one (ds_raise T.e_PowerGone rfl tk rfl))
   db_nil)
  (db_cons (ds_attr (fun _ h => T.i.fld h) (de_var (i := 0) rfl (.inl rfl)) (de_bin opr_add o_add (de_attr (fun _ h => T.i.fld h) (de_var (i := 0) rfl (.inl rfl))) de_int))
  (db_one (ds_if (dt_cmp op_notN o_notN (de_attr (fun _ h => T.i.fld h) (de_var (i := 0) rfl (.inl rfl))) de_non)
   (db_cons (ds_attr (fun _ h => T.i.fld h) (de_var (i := 0) rfl (.inl rfl)) (de_bin op_sub o_sub (de_attr (fun _ h => T.i.fld h) (de_var (i := 0) rfl (.inl rfl))) de_int))
   (db_one (ds_attr (fun _ h => T.i.fld h) (de_var (i := 0) rfl (.inl rfl)) (de_cmp opr_gtX o_gtX (de_attr (fun _ h => T.i.fld h) (de_var (i := 0) rfl (.inl rfl))) de_int))))
   db_nil)))))
def mt_begin_one : MTab := tabOf [("Disk", 1, f_Disk_begin_one)]
theorem mt_begin_one_ok (T : Top K mg) : ∀ c n F, mt_begin_one c = some (n, F) → MethOk P w K mg base 1 c "begin_one" n F := by
  refine tab_all (R := fun c n F => MethOk P w K mg base 1 c "begin_one" n F) fun p hp => ?_
  simp only [List.mem_cons, List.mem_nil_iff, or_false] at hp
  rcases hp with rfl
  · exact (ok_Disk_begin_one T).mono (by decide)
def N_Disk_end_one : List Str := ["self"]
theorem sc_Disk_end_one : FnScope N_Disk_end_one ["self"] (defScope s_Disk_end_one) := ⟨rfl, rfl, rfl, by decide +kernel, rfl, by decide +kernel, by decide +kernel⟩
def b_Disk_end_one : DS :=
  (dIf (dNot (dTest (dUn (fAttr (okF itab "on") "on") (dVar 0))))
   (dSeq (dAttrPut (okF itab "due") "due" (dVar 0) (dC .non))
   (dRaise "PowerGone"))
   dNext)
def f_Disk_end_one : FN := runB 1 b_Disk_end_one
theorem ok_Disk_end_one (T : Top K mg) : MethOk P w K mg base 1 "Disk" "end_one" 1 f_Disk_end_one := by
  obtain ⟨fd, G⟩ := T.d_Disk_end_one
  refine meth_by T.cl_Disk T.m_Disk_end_one G sc_Disk_end_one rfl (fun _ _ _ _ _ _ us hl => match us, hl with | [_], _ => rfl) (fun cdv A outer s H E hr tk hp =>
  (db_one (ds_if (dt_not (dt_val (de_attr (fun _ h => T.i.fld h) (de_var (i := 0) rfl (.inl rfl)))))
   (db_cons (ds_attr (fun _ h => T.i.fld h) (de_var (i := 0) rfl (.inl rfl)) de_non)
   (db_one (ds_raise T.e_PowerGone rfl tk rfl)))
   db_nil)))
def mt_end_one : MTab := tabOf [("Disk", 1, f_Disk_end_one)]
theorem mt_end_one_ok (T : Top K mg) : ∀ c n F, mt_end_one c = some (n, F) → MethOk P w K mg base 1 c "end_one" n F := by
  refine tab_all (R := fun c n F => MethOk P w K mg base 1 c "end_one" n F) fun p hp => ?_
  simp only [List.mem_cons, List.mem_nil_iff, or_false] at hp
  rcases hp with rfl
  · exact (ok_Disk_end_one T).mono (by decide)
def N_Disk_part_of : List Str := ["self", "text", "old"]
theorem sc_Disk_part_of : FnScope N_Disk_part_of ["self", "text", "old"] (defScope s_Disk_part_of) := ⟨rfl, rfl, rfl, by decide +kernel, rfl, by decide +kernel, by decide +kernel⟩
def b_Disk_part_of : DS :=
  (dSeq (dIf (dTest (dUn (fAttr (okF itab "on") "on") (dVar 0)))
   (dRet (dVar 1))
   dNext)
  (dRet (dBin fAdd (dSl (dVar 1) dNoPart (dPart (dUn (fAttr (okF itab "cut") "cut") (dVar 0)))) (dSl (dVar 2) (dPart (dUn (fAttr (okF itab "cut") "cut") (dVar 0))) dNoPart))))
def f_Disk_part_of : FN := runB 3 b_Disk_part_of
theorem ok_Disk_part_of (T : Top K mg) : MethOk P w K mg base 1 "Disk" "part_of" 3 f_Disk_part_of := by
  obtain ⟨fd, G⟩ := T.d_Disk_part_of
  refine meth_by T.cl_Disk T.m_Disk_part_of G sc_Disk_part_of rfl (fun _ _ _ _ _ _ us hl => match us, hl with | [_, _, _], _ => rfl) (fun cdv A outer s H E hr tk hp =>
  (db_cons (ds_if (dt_val (de_attr (fun _ h => T.i.fld h) (de_var (i := 0) rfl (.inl rfl))))
   (db_one (ds_ret (de_var (i := 1) rfl (.inl rfl))))
   db_nil)
  (db_one (ds_ret (de_bin opr_add o_add (de_sl (de_var (i := 1) rfl (.inl rfl)) do_none (do_some (de_attr (fun _ h => T.i.fld h) (de_var (i := 0) rfl (.inl rfl))))) (de_sl (de_var (i := 2) rfl (.inl rfl)) (do_some (de_attr (fun _ h => T.i.fld h) (de_var (i := 0) rfl (.inl rfl)))) do_none))))))
def mt_part_of : MTab := tabOf [("Disk", 3, f_Disk_part_of)]
theorem mt_part_of_ok (T : Top K mg) : ∀ c n F, mt_part_of c = some (n, F) → MethOk P w K mg base 1 c "part_of" n F := by
  refine tab_all (R := fun c n F => MethOk P w K mg base 1 c "part_of" n F) fun p hp => ?_
  simp only [List.mem_cons, List.mem_nil_iff, or_false] at hp
  rcases hp with rfl
  · exact (ok_Disk_part_of T).mono (by decide)
def N__law_draw : List Str := ["_law_tape_here", "_law_many", "_law_cell"]
theorem sc__law_draw : FnScope N__law_draw ["_law_tape_here", "_law_many"] (defScope s__law_draw) := ⟨rfl, rfl, rfl, by decide +kernel, rfl, by decide +kernel, by decide +kernel⟩
def b__law_draw : DS :=
  (dSeq (dAsg (dC (.int 0)) (gSlot 2))
  (dSeq (dIf (dTest (dBin fLtX (dBin fDGet (dVar 0) (dC (.str "at"))) (dCB fLen (dCons (dBin fDGet (dVar 0) (dC (.str "script"))) dNil))))
   (dAsg (dBin fIx (dBin fDGet (dVar 0) (dC (.str "script"))) (dBin fDGet (dVar 0) (dC (.str "at")))) (gSlot 2))
   dNext)
  (dSeq (dDPut (dVar 0) (dC (.str "at")) (dBin fAdd (dBin fDGet (dVar 0) (dC (.str "at"))) (dC (.int 1))))
  (dSeq (dDPut (dVar 0) (dC (.str "seed")) (dBin fMod (dBin fAdd (dBin fMulX (dBin fAdd (dBin fDGet (dVar 0) (dC (.str "seed"))) (dVar 2)) (dC (.int 48271))) (dC (.int 11))) (dC (.int 2147483647))))
  (dRet (dBin fMod (dBin fFdiv (dBin fDGet (dVar 0) (dC (.str "seed"))) (dC (.int 11))) (dVar 1)))))))
def f__law_draw : FN := runB 3 b__law_draw
theorem ok__law_draw (T : Top K mg) : DefOk P w K mg base 1 "_law_draw" 2 f__law_draw := by
  obtain ⟨fd, G⟩ := T.d__law_draw
  refine def_by T.g__law_draw G sc__law_draw rfl (fun _ _ _ _ _ _ us hl => match us, hl with | [_, _], _ => rfl) (fun cdv A outer s H E hr tk hp =>
  (db_cons (ds_set sc__law_draw.nd (i := 2) rfl (.inl rfl) de_int)
  (db_cons (ds_if (dt_cmp opr_ltX o_ltX (de_dget (room1 hr) (de_var (i := 0) rfl (.inl rfl)) de_str) (de_callB c_len o_len rfl T.g_len (by decide +kernel) (da_cons (de_dget (room1 hr) (de_var (i := 0) rfl (.inl rfl)) de_str) da_nil)))
   (db_one (ds_set sc__law_draw.nd (i := 2) rfl (.inl rfl) (de_ix (de_dget (room1 hr) (de_var (i := 0) rfl (.inl rfl)) de_str) (de_dget (room1 hr) (de_var (i := 0) rfl (.inl rfl)) de_str))))
   db_nil)
  (db_cons (ds_dput (room1 hr) (de_var (i := 0) rfl (.inl rfl)) de_str (de_bin opr_add o_add (de_dget (room1 hr) (de_var (i := 0) rfl (.inl rfl)) de_str) de_int))
  (db_cons (ds_dput (room1 hr) (de_var (i := 0) rfl (.inl rfl)) de_str (de_bin op_mod o_mod (de_bin opr_add o_add (de_bin opr_mul o_mulX (de_bin opr_add o_add (de_dget (room1 hr) (de_var (i := 0) rfl (.inl rfl)) de_str) (de_var (i := 2) rfl (.inl rfl))) de_int) de_int) de_int))
  (db_one (ds_ret (de_bin op_mod o_mod (de_bin op_fdiv o_fdiv (de_dget (room1 hr) (de_var (i := 0) rfl (.inl rfl)) de_str) de_int) (de_var (i := 1) rfl (.inl rfl))))))))))
def N__law_tape : List Str := ["_law_script"]
theorem sc__law_tape : FnScope N__law_tape ["_law_script"] (defScope s__law_tape) := ⟨rfl, rfl, rfl, by decide +kernel, rfl, by decide +kernel, by decide +kernel⟩
def b__law_tape : DS :=
  (dRet (dDisp [(.inr "script", (dVar 0)), (.inr "at", (dC (.int 0))), (.inr "seed", (dC (.int 7)))]))
def f__law_tape : FN := runB 1 b__law_tape
theorem ok__law_tape (T : Top K mg) : DefOk P w K mg base 1 "_law_tape" 1 f__law_tape := by
  obtain ⟨fd, G⟩ := T.d__law_tape
  refine def_by T.g__law_tape G sc__law_tape rfl (fun _ _ _ _ _ _ us hl => match us, hl with | [_], _ => rfl) (fun cdv A outer s H E hr tk hp =>
  (db_one (ds_ret (de_disp (dpp_str (de_var (i := 0) rfl (.inl rfl)) (dpp_str de_int (dpp_str de_int dpp_nil))) rfl rfl (by simp) (by decide)))))
def N__law_signs : List Str := ["_law_signs_here"]
theorem sc__law_signs : FnScope N__law_signs [] (defScope s__law_signs) := ⟨rfl, rfl, rfl, by decide +kernel, rfl, by decide +kernel, by decide +kernel⟩
def b__law_signs : DS :=
  (dSeq (dAsg (dC (.str " !\"\x23$&'()*+,-./0123456789:;<=>?\x40ABCDEFGHIJKLMNOPQRSTUVWXYZ[\\]^_`")) (gSlot 0))
  (dRet (dBin fAdd (dVar 0) (dC (.str "abcdefghijklmnopqrstuvwxyz{|}~")))))
def f__law_signs : FN := runB 1 b__law_signs
theorem ok__law_signs (T : Top K mg) : DefOk P w K mg base 1 "_law_signs" 0 f__law_signs := by
  obtain ⟨fd, G⟩ := T.d__law_signs
  refine def_by T.g__law_signs G sc__law_signs rfl (fun _ _ _ _ _ _ us hl => match us, hl with | [], _ => rfl) (fun cdv A outer s H E hr tk hp =>
  (db_cons (ds_set sc__law_signs.nd (i := 0) rfl (.inl rfl) de_str)
  (db_one (ds_ret (de_bin opr_add o_add (de_var (i := 0) rfl (.inl rfl)) de_str)))))
def N__law_due : List Str := ["_law_world", "_law_number"]
theorem sc__law_due : FnScope N__law_due ["_law_world", "_law_number"] (defScope s__law_due) := ⟨rfl, rfl, rfl, by decide +kernel, rfl, by decide +kernel, by decide +kernel⟩
def b__law_due : DS :=
  (dSeq (dIf (dTest (dBin (fDIn false) (dVar 1) (dBin fDGet (dVar 0) (dC (.str "new")))))
   (dRet (dBin fDGet (dBin fDGet (dVar 0) (dC (.str "new"))) (dVar 1)))
   dNext)
  (dRet (dBin fIx (dBin fDGet (dVar 0) (dC (.str "old"))) (dVar 1))))
def f__law_due : FN := runB 2 b__law_due
theorem ok__law_due (T : Top K mg) : DefOk P w K mg base 1 "_law_due" 2 f__law_due := by
  obtain ⟨fd, G⟩ := T.d__law_due
  refine def_by T.g__law_due G sc__law_due rfl (fun _ _ _ _ _ _ us hl => match us, hl with | [_, _], _ => rfl) (fun cdv A outer s H E hr tk hp =>
  (db_cons (ds_if (dt_cmp (op_din (room1 hr)) o_din (de_var (i := 1) rfl (.inl rfl)) (de_dget (room1 hr) (de_var (i := 0) rfl (.inl rfl)) de_str))
   (db_one (ds_ret (de_dget (room1 hr) (de_dget (room1 hr) (de_var (i := 0) rfl (.inl rfl)) de_str) (de_var (i := 1) rfl (.inl rfl)))))
   db_nil)
  (db_one (ds_ret (de_ix (de_dget (room1 hr) (de_var (i := 0) rfl (.inl rfl)) de_str) (de_var (i := 1) rfl (.inl rfl)))))))
def N_digits : List Str := ["number", "many", "place"]
theorem sc_digits : FnScope N_digits ["number", "many"] (defScope s_digits) := ⟨rfl, rfl, rfl, by decide +kernel, rfl, by decide +kernel, by decide +kernel⟩
def c1_digits : DE :=
  (dBin fIx (dC (.str c_SIGNS)) (dBin fBitAnd (dBin fShr (dVar 0) (dBin fMulX (dC (.int 6)) (dVar 2))) (dC (.int 63))))
def b_digits : DS :=
  (dSeq (dIf (dOr (dNot (dTest (dCall 1 f_is_whole (dCons (dVar 1) dNil)))) (dOr (dNot (dTest (dChain fLeX fLeX (dC (.int 1)) (dVar 1) (dC (.int 3))))) (dNot (dTest (dCall 1 f_is_whole (dCons (dVar 0) dNil))))))
   (dRaise "BadNumber")
   dNext)
  (dSeq (dIf (dOr (dTest (dBin fLtX (dVar 0) (dC (.int 0)))) (dTest (dBin fNe (dBin fShr (dVar 0) (dBin fMulX (dC (.int 6)) (dVar 1))) (dC (.int 0)))))
   (dRaise "BadNumber")
   dNext)
  (dRet (dM1 mJoin (dC (.str "")) (dComp (dItRR1 (dVar 1)) (gSlot 2) dYes c1_digits [2])))))
def f_digits : FN := runB 3 b_digits
theorem ok_digits (T : Top K mg) : DefOk P w K mg base 2 "digits" 2 f_digits := by
  obtain ⟨fd, G⟩ := T.d_digits
  refine def_by T.g_digits G sc_digits rfl (fun _ _ _ _ _ _ us hl => match us, hl with | [_, _], _ => rfl) (fun cdv A outer s H E hr tk hp =>
  (db_cons (ds_if (dt_w (dw_or (dt_not (dt_val (de_call (ok_is_whole T) (hr.mono (by decide)) tk rfl (da_cons (de_var (i := 1) rfl (.inl rfl)) da_nil)))) (dw_or (dt_not (dt_chain opr_leX o_leX opr_leX o_leX de_int (de_var (i := 1) rfl (.inl rfl)) (de_gint rfl T.g_MOST_MANY))) (dw_or1 (dt_not (dt_val (de_call (ok_is_whole T) (hr.mono (by decide)) tk rfl (da_cons (de_var (i := 0) rfl (.inr (.inl rfl))) da_nil))))))))
   (db_one (ds_raise T.e_BadNumber rfl tk rfl))
   db_nil)
  (db_cons (ds_if (dt_w (dw_or (dt_cmp opr_ltX o_ltX (de_var (i := 0) rfl (.inr (.inl rfl))) de_int) (dw_or1 (dt_cmp (op_neD hr.units) o_ne (de_bin op_shr o_shr (de_var (i := 0) rfl (.inr (.inl rfl))) (de_bin opr_mul o_mulX de_int (de_var (i := 1) rfl (.inl rfl)))) de_int))))
   (db_one (ds_raise T.e_BadNumber rfl tk rfl))
   db_nil)
  (db_one (ds_ret (de_join de_str (de_comp (own := [("place", 2)]) rfl sc_digits.nd (di_rrange1 rfl T.g_reversed rfl T.g_range (de_var (i := 1) rfl (.inl rfl))) (show BlkOk N_digits (defScope s_digits) _ _ from blk_of (by decide +kernel)) (fun _ _ _ _ _ => (dc_name sc_digits.nd rfl (.inl rfl) (by simp))) (fun _ _ _ _ _ => dp_nil) (fun _ _ _ _ _ => (de_ix (de_gstr (z := c_SIGNS) rfl T.g_SIGNS) (de_bin op_and o_and (de_bin op_shr o_shr (de_var (i := 0) rfl (.inr (.inl rfl))) (de_bin opr_mul o_mulX de_int (de_var (i := 2) rfl (.inl rfl)))) de_int))))))))))
def N_is_number : List Str := ["thing", "least"]
theorem sc_is_number : FnScope N_is_number ["thing", "least"] (defScope s_is_number) := ⟨rfl, rfl, rfl, by decide +kernel, rfl, by decide +kernel, by decide +kernel⟩
def b_is_number : DS :=
  (dRet (dAndV (dCall 1 f_is_whole (dCons (dVar 0) dNil)) (dChain fLeX fLeX (dVar 1) (dVar 0) (dC (.int 4095)))))
def f_is_number : FN := runB 2 b_is_number
theorem bd_is_number (T : Top K mg) : BodyOk P w K mg base "is_number" (defScope s_is_number) (He.ga K "is_number") N_is_number 1 (defBody s_is_number) b_is_number := fun cdv A outer s H E hr tk hp =>
  (db_one (ds_ret (de_and (de_call (ok_is_whole T) (hr.mono (by decide)) tk rfl (da_cons (de_var (i := 0) rfl (.inl rfl)) da_nil)) (de_one (de_chain opr_leX o_leX opr_leX o_leX (de_var (i := 1) rfl (.inl rfl)) (de_var (i := 0) rfl (.inl rfl)) (de_gint rfl T.g_MOST_NUMBER))))))
theorem ok_is_number (T : Top K mg) : DefOk P w K mg base 2 "is_number" 2 f_is_number := by
  obtain ⟨fd, G⟩ := T.d_is_number
  exact def_byA T.g_is_number G sc_is_number rfl (by simp) (fun _ _ _ _ _ _ _ us its hu hi => match us, its, hu, hi with | [_, _], [_], _, _ => ⟨_, rfl, rfl⟩) (bd_is_number T)
theorem okD_is_number (T : Top K mg) : DefOkD P w K mg base 2 "is_number" 1 [.int 0] f_is_number := by
  obtain ⟨fd, G⟩ := T.d_is_number
  exact def_byD T.g_is_number G sc_is_number rfl (by simp) rfl (fun _ _ => (RepL.cons rep_int RepL.nil)) (fun _ _ _ _ _ _ _ us its hu hi => match us, its, hu, hi with | [_], [_], _, _ => ⟨_, rfl, rfl⟩) (bd_is_number T)
def N_is_key : List Str := ["thing"]
theorem sc_is_key : FnScope N_is_key ["thing"] (defScope s_is_key) := ⟨rfl, rfl, rfl, by decide +kernel, rfl, by decide +kernel, by decide +kernel⟩
def b_is_key : DS :=
  (dRet (dAndV (dCall 1 f_is_text (dCons (dVar 0) dNil)) (dChain fLeX fLeX (dC (.int 1)) (dCB fLen (dCons (dVar 0) dNil)) (dC (.int 12)))))
def f_is_key : FN := runB 1 b_is_key
theorem ok_is_key (T : Top K mg) : DefOk P w K mg base 2 "is_key" 1 f_is_key := by
  obtain ⟨fd, G⟩ := T.d_is_key
  refine def_by T.g_is_key G sc_is_key rfl (fun _ _ _ _ _ _ us hl => match us, hl with | [_], _ => rfl) (fun cdv A outer s H E hr tk hp =>
  (db_one (ds_ret (de_and (de_call (ok_is_text T) (hr.mono (by decide)) tk rfl (da_cons (de_var (i := 0) rfl (.inl rfl)) da_nil)) (de_one (de_chain opr_leX o_leX opr_leX o_leX de_int (de_callB c_len o_len rfl T.g_len (by decide +kernel) (da_cons (de_var (i := 0) rfl (.inl rfl)) da_nil)) (de_gint rfl T.g_MOST_KEY)))))))
def N_is_value : List Str := ["thing"]
theorem sc_is_value : FnScope N_is_value ["thing"] (defScope s_is_value) := ⟨rfl, rfl, rfl, by decide +kernel, rfl, by decide +kernel, by decide +kernel⟩
def b_is_value : DS :=
  (dRet (dAndV (dCall 1 f_is_text (dCons (dVar 0) dNil)) (dBin fLeX (dCB fLen (dCons (dVar 0) dNil)) (dC (.int 400)))))
def f_is_value : FN := runB 1 b_is_value
theorem ok_is_value (T : Top K mg) : DefOk P w K mg base 2 "is_value" 1 f_is_value := by
  obtain ⟨fd, G⟩ := T.d_is_value
  refine def_by T.g_is_value G sc_is_value rfl (fun _ _ _ _ _ _ us hl => match us, hl with | [_], _ => rfl) (fun cdv A outer s H E hr tk hp =>
  (db_one (ds_ret (de_and (de_call (ok_is_text T) (hr.mono (by decide)) tk rfl (da_cons (de_var (i := 0) rfl (.inl rfl)) da_nil)) (de_one (de_cmp opr_leX o_leX (de_callB c_len o_len rfl T.g_len (by decide +kernel) (da_cons (de_var (i := 0) rfl (.inl rfl)) da_nil)) (de_gint rfl T.g_MOST_VALUE)))))))
def N_is_size : List Str := ["thing"]
theorem sc_is_size : FnScope N_is_size ["thing"] (defScope s_is_size) := ⟨rfl, rfl, rfl, by decide +kernel, rfl, by decide +kernel, by decide +kernel⟩
def b_is_size : DS :=
  (dRet (dAndV (dCall 1 f_is_whole (dCons (dVar 0) dNil)) (dChain fLeX fLeX (dC (.int 64)) (dVar 0) (dC (.int 200)))))
def f_is_size : FN := runB 1 b_is_size
theorem ok_is_size (T : Top K mg) : DefOk P w K mg base 2 "is_size" 1 f_is_size := by
  obtain ⟨fd, G⟩ := T.d_is_size
  refine def_by T.g_is_size G sc_is_size rfl (fun _ _ _ _ _ _ us hl => match us, hl with | [_], _ => rfl) (fun cdv A outer s H E hr tk hp =>
  (db_one (ds_ret (de_and (de_call (ok_is_whole T) (hr.mono (by decide)) tk rfl (da_cons (de_var (i := 0) rfl (.inl rfl)) da_nil)) (de_one (de_chain opr_leX o_leX opr_leX o_leX (de_gint rfl T.g_LEAST_SIZE) (de_var (i := 0) rfl (.inl rfl)) (de_gint rfl T.g_MOST_SIZE)))))))
def N_Shelf___init__ : List Str := ["self", "disk", "most"]
theorem sc_Shelf___init__ : FnScope N_Shelf___init__ ["self", "disk", "most"] (defScope s_Shelf___init__) := ⟨rfl, rfl, rfl, by decide +kernel, rfl, by decide +kernel, by decide +kernel⟩
def b_Shelf___init__ : DS :=
  (dSeq (dIf (dOr (dNot (dTest (dCall 1 f_is_whole (dCons (dVar 2) dNil)))) (dNot (dTest (dChain fLeX fLeX (dC (.int 2)) (dVar 2) (dC (.int 40))))))
   (dRaise "BadSize")
   dNext)
  (dSeq (dAttrPut (okF itab "disk") "disk" (dVar 0) (dVar 1))
  (dSeq (dAttrPut (okF itab "most") "most" (dVar 0) (dVar 2))
  (dSeq (dAttrPut (okF itab "there") "there" (dVar 0) dNewDic)
  (dSeq (dAttrPut (okF itab "altered") "altered" (dVar 0) dNewDic)
  (dAttrPut (okF itab "came") "came" (dVar 0) (dC (.int 0))))))))
def f_Shelf___init__ : FN := runB 3 b_Shelf___init__
theorem mk_Shelf (T : Top K mg) : MakeOk P w K mg base 2 "Shelf" 3 f_Shelf___init__ := by
  obtain ⟨fd, G⟩ := T.d_Shelf___init__
  refine make_by T.g_Shelf T.k_Shelf G sc_Shelf___init__ rfl (fun _ _ _ _ _ _ us hl => match us, hl with | [_, _, _], _ => rfl) (fun cdv A outer s H E hr tk hp =>
  (db_cons (ds_if (dt_w (dw_or (dt_not (dt_val (de_call (ok_is_whole T) (hr.mono (by decide)) tk rfl (da_cons (de_var (i := 2) rfl (.inl rfl)) da_nil)))) (dw_or1 (dt_not (dt_chain opr_leX o_leX opr_leX o_leX (de_gint rfl T.g_LEAST_HELD) (de_var (i := 2) rfl (.inl rfl)) (de_gint rfl T.g_MOST_HELD))))))
   (db_one (ds_raise T.e_BadSize rfl tk rfl))
   db_nil)
  (db_cons (ds_attr (fun _ h => T.i.fld h) (de_var (i := 0) rfl (.inl rfl)) (de_var (i := 1) rfl (.inl rfl)))
  (db_cons (ds_attr (fun _ h => T.i.fld h) (de_var (i := 0) rfl (.inl rfl)) (de_var (i := 2) rfl (.inl rfl)))
  (db_cons (ds_attr (fun _ h => T.i.fld h) (de_var (i := 0) rfl (.inl rfl)) de_dnewA)
  (db_cons (ds_attr (fun _ h => T.i.fld h) (de_var (i := 0) rfl (.inl rfl)) de_dnewA)
  (db_one (ds_attr (fun _ h => T.i.fld h) (de_var (i := 0) rfl (.inl rfl)) de_int))))))))
def N__law_text : List Str := ["_law_tape_here", "_law_size_here", "_law_first", "_law_step", "_law_k"]
theorem sc__law_text : FnScope N__law_text ["_law_tape_here", "_law_size_here"] (defScope s__law_text) := ⟨rfl, rfl, rfl, by decide +kernel, rfl, by decide +kernel, by decide +kernel⟩
def c1__law_text : DE :=
  (dBin fIx (dCall 0 f__law_signs dNil) (dBin fMod (dBin fAdd (dVar 2) (dBin fMulX (dVar 4) (dVar 3))) (dC (.int 94))))
def b__law_text : DS :=
  (dSeq (dAsg (dCall 2 f__law_draw (dCons (dVar 0) (dCons (dC (.int 94)) dNil))) (gSlot 2))
  (dSeq (dAsg (dBin fAdd (dC (.int 1)) (dCall 2 f__law_draw (dCons (dVar 0) (dCons (dC (.int 93)) dNil)))) (gSlot 3))
  (dRet (dM1 mJoin (dC (.str "")) (dComp (dItR1 (dVar 1)) (gSlot 4) dYes c1__law_text [4])))))
def f__law_text : FN := runB 5 b__law_text
theorem ok__law_text (T : Top K mg) : DefOk P w K mg base 2 "_law_text" 2 f__law_text := by
  obtain ⟨fd, G⟩ := T.d__law_text
  refine def_by T.g__law_text G sc__law_text rfl (fun _ _ _ _ _ _ us hl => match us, hl with | [_, _], _ => rfl) (fun cdv A outer s H E hr tk hp =>
  (db_cons (ds_set sc__law_text.nd (i := 2) rfl (.inr rfl) (de_call (ok__law_draw T) (hr.mono (by decide)) tk rfl (da_cons (de_var (i := 0) rfl (.inl rfl)) (da_cons de_int da_nil))))
  (db_cons (ds_set sc__law_text.nd (i := 3) rfl (.inr rfl) (de_bin opr_add o_add de_int (de_call (ok__law_draw T) (hr.mono (by decide)) tk rfl (da_cons (de_var (i := 0) rfl (.inl rfl)) (da_cons de_int da_nil)))))
  (db_one (ds_ret (de_join de_str (de_comp (own := [("_law_k", 4)]) rfl sc__law_text.nd (di_range1 rfl T.g_range (de_var (i := 1) rfl (.inl rfl))) (show BlkOk N__law_text (defScope s__law_text) _ _ from blk_of (by decide +kernel)) (fun _ _ _ _ _ => (dc_name sc__law_text.nd rfl (.inl rfl) (by simp))) (fun _ _ _ _ _ => dp_nil) (fun _ _ _ _ _ => (de_ix (de_call0 (ok__law_signs T) (hr.mono (by decide)) takes_f rfl) (de_bin op_mod o_mod (de_bin opr_add o_add (de_var (i := 2) rfl (.inr (.inl rfl))) (de_bin opr_mul o_mulX (de_var (i := 4) rfl (.inl rfl)) (de_var (i := 3) rfl (.inr (.inl rfl))))) de_int))))))))))
def N__law_size : List Str := ["_law_tape_here"]
theorem sc__law_size : FnScope N__law_size ["_law_tape_here"] (defScope s__law_size) := ⟨rfl, rfl, rfl, by decide +kernel, rfl, by decide +kernel, by decide +kernel⟩
def b__law_size : DS :=
  (dRet (dBin fIx (dLst (dCons (dC (.int 64)) (dCons (dC (.int 200)) (dCons (dBin fAdd (dC (.int 64)) (dCall 2 f__law_draw (dCons (dVar 0) (dCons (dC (.int 137)) dNil)))) (dCons (dBin fAdd (dC (.int 64)) (dCall 2 f__law_draw (dCons (dVar 0) (dCons (dC (.int 20)) dNil)))) dNil))))) (dCall 2 f__law_draw (dCons (dVar 0) (dCons (dC (.int 4)) dNil)))))
def f__law_size : FN := runB 1 b__law_size
theorem ok__law_size (T : Top K mg) : DefOk P w K mg base 2 "_law_size" 1 f__law_size := by
  obtain ⟨fd, G⟩ := T.d__law_size
  refine def_by T.g__law_size G sc__law_size rfl (fun _ _ _ _ _ _ us hl => match us, hl with | [_], _ => rfl) (fun cdv A outer s H E hr tk hp =>
  (db_one (ds_ret (de_ix (de_lst (da_cons de_int (da_cons de_int (da_cons (de_bin opr_add o_add de_int (de_call (ok__law_draw T) (hr.mono (by decide)) tk rfl (da_cons (de_var (i := 0) rfl (.inl rfl)) (da_cons de_int da_nil)))) (da_cons (de_bin opr_add o_add de_int (de_call (ok__law_draw T) (hr.mono (by decide)) tk rfl (da_cons (de_var (i := 0) rfl (.inl rfl)) (da_cons de_int da_nil)))) da_nil))))) (de_call (ok__law_draw T) (hr.mono (by decide)) tk rfl (da_cons (de_var (i := 0) rfl (.inl rfl)) (da_cons de_int da_nil)))))))
def N__law_held_right : List Str := ["_law_shelves", "_law_world", "_law_shelf", "_law_most", "_law_held", "_law_new", "_law_number"]
theorem sc__law_held_right : FnScope N__law_held_right ["_law_shelves", "_law_world"] (defScope s__law_held_right) := ⟨rfl, rfl, rfl, by decide +kernel, rfl, by decide +kernel, by decide +kernel⟩
def c1__law_held_right : DE :=
  (dVar 6)
def t2__law_held_right : DT :=
  (dTest (dBin (fInL true) (dVar 6) (dVar 4)))
def l3__law_held_right : DS :=
  (dSeq (dAsg (dMeth "held" mt_held (dVar 2) dNil) (gSlot 4))
   (dSeq (dAsg (dCB (fSortI false) (dCons (dCB (fListD false) (dCons (dBin fDGet (dVar 1) (dC (.str "new"))) dNil)) dNil)) (gSlot 5))
   (dSeq (dIf (dOr (dTest (dBin fNe (dMeth "changed" mt_changed (dVar 2) dNil) (dVar 5))) (dTest (dBin fNe (dComp (dItL (dVar 5)) (gSlot 6) t2__law_held_right c1__law_held_right [6]) (dLst dNil))))
    (dRet (dC (.bl false)))
    dNext)
   (dIf (dOr (dTest (dBin fGtX (dCB fLen (dCons (dVar 4) dNil)) (dCB fMax2 (dCons (dVar 3) (dCons (dCB fLen (dCons (dVar 5) dNil)) dNil))))) (dTest (dBin fLtX (dUn fLenSetI (dVar 4)) (dCB fLen (dCons (dVar 4) dNil)))))
    (dRet (dC (.bl false)))
    dNext))))
def b__law_held_right : DS :=
  (dSeq (dFor (dItZ (dVar 0) (dBin fDGet (dVar 1) (dC (.str "most")))) (gTupD 2 (gsCons (gSlot 2) (gsCons (gSlot 3) gsNil)))
   l3__law_held_right)
  (dRet (dC (.bl true))))
def f__law_held_right : FN := runB 7 b__law_held_right
theorem ok__law_held_right (T : Top K mg) : DefOk P w K mg base 2 "_law_held_right" 2 f__law_held_right := by
  obtain ⟨fd, G⟩ := T.d__law_held_right
  refine def_by T.g__law_held_right G sc__law_held_right rfl (fun _ _ _ _ _ _ us hl => match us, hl with | [_, _], _ => rfl) (fun cdv A outer s H E hr tk hp =>
  (db_cons (ds_for hp rfl (di_zip rfl T.g_zip (de_var (i := 0) rfl (.inl rfl)) (de_dget (room1 hr) (de_var (i := 1) rfl (.inl rfl)) de_str)) (dg_tup rfl (dgs_cons (dg_name sc__law_held_right.nd (i := 2) rfl (.inl rfl)) (dgs_cons (dg_name sc__law_held_right.nd (i := 3) rfl (.inl rfl)) dgs_nil)))
   (db_cons (ds_set sc__law_held_right.nd (i := 4) rfl (.inr rfl) (de_meth0 (tab := mt_held) (de_var (i := 2) rfl (.inl rfl)) (mt_held_ok T) (hr.mono (by decide)) tk))
   (db_cons (ds_set sc__law_held_right.nd (i := 5) rfl (.inl rfl) (de_callB cr_sorted o_sortI rfl T.g_sorted (by decide +kernel) (da_cons (de_callTy (call_listD rfl) o_listD rfl T.g_list (by decide +kernel) (da_cons (de_dget (room1 hr) (de_var (i := 1) rfl (.inl rfl)) de_str) da_nil)) da_nil)))
   (db_cons (ds_if (dt_w (dw_or (dt_cmp (op_neD hr.units) o_ne (de_meth0 (tab := mt_changed) (de_var (i := 2) rfl (.inl rfl)) (mt_changed_ok T) (hr.mono (by decide)) tk) (de_var (i := 5) rfl (.inl rfl))) (dw_or1 (dt_cmp (op_neD hr.units) o_ne (de_comp (own := [("_law_number", 6)]) rfl sc__law_held_right.nd (di_list (de_var (i := 5) rfl (.inl rfl))) (show BlkOk N__law_held_right (defScope s__law_held_right) _ _ from blk_of (by decide +kernel)) (fun _ _ _ _ _ => (dc_name sc__law_held_right.nd rfl (.inl rfl) (by simp))) (fun _ _ _ _ _ => (dp_one (dt_cmp op_notIn_seq o_inL (de_var (i := 6) rfl (.inl rfl)) (de_var (i := 4) rfl (.inr (.inl rfl)))))) (fun _ _ _ _ _ => (de_var (i := 6) rfl (.inl rfl)))) (de_lst da_nil)))))
    (db_one (ds_ret de_bl))
    db_nil)
   (db_one (ds_if (dt_w (dw_or (dt_cmp opr_gtX o_gtX (de_callB c_len o_len rfl T.g_len (by decide +kernel) (da_cons (de_var (i := 4) rfl (.inr (.inl rfl))) da_nil)) (de_callB (call_max2 rfl) o_max2 rfl T.g_max (by decide +kernel) (da_cons (de_var (i := 3) rfl (.inl rfl)) (da_cons (de_callB c_len o_len rfl T.g_len (by decide +kernel) (da_cons (de_var (i := 5) rfl (.inl rfl)) da_nil)) da_nil)))) (dw_or1 (dt_cmp opr_ltX o_ltX (de_lenSetI rfl rfl T.g_len rfl T.g_set (de_var (i := 4) rfl (.inr (.inl rfl)))) (de_callB c_len o_len rfl T.g_len (by decide +kernel) (da_cons (de_var (i := 4) rfl (.inr (.inl rfl))) da_nil))))))
    (db_one (ds_ret de_bl))
    db_nil))))))
  (db_one (ds_ret de_bl))))
def N__law_forgotten : List Str := ["_law_shelves", "_law_world", "_law_shelf"]
theorem sc__law_forgotten : FnScope N__law_forgotten ["_law_shelves", "_law_world"] (defScope s__law_forgotten) := ⟨rfl, rfl, rfl, by decide +kernel, rfl, by decide +kernel, by decide +kernel⟩
def c1__law_forgotten : DE :=
  (dMeth "forget" mt_forget (dVar 2) dNil)
def b__law_forgotten : DS :=
  (dSeq (dDPut (dVar 1) (dC (.str "new")) dNewDic)
  (dSeq (dDPut (dVar 1) (dC (.str "many")) (dCB fLen (dCons (dBin fDGet (dVar 1) (dC (.str "old"))) dNil)))
  (dRet (dAndV (dBin fEq (dComp (dItL (dVar 0)) (gSlot 2) dYes c1__law_forgotten [2]) (dLst (dCons (dC .non) (dCons (dC .non) dNil)))) (dBin fEq (dMeth "held" mt_held (dBin fIx (dVar 0) (dC (.int 0))) dNil) (dLst dNil))))))
def f__law_forgotten : FN := runB 3 b__law_forgotten
theorem ok__law_forgotten (T : Top K mg) : DefOk P w K mg base 2 "_law_forgotten" 2 f__law_forgotten := by
  obtain ⟨fd, G⟩ := T.d__law_forgotten
  refine def_by T.g__law_forgotten G sc__law_forgotten rfl (fun _ _ _ _ _ _ us hl => match us, hl with | [_, _], _ => rfl) (fun cdv A outer s H E hr tk hp =>
  (db_cons (ds_dput (room1 hr) (de_var (i := 1) rfl (.inl rfl)) de_str de_dnewA)
  (db_cons (ds_dput (room1 hr) (de_var (i := 1) rfl (.inl rfl)) de_str (de_callB c_len o_len rfl T.g_len (by decide +kernel) (da_cons (de_dget (room1 hr) (de_var (i := 1) rfl (.inl rfl)) de_str) da_nil)))
  (db_one (ds_ret (de_and (de_cmp (op_eqD hr.units) o_eq (de_comp (own := [("_law_shelf", 2)]) rfl sc__law_forgotten.nd (di_list (de_var (i := 0) rfl (.inl rfl))) (show BlkOk N__law_forgotten (defScope s__law_forgotten) _ _ from blk_of (by decide +kernel)) (fun _ _ _ _ _ => (dc_name sc__law_forgotten.nd rfl (.inl rfl) (by simp))) (fun _ _ _ _ _ => dp_nil) (fun _ _ _ _ _ => (de_meth0 (tab := mt_forget) (de_var (i := 2) rfl (.inl rfl)) (mt_forget_ok T) (hr.mono (by decide)) takes_f))) (de_lst (da_cons de_non (da_cons de_non da_nil)))) (de_one (de_cmp (op_eqD hr.units) o_eq (de_meth0 (tab := mt_held) (de_ix (de_var (i := 0) rfl (.inl rfl)) de_int) (mt_held_ok T) (hr.mono (by decide)) tk) (de_lst da_nil)))))))))
def N_check_of : List Str := ["text", "found", "place", "sign"]
theorem sc_check_of : FnScope N_check_of ["text"] (defScope s_check_of) := ⟨rfl, rfl, rfl, by decide +kernel, rfl, by decide +kernel, by decide +kernel⟩
def l1_check_of : DS :=
  (dAug 1 fAddI (dBin fMulX (dBin fSub (dCB fOrd (dCons (dVar 3) dNil)) (dC (.int 31))) (dBin fAdd (dVar 2) (dC (.int 1)))))
def b_check_of : DS :=
  (dSeq (dIf (dNot (dTest (dCall 1 f_is_text (dCons (dVar 0) dNil))))
   (dRaise "BadText")
   dNext)
  (dSeq (dAsg (dC (.int 0)) (gSlot 1))
  (dSeq (dFor (dItES (dVar 0)) (gTupD 2 (gsCons (gSlot 2) (gsCons (gSlot 3) gsNil)))
   l1_check_of)
  (dRet (dCall 2 f_digits (dCons (dBin fMod (dVar 1) (dC (.int 4093))) (dCons (dC (.int 2)) dNil)))))))
def f_check_of : FN := runB 4 b_check_of
theorem ok_check_of (T : Top K mg) : DefOk P w K mg base 3 "check_of" 1 f_check_of := by
  obtain ⟨fd, G⟩ := T.d_check_of
  refine def_by T.g_check_of G sc_check_of rfl (fun _ _ _ _ _ _ us hl => match us, hl with | [_], _ => rfl) (fun cdv A outer s H E hr tk hp =>
  (db_cons (ds_if (dt_not (dt_val (de_call (ok_is_text T) (hr.mono (by decide)) tk rfl (da_cons (de_var (i := 0) rfl (.inl rfl)) da_nil))))
   (db_one (ds_raise T.e_BadText rfl tk rfl))
   db_nil)
  (db_cons (ds_set sc_check_of.nd (i := 1) rfl (.inl rfl) de_int)
  (db_cons (ds_for hp rfl (di_enumS rfl T.g_enumerate (de_var (i := 0) rfl (.inl rfl))) (dg_tup rfl (dgs_cons (dg_name sc_check_of.nd (i := 2) rfl (.inl rfl)) (dgs_cons (dg_name sc_check_of.nd (i := 3) rfl (.inl rfl)) dgs_nil)))
   (db_one (ds_aug sc_check_of.nd (i := 1) rfl (.inl rfl) (de_bin opr_mul o_mulX (de_bin op_sub o_sub (de_callB call_ord o_ord rfl T.g_ord (by decide +kernel) (da_cons (de_var (i := 3) rfl (.inl rfl)) da_nil)) (de_gint rfl T.g_AHEAD)) (de_bin opr_add o_add (de_var (i := 2) rfl (.inl rfl)) de_int)) ip_add o_ip)))
  (db_one (ds_ret (de_call (ok_digits T) (hr.mono (by decide)) tk rfl (da_cons (de_bin op_mod o_mod (de_var (i := 1) rfl (.inl rfl)) (de_gint rfl T.g_CHECK)) (da_cons de_int da_nil)))))))))
def N_are_keys : List Str := ["things", "thing", "at"]
theorem sc_are_keys : FnScope N_are_keys ["things"] (defScope s_are_keys) := ⟨rfl, rfl, rfl, by decide +kernel, rfl, by decide +kernel, by decide +kernel⟩
def c1_are_keys : DE :=
  (dCall 1 f_is_key (dCons (dVar 1) dNil))
def c2_are_keys : DE :=
  (dBin fLtX (dBin fIx (dVar 0) (dVar 2)) (dBin fIx (dVar 0) (dBin fAdd (dVar 2) (dC (.int 1)))))
def b_are_keys : DS :=
  (dSeq (dIf (dOr (dTest (dBin fGtX (dCB fLen (dCons (dVar 0) dNil)) (dC (.int 63)))) (dNot (dTest (dCB fAll (dCons (dComp (dItL (dVar 0)) (gSlot 1) dYes c1_are_keys [1]) dNil)))))
   (dRet (dC (.bl false)))
   dNext)
  (dRet (dCB fAll (dCons (dComp (dItR1 (dBin fSub (dCB fLen (dCons (dVar 0) dNil)) (dC (.int 1)))) (gSlot 2) dYes c2_are_keys [2]) dNil))))
def f_are_keys : FN := runB 3 b_are_keys
theorem ok_are_keys (T : Top K mg) : DefOk P w K mg base 3 "are_keys" 1 f_are_keys := by
  obtain ⟨fd, G⟩ := T.d_are_keys
  refine def_by T.g_are_keys G sc_are_keys rfl (fun _ _ _ _ _ _ us hl => match us, hl with | [_], _ => rfl) (fun cdv A outer s H E hr tk hp =>
  (db_cons (ds_if (dt_w (dw_or (dt_cmp opr_gtX o_gtX (de_callB c_len o_len rfl T.g_len (by decide +kernel) (da_cons (de_var (i := 0) rfl (.inr (.inl rfl))) da_nil)) (de_gint rfl T.g_MOST_ROWS)) (dw_or1 (dt_not (dt_val (de_callB (cr_all rfl) o_all rfl T.g_all (by decide +kernel) (da_cons (de_comp (own := [("thing", 1)]) rfl sc_are_keys.nd (di_list (de_var (i := 0) rfl (.inr (.inl rfl)))) (show BlkOk N_are_keys (defScope s_are_keys) _ _ from blk_of (by decide +kernel)) (fun _ _ _ _ _ => (dc_name sc_are_keys.nd rfl (.inl rfl) (by simp))) (fun _ _ _ _ _ => dp_nil) (fun _ _ _ _ _ => (de_call (ok_is_key T) (hr.mono (by decide)) takes_f rfl (da_cons (de_var (i := 1) rfl (.inl rfl)) da_nil)))) da_nil)))))))
   (db_one (ds_ret de_bl))
   db_nil)
  (db_one (ds_ret (de_callB (cr_all rfl) o_all rfl T.g_all (by decide +kernel) (da_cons (de_comp (own := [("at", 2)]) rfl sc_are_keys.nd (di_range1 rfl T.g_range (de_bin op_sub o_sub (de_callB c_len o_len rfl T.g_len (by decide +kernel) (da_cons (de_var (i := 0) rfl (.inr (.inl rfl))) da_nil)) de_int)) (show BlkOk N_are_keys (defScope s_are_keys) _ _ from blk_of (by decide +kernel)) (fun _ _ _ _ _ => (dc_name sc_are_keys.nd rfl (.inl rfl) (by simp))) (fun _ _ _ _ _ => dp_nil) (fun _ _ _ _ _ => (de_cmp opr_ltX o_ltX (de_ix (de_var (i := 0) rfl (.inr (.inl rfl))) (de_var (i := 2) rfl (.inl rfl))) (de_ix (de_var (i := 0) rfl (.inr (.inl rfl))) (de_bin opr_add o_add (de_var (i := 2) rfl (.inl rfl)) de_int))))) da_nil))))))
def N_is_cell : List Str := ["thing"]
theorem sc_is_cell : FnScope N_is_cell ["thing"] (defScope s_is_cell) := ⟨rfl, rfl, rfl, by decide +kernel, rfl, by decide +kernel, by decide +kernel⟩
def b_is_cell : DS :=
  (dSeq (dIf (dOr (dNot (dTest (dIsB (fun t => t == "tuple") (dVar 0)))) (dOr (dTest (dBin fLtX (dCB fLen (dCons (dVar 0) dNil)) (dC (.int 2)))) (dNot (dTest (dIsB (fun t => t == "str") (dBin fIx (dVar 0) (dC (.int 0))))))))
   (dRet (dC (.bl false)))
   dNext)
  (dSeq (dIf (dTest (dBin fEq (dBin fIx (dVar 0) (dC (.int 0))) (dC (.str "in"))))
   (dRet (dAndV (dBin fEq (dCB fLen (dCons (dVar 0) dNil)) (dC (.int 2))) (dAndV (dCall 1 f_is_text (dCons (dBin fIx (dVar 0) (dC (.int 1))) dNil)) (dBin fLeX (dCB fLen (dCons (dBin fIx (dVar 0) (dC (.int 1))) dNil)) (dC (.int 63))))))
   dNext)
  (dSeq (dIf (dOr (dTest (dBin fNe (dBin fIx (dVar 0) (dC (.int 0))) (dC (.str "out")))) (dTest (dBin fNe (dCB fLen (dCons (dVar 0) dNil)) (dC (.int 3)))))
   (dRet (dC (.bl false)))
   dNext)
  (dRet (dAndV (dCall 1 f_is_whole (dCons (dBin fIx (dVar 0) (dC (.int 1))) dNil)) (dAndV (dChain fLeX fLeX (dC (.int 1)) (dBin fIx (dVar 0) (dC (.int 1))) (dC (.int 400))) (dCall 2 f_is_number (dCons (dBin fIx (dVar 0) (dC (.int 2))) (dCons (dC (.int 1)) dNil)))))))))
def f_is_cell : FN := runB 1 b_is_cell
theorem ok_is_cell (T : Top K mg) : DefOk P w K mg base 3 "is_cell" 1 f_is_cell := by
  obtain ⟨fd, G⟩ := T.d_is_cell
  refine def_by T.g_is_cell G sc_is_cell rfl (fun _ _ _ _ _ _ us hl => match us, hl with | [_], _ => rfl) (fun cdv A outer s H E hr tk hp =>
  (db_cons (ds_if (dt_w (dw_or (dt_not (dt_val (de_isiB (T := "tuple") (by decide +kernel) rfl T.g_isinstance rfl T.g_tuple (by decide +kernel) (de_var (i := 0) rfl (.inl rfl))))) (dw_or (dt_cmp opr_ltX o_ltX (de_callB c_len o_len rfl T.g_len (by decide +kernel) (da_cons (de_var (i := 0) rfl (.inl rfl)) da_nil)) de_int) (dw_or1 (dt_not (dt_val (de_isiB (T := "str") (by decide +kernel) rfl T.g_isinstance rfl T.g_str (by decide +kernel) (de_ix (de_var (i := 0) rfl (.inl rfl)) de_int))))))))
   (db_one (ds_ret de_bl))
   db_nil)
  (db_cons (ds_if (dt_cmp (op_eqD hr.units) o_eq (de_ix (de_var (i := 0) rfl (.inl rfl)) de_int) de_str)
   (db_one (ds_ret (de_and (de_cmp (op_eqD hr.units) o_eq (de_callB c_len o_len rfl T.g_len (by decide +kernel) (da_cons (de_var (i := 0) rfl (.inl rfl)) da_nil)) de_int) (de_and (de_call (ok_is_text T) (hr.mono (by decide)) tk rfl (da_cons (de_ix (de_var (i := 0) rfl (.inl rfl)) de_int) da_nil)) (de_one (de_cmp opr_leX o_leX (de_callB c_len o_len rfl T.g_len (by decide +kernel) (da_cons (de_ix (de_var (i := 0) rfl (.inl rfl)) de_int) da_nil)) (de_gint rfl T.g_MOST_ROWS)))))))
   db_nil)
  (db_cons (ds_if (dt_w (dw_or (dt_cmp (op_neD hr.units) o_ne (de_ix (de_var (i := 0) rfl (.inl rfl)) de_int) de_str) (dw_or1 (dt_cmp (op_neD hr.units) o_ne (de_callB c_len o_len rfl T.g_len (by decide +kernel) (da_cons (de_var (i := 0) rfl (.inl rfl)) da_nil)) de_int))))
   (db_one (ds_ret de_bl))
   db_nil)
  (db_one (ds_ret (de_and (de_call (ok_is_whole T) (hr.mono (by decide)) tk rfl (da_cons (de_ix (de_var (i := 0) rfl (.inl rfl)) de_int) da_nil)) (de_and (de_chain opr_leX o_leX opr_leX o_leX de_int (de_ix (de_var (i := 0) rfl (.inl rfl)) de_int) (de_gint rfl T.g_MOST_VALUE)) (de_one (de_call (ok_is_number T) (hr.mono (by decide)) tk rfl (da_cons (de_ix (de_var (i := 0) rfl (.inl rfl)) de_int) (da_cons de_int da_nil))))))))))))
def N_cell_body : List Str := ["cell"]
theorem sc_cell_body : FnScope N_cell_body ["cell"] (defScope s_cell_body) := ⟨rfl, rfl, rfl, by decide +kernel, rfl, by decide +kernel, by decide +kernel⟩
def b_cell_body : DS :=
  (dSeq (dIf (dTest (dBin fEq (dBin fIx (dVar 0) (dC (.int 0))) (dC (.str "in"))))
   (dRet (dBin fAdd (dBin fAdd (dC (.str "i")) (dCall 2 f_digits (dCons (dCB fLen (dCons (dBin fIx (dVar 0) (dC (.int 1))) dNil)) (dCons (dC (.int 1)) dNil)))) (dBin fIx (dVar 0) (dC (.int 1)))))
   dNext)
  (dRet (dBin fAdd (dBin fAdd (dC (.str "o")) (dCall 2 f_digits (dCons (dBin fIx (dVar 0) (dC (.int 1))) (dCons (dC (.int 2)) dNil)))) (dCall 2 f_digits (dCons (dBin fIx (dVar 0) (dC (.int 2))) (dCons (dC (.int 2)) dNil))))))
def f_cell_body : FN := runB 1 b_cell_body
theorem ok_cell_body (T : Top K mg) : DefOk P w K mg base 3 "cell_body" 1 f_cell_body := by
  obtain ⟨fd, G⟩ := T.d_cell_body
  refine def_by T.g_cell_body G sc_cell_body rfl (fun _ _ _ _ _ _ us hl => match us, hl with | [_], _ => rfl) (fun cdv A outer s H E hr tk hp =>
  (db_cons (ds_if (dt_cmp (op_eqD hr.units) o_eq (de_ix (de_var (i := 0) rfl (.inl rfl)) de_int) de_str)
   (db_one (ds_ret (de_bin opr_add o_add (de_bin opr_add o_add de_str (de_call (ok_digits T) (hr.mono (by decide)) tk rfl (da_cons (de_callB c_len o_len rfl T.g_len (by decide +kernel) (da_cons (de_ix (de_var (i := 0) rfl (.inl rfl)) de_int) da_nil)) (da_cons de_int da_nil)))) (de_ix (de_var (i := 0) rfl (.inl rfl)) de_int))))
   db_nil)
  (db_one (ds_ret (de_bin opr_add o_add (de_bin opr_add o_add de_str (de_call (ok_digits T) (hr.mono (by decide)) tk rfl (da_cons (de_ix (de_var (i := 0) rfl (.inl rfl)) de_int) (da_cons de_int da_nil)))) (de_call (ok_digits T) (hr.mono (by decide)) tk rfl (da_cons (de_ix (de_var (i := 0) rfl (.inl rfl)) de_int) (da_cons de_int da_nil))))))))
def N_key_body : List Str := ["key"]
theorem sc_key_body : FnScope N_key_body ["key"] (defScope s_key_body) := ⟨rfl, rfl, rfl, by decide +kernel, rfl, by decide +kernel, by decide +kernel⟩
def b_key_body : DS :=
  (dRet (dBin fAdd (dCall 2 f_digits (dCons (dCB fLen (dCons (dVar 0) dNil)) (dCons (dC (.int 1)) dNil))) (dVar 0)))
def f_key_body : FN := runB 1 b_key_body
theorem ok_key_body (T : Top K mg) : DefOk P w K mg base 3 "key_body" 1 f_key_body := by
  obtain ⟨fd, G⟩ := T.d_key_body
  refine def_by T.g_key_body G sc_key_body rfl (fun _ _ _ _ _ _ us hl => match us, hl with | [_], _ => rfl) (fun cdv A outer s H E hr tk hp =>
  (db_one (ds_ret (de_bin opr_add o_add (de_call (ok_digits T) (hr.mono (by decide)) tk rfl (da_cons (de_callB c_len o_len rfl T.g_len (by decide +kernel) (da_cons (de_var (i := 0) rfl (.inl rfl)) da_nil)) (da_cons de_int da_nil))) (de_var (i := 0) rfl (.inl rfl))))))
def N_Head_body : List Str := ["self", "number"]
theorem sc_Head_body : FnScope N_Head_body ["self"] (defScope s_Head_body) := ⟨rfl, rfl, rfl, by decide +kernel, rfl, by decide +kernel, by decide +kernel⟩
def c1_Head_body : DE :=
  (dCall 2 f_digits (dCons (dVar 1) (dCons (dC (.int 2)) dNil)))
def b_Head_body : DS :=
  (dRet (dM1 mJoin (dC (.str "")) (dComp (dItT (dTup (dCons (dUn (fAttr (okF itab "top") "top") (dVar 0)) (dCons (dUn (fAttr (okF itab "depth") "depth") (dVar 0)) (dCons (dUn (fAttr (okF itab "amount") "amount") (dVar 0)) (dCons (dUn (fAttr (okF itab "free") "free") (dVar 0)) dNil)))))) (gSlot 1) dYes c1_Head_body [1])))
def f_Head_body : FN := runB 2 b_Head_body
theorem ok_Head_body (T : Top K mg) : MethOk P w K mg base 3 "Head" "body" 1 f_Head_body := by
  obtain ⟨fd, G⟩ := T.d_Head_body
  refine meth_by T.cl_Head T.m_Head_body G sc_Head_body rfl (fun _ _ _ _ _ _ us hl => match us, hl with | [_], _ => rfl) (fun cdv A outer s H E hr tk hp =>
  (db_one (ds_ret (de_join de_str (de_comp (own := [("number", 1)]) rfl sc_Head_body.nd (di_tup (de_tup (da_cons (de_attr (fun _ h => T.i.fld h) (de_var (i := 0) rfl (.inl rfl))) (da_cons (de_attr (fun _ h => T.i.fld h) (de_var (i := 0) rfl (.inl rfl))) (da_cons (de_attr (fun _ h => T.i.fld h) (de_var (i := 0) rfl (.inl rfl))) (da_cons (de_attr (fun _ h => T.i.fld h) (de_var (i := 0) rfl (.inl rfl))) da_nil)))))) (show BlkOk N_Head_body (defScope s_Head_body) _ _ from blk_of (by decide +kernel)) (fun _ _ _ _ _ => (dc_name sc_Head_body.nd rfl (.inl rfl) (by simp))) (fun _ _ _ _ _ => dp_nil) (fun _ _ _ _ _ => (de_call (ok_digits T) (hr.mono (by decide)) takes_f rfl (da_cons (de_var (i := 1) rfl (.inl rfl)) (da_cons de_int da_nil)))))))))
def N_Rest_body : List Str := ["self"]
theorem sc_Rest_body : FnScope N_Rest_body ["self"] (defScope s_Rest_body) := ⟨rfl, rfl, rfl, by decide +kernel, rfl, by decide +kernel, by decide +kernel⟩
def b_Rest_body : DS :=
  (dRet (dBin fAdd (dCall 2 f_digits (dCons (dUn (fAttr (okF itab "behind") "behind") (dVar 0)) (dCons (dC (.int 2)) dNil))) (dUn (fAttr (okF itab "text") "text") (dVar 0))))
def f_Rest_body : FN := runB 1 b_Rest_body
theorem ok_Rest_body (T : Top K mg) : MethOk P w K mg base 3 "Rest" "body" 1 f_Rest_body := by
  obtain ⟨fd, G⟩ := T.d_Rest_body
  refine meth_by T.cl_Rest T.m_Rest_body G sc_Rest_body rfl (fun _ _ _ _ _ _ us hl => match us, hl with | [_], _ => rfl) (fun cdv A outer s H E hr tk hp =>
  (db_one (ds_ret (de_bin opr_add o_add (de_call (ok_digits T) (hr.mono (by decide)) tk rfl (da_cons (de_attr (fun _ h => T.i.fld h) (de_var (i := 0) rfl (.inl rfl))) (da_cons de_int da_nil))) (de_attr (fun _ h => T.i.fld h) (de_var (i := 0) rfl (.inl rfl)))))))
def N_Free_body : List Str := ["self"]
theorem sc_Free_body : FnScope N_Free_body ["self"] (defScope s_Free_body) := ⟨rfl, rfl, rfl, by decide +kernel, rfl, by decide +kernel, by decide +kernel⟩
def b_Free_body : DS :=
  (dRet (dCall 2 f_digits (dCons (dUn (fAttr (okF itab "behind") "behind") (dVar 0)) (dCons (dC (.int 2)) dNil))))
def f_Free_body : FN := runB 1 b_Free_body
theorem ok_Free_body (T : Top K mg) : MethOk P w K mg base 3 "Free" "body" 1 f_Free_body := by
  obtain ⟨fd, G⟩ := T.d_Free_body
  refine meth_by T.cl_Free T.m_Free_body G sc_Free_body rfl (fun _ _ _ _ _ _ us hl => match us, hl with | [_], _ => rfl) (fun cdv A outer s H E hr tk hp =>
  (db_one (ds_ret (de_call (ok_digits T) (hr.mono (by decide)) tk rfl (da_cons (de_attr (fun _ h => T.i.fld h) (de_var (i := 0) rfl (.inl rfl))) (da_cons de_int da_nil))))))
def N_need_size : List Str := ["size"]
theorem sc_need_size : FnScope N_need_size ["size"] (defScope s_need_size) := ⟨rfl, rfl, rfl, by decide +kernel, rfl, by decide +kernel, by decide +kernel⟩
def b_need_size : DS :=
  (dIf (dNot (dTest (dCall 1 f_is_size (dCons (dVar 0) dNil))))
   (dRaise "BadSize")
   dNext)
def f_need_size : FN := runB 1 b_need_size
theorem ok_need_size (T : Top K mg) : DefOk P w K mg base 3 "need_size" 1 f_need_size := by
  obtain ⟨fd, G⟩ := T.d_need_size
  refine def_by T.g_need_size G sc_need_size rfl (fun _ _ _ _ _ _ us hl => match us, hl with | [_], _ => rfl) (fun cdv A outer s H E hr tk hp =>
  (db_one (ds_if (dt_not (dt_val (de_call (ok_is_size T) (hr.mono (by decide)) tk rfl (da_cons (de_var (i := 0) rfl (.inl rfl)) da_nil))))
   (db_one (ds_raise T.e_BadSize rfl tk rfl))
   db_nil)))
def N_Parts_signs : List Str := ["self", "many", "found"]
theorem sc_Parts_signs : FnScope N_Parts_signs ["self", "many"] (defScope s_Parts_signs) := ⟨rfl, rfl, rfl, by decide +kernel, rfl, by decide +kernel, by decide +kernel⟩
def b_Parts_signs : DS :=
  (dSeq (dAsg (dSl (dUn (fAttr (okF itab "text") "text") (dVar 0)) (dPart (dUn (fAttr (okF itab "place") "place") (dVar 0))) (dPart (dBin fAdd (dUn (fAttr (okF itab "place") "place") (dVar 0)) (dVar 1)))) (gSlot 2))
  (dSeq (dIf (dTest (dBin fLtX (dCB fLen (dCons (dVar 2) dNil)) (dVar 1)))
   (dRaiseI "BadPage" "number" (dC .non))
   dNext)
  (dSeq (dAttrPut (okF itab "place") "place" (dVar 0) (dBin fAdd (dUn (fAttr (okF itab "place") "place") (dVar 0)) (dVar 1)))
  (dRet (dVar 2)))))
def f_Parts_signs : FN := runB 3 b_Parts_signs
theorem ok_Parts_signs (T : Top K mg) : MethOk P w K mg base 3 "Parts" "signs" 2 f_Parts_signs := by
  obtain ⟨fd, G⟩ := T.d_Parts_signs
  refine meth_by T.cl_Parts T.m_Parts_signs G sc_Parts_signs rfl (fun _ _ _ _ _ _ us hl => match us, hl with | [_, _], _ => rfl) (fun cdv A outer s H E hr tk hp =>
  (db_cons (ds_set sc_Parts_signs.nd (i := 2) rfl (.inl rfl) (de_sl (de_attr (fun _ h => T.i.fld h) (de_var (i := 0) rfl (.inl rfl))) (do_some (de_attr (fun _ h => T.i.fld h) (de_var (i := 0) rfl (.inl rfl)))) (do_some (de_bin opr_add o_add (de_attr (fun _ h => T.i.fld h) (de_var (i := 0) rfl (.inl rfl))) (de_var (i := 1) rfl (.inl rfl))))))
  (db_cons (ds_if (dt_cmp opr_ltX o_ltX (de_callB c_len o_len rfl T.g_len (by decide +kernel) (da_cons (de_var (i := 2) rfl (.inl rfl)) da_nil)) (de_var (i := 1) rfl (.inl rfl)))
   (db_one (ds_raiseI0 (ex_BadPage T) rfl (hr.mono (by decide)) tk rfl))
   db_nil)
  (db_cons (ds_attr (fun _ h => T.i.fld h) (de_var (i := 0) rfl (.inl rfl)) (de_bin opr_add o_add (de_attr (fun _ h => T.i.fld h) (de_var (i := 0) rfl (.inl rfl))) (de_var (i := 1) rfl (.inl rfl))))
  (db_one (ds_ret (de_var (i := 2) rfl (.inl rfl))))))))
def mt_signs : MTab := tabOf [("Parts", 2, f_Parts_signs)]
theorem mt_signs_ok (T : Top K mg) : ∀ c n F, mt_signs c = some (n, F) → MethOk P w K mg base 3 c "signs" n F := by
  refine tab_all (R := fun c n F => MethOk P w K mg base 3 c "signs" n F) fun p hp => ?_
  simp only [List.mem_cons, List.mem_nil_iff, or_false] at hp
  rcases hp with rfl
  · exact (ok_Parts_signs T).mono (by decide)
def N_Disk___init__ : List Str := ["self", "size"]
theorem sc_Disk___init__ : FnScope N_Disk___init__ ["self", "size"] (defScope s_Disk___init__) := ⟨rfl, rfl, rfl, by decide +kernel, rfl, by decide +kernel, by decide +kernel⟩
def b_Disk___init__ : DS :=
  (dSeq (dIf (dNot (dTest (dCall 1 f_is_size (dCons (dVar 1) dNil))))
   (dRaise "BadSize")
   dNext)
  (dSeq (dAttrPut (okF itab "size") "size" (dVar 0) (dVar 1))
  (dSeq (dAttrPut (okF itab "texts") "texts" (dVar 0) (dLstA dNil))
  (dSeq (dAttrPut (okF itab "lines") "lines" (dVar 0) (dLstA dNil))
  (dSeq (dAttrPut (okF itab "begun") "begun" (dVar 0) (dC (.int 0)))
  (dSeq (dAttrPut (okF itab "due") "due" (dVar 0) (dC .non))
  (dSeq (dAttrPut (okF itab "cut") "cut" (dVar 0) (dC (.int 0)))
  (dAttrPut (okF itab "on") "on" (dVar 0) (dC (.bl true))))))))))
def f_Disk___init__ : FN := runB 2 b_Disk___init__
theorem mk_Disk (T : Top K mg) : MakeOk P w K mg base 3 "Disk" 2 f_Disk___init__ := by
  obtain ⟨fd, G⟩ := T.d_Disk___init__
  refine make_by T.g_Disk T.k_Disk G sc_Disk___init__ rfl (fun _ _ _ _ _ _ us hl => match us, hl with | [_, _], _ => rfl) (fun cdv A outer s H E hr tk hp =>
  (db_cons (ds_if (dt_not (dt_val (de_call (ok_is_size T) (hr.mono (by decide)) tk rfl (da_cons (de_var (i := 1) rfl (.inl rfl)) da_nil))))
   (db_one (ds_raise T.e_BadSize rfl tk rfl))
   db_nil)
  (db_cons (ds_attr (fun _ h => T.i.fld h) (de_var (i := 0) rfl (.inl rfl)) (de_var (i := 1) rfl (.inl rfl)))
  (db_cons (ds_attr (fun _ h => T.i.fld h) (de_var (i := 0) rfl (.inl rfl)) (de_lstA da_nil))
  (db_cons (ds_attr (fun _ h => T.i.fld h) (de_var (i := 0) rfl (.inl rfl)) (de_lstA da_nil))
  (db_cons (ds_attr (fun _ h => T.i.fld h) (de_var (i := 0) rfl (.inl rfl)) de_int)
  (db_cons (ds_attr (fun _ h => T.i.fld h) (de_var (i := 0) rfl (.inl rfl)) de_non)
  (db_cons (ds_attr (fun _ h => T.i.fld h) (de_var (i := 0) rfl (.inl rfl)) de_int)
  (db_one (ds_attr (fun _ h => T.i.fld h) (de_var (i := 0) rfl (.inl rfl)) de_bl))))))))))
def N__law_keys : List Str := ["_law_tape_here", "_law_many", "_law_base", "_law_at", "_law_size_here", "_law_signs_here", "_law_k", "_law_sign"]
theorem sc__law_keys : FnScope N__law_keys ["_law_tape_here", "_law_many"] (defScope s__law_keys) := ⟨rfl, rfl, rfl, by decide +kernel, rfl, by decide +kernel, by decide +kernel⟩
def c1__law_keys : DE :=
  (dSl (dVar 2) dNoPart (dPart (dBin fAdd (dVar 6) (dC (.int 1)))))
def c2__law_keys : DE :=
  (dBin fAdd (dBin fAdd (dSl (dVar 2) dNoPart (dPart (dVar 3))) (dVar 7)) (dSl (dVar 2) (dPart (dBin fAdd (dVar 3) (dC (.int 1)))) (dPart (dVar 4))))
def b__law_keys : DS :=
  (dSeq (dAsg (dCall 2 f__law_text (dCons (dVar 0) (dCons (dC (.int 12)) dNil))) (gSlot 2))
  (dSeq (dIf (dTest (dBin fEq (dCall 2 f__law_draw (dCons (dVar 0) (dCons (dC (.int 3)) dNil))) (dC (.int 0))))
   (dRet (dComp (dItR1 (dVar 1)) (gSlot 6) dYes c1__law_keys [6]))
   dNext)
  (dSeq (dAsg (dCall 2 f__law_draw (dCons (dVar 0) (dCons (dC (.int 12)) dNil))) (gSlot 3))
  (dSeq (dAsg (dBin fAdd (dVar 3) (dCall 2 f__law_draw (dCons (dVar 0) (dCons (dBin fSub (dC (.int 13)) (dVar 3)) dNil)))) (gSlot 4))
  (dSeq (dAsg (dSl (dCall 2 f__law_text (dCons (dVar 0) (dCons (dC (.int 94)) dNil))) dNoPart (dPart (dVar 1))) (gSlot 5))
  (dRet (dUn (fSortSet false) (dComp (dItS (dVar 5)) (gSlot 7) dYes c2__law_keys [7]))))))))
def f__law_keys : FN := runB 8 b__law_keys
theorem ok__law_keys (T : Top K mg) : DefOk P w K mg base 3 "_law_keys" 2 f__law_keys := by
  obtain ⟨fd, G⟩ := T.d__law_keys
  refine def_by T.g__law_keys G sc__law_keys rfl (fun _ _ _ _ _ _ us hl => match us, hl with | [_, _], _ => rfl) (fun cdv A outer s H E hr tk hp =>
  (db_cons (ds_set sc__law_keys.nd (i := 2) rfl (.inr rfl) (de_call (ok__law_text T) (hr.mono (by decide)) tk rfl (da_cons (de_var (i := 0) rfl (.inl rfl)) (da_cons de_int da_nil))))
  (db_cons (ds_if (dt_cmp (op_eqD hr.units) o_eq (de_call (ok__law_draw T) (hr.mono (by decide)) tk rfl (da_cons (de_var (i := 0) rfl (.inl rfl)) (da_cons de_int da_nil))) de_int)
   (db_one (ds_ret (de_comp (own := [("_law_k", 6)]) rfl sc__law_keys.nd (di_range1 rfl T.g_range (de_var (i := 1) rfl (.inl rfl))) (show BlkOk N__law_keys (defScope s__law_keys) _ _ from blk_of (by decide +kernel)) (fun _ _ _ _ _ => (dc_name sc__law_keys.nd rfl (.inl rfl) (by simp))) (fun _ _ _ _ _ => dp_nil) (fun _ _ _ _ _ => (de_sl (de_var (i := 2) rfl (.inr (.inl rfl))) do_none (do_some (de_bin opr_add o_add (de_var (i := 6) rfl (.inl rfl)) de_int)))))))
   db_nil)
  (db_cons (ds_set sc__law_keys.nd (i := 3) rfl (.inr rfl) (de_call (ok__law_draw T) (hr.mono (by decide)) tk rfl (da_cons (de_var (i := 0) rfl (.inl rfl)) (da_cons de_int da_nil))))
  (db_cons (ds_set sc__law_keys.nd (i := 4) rfl (.inr rfl) (de_bin opr_add o_add (de_var (i := 3) rfl (.inr (.inl rfl))) (de_call (ok__law_draw T) (hr.mono (by decide)) tk rfl (da_cons (de_var (i := 0) rfl (.inl rfl)) (da_cons (de_bin op_sub o_sub de_int (de_var (i := 3) rfl (.inr (.inl rfl)))) da_nil)))))
  (db_cons (ds_set sc__law_keys.nd (i := 5) rfl (.inl rfl) (de_sl (de_call (ok__law_text T) (hr.mono (by decide)) tk rfl (da_cons (de_var (i := 0) rfl (.inl rfl)) (da_cons de_int da_nil))) do_none (do_some (de_var (i := 1) rfl (.inl rfl)))))
  (db_one (ds_ret (de_sortSet rfl rfl T.g_sorted rfl T.g_set (de_comp (own := [("_law_sign", 7)]) rfl sc__law_keys.nd (di_str (de_var (i := 5) rfl (.inl rfl))) (show BlkOk N__law_keys (defScope s__law_keys) _ _ from blk_of (by decide +kernel)) (fun _ _ _ _ _ => (dc_name sc__law_keys.nd rfl (.inl rfl) (by simp))) (fun _ _ _ _ _ => dp_nil) (fun _ _ _ _ _ => (de_bin opr_add o_add (de_bin opr_add o_add (de_sl (de_var (i := 2) rfl (.inr (.inl rfl))) do_none (do_some (de_var (i := 3) rfl (.inr (.inl rfl))))) (de_var (i := 7) rfl (.inl rfl))) (de_sl (de_var (i := 2) rfl (.inr (.inl rfl))) (do_some (de_bin opr_add o_add (de_var (i := 3) rfl (.inr (.inl rfl))) de_int)) (do_some (de_var (i := 4) rfl (.inr (.inl rfl)))))))))))))))))
def N__law_longer : List Str := ["_law_tape_here", "_law_page_here", "_law_key", "_law_size_here", "_law_most", "_law_cell"]
theorem sc__law_longer : FnScope N__law_longer ["_law_tape_here", "_law_page_here", "_law_key", "_law_size_here", "_law_most"] (defScope s__law_longer) := ⟨rfl, rfl, rfl, by decide +kernel, rfl, by decide +kernel, by decide +kernel⟩
def b__law_longer : DS :=
  (dSeq (dIf (dTest (dBin fEq (dBin fIx (dVar 1) (dC (.int 0))) (dC (.str "fork"))))
   (dRet (dTup (dCons (dC (.str "fork")) (dCons (dBin (fCat false) (dBin fIx (dVar 1) (dC (.int 1))) (dTup (dCons (dVar 2) dNil))) (dCons (dBin (fCat false) (dBin fIx (dVar 1) (dC (.int 2))) (dTup (dCons (dBin fAdd (dC (.int 1)) (dCall 2 f__law_draw (dCons (dVar 0) (dCons (dVar 4) dNil)))) dNil))) dNil)))))
   dNext)
  (dSeq (dAsg (dTup (dCons (dC (.str "out")) (dCons (dBin fAdd (dC (.int 1)) (dCall 2 f__law_draw (dCons (dVar 0) (dCons (dC (.int 400)) dNil)))) (dCons (dBin fAdd (dC (.int 1)) (dCall 2 f__law_draw (dCons (dVar 0) (dCons (dVar 4) dNil)))) dNil)))) (gSlot 5))
  (dSeq (dIf (dTest (dBin fGtX (dCall 2 f__law_draw (dCons (dVar 0) (dCons (dC (.int 3)) dNil))) (dC (.int 0))))
   (dAsg (dTup (dCons (dC (.str "in")) (dCons (dCall 2 f__law_text (dCons (dVar 0) (dCons (dCall 2 f__law_draw (dCons (dVar 0) (dCons (dBin fAdd (dBin fFdiv (dVar 3) (dC (.int 8))) (dC (.int 1))) dNil))) dNil))) dNil))) (gSlot 5))
   dNext)
  (dRet (dTup (dCons (dC (.str "leaf")) (dCons (dBin (fCat false) (dBin fIx (dVar 1) (dC (.int 1))) (dTup (dCons (dTup (dCons (dVar 2) (dCons (dVar 5) dNil))) dNil))) dNil)))))))
def f__law_longer : FN := runB 6 b__law_longer
theorem ok__law_longer (T : Top K mg) : DefOk P w K mg base 3 "_law_longer" 5 f__law_longer := by
  obtain ⟨fd, G⟩ := T.d__law_longer
  refine def_by T.g__law_longer G sc__law_longer rfl (fun _ _ _ _ _ _ us hl => match us, hl with | [_, _, _, _, _], _ => rfl) (fun cdv A outer s H E hr tk hp =>
  (db_cons (ds_if (dt_cmp (op_eqD hr.units) o_eq (de_ix (de_var (i := 1) rfl (.inl rfl)) de_int) de_str)
   (db_one (ds_ret (de_tup (da_cons de_str (da_cons (de_bin opr_cat o_cat (de_ix (de_var (i := 1) rfl (.inl rfl)) de_int) (de_tup (da_cons (de_var (i := 2) rfl (.inl rfl)) da_nil))) (da_cons (de_bin opr_cat o_cat (de_ix (de_var (i := 1) rfl (.inl rfl)) de_int) (de_tup (da_cons (de_bin opr_add o_add de_int (de_call (ok__law_draw T) (hr.mono (by decide)) tk rfl (da_cons (de_var (i := 0) rfl (.inl rfl)) (da_cons (de_var (i := 4) rfl (.inl rfl)) da_nil)))) da_nil))) da_nil))))))
   db_nil)
  (db_cons (ds_set sc__law_longer.nd (i := 5) rfl (.inl rfl) (de_tup (da_cons de_str (da_cons (de_bin opr_add o_add de_int (de_call (ok__law_draw T) (hr.mono (by decide)) tk rfl (da_cons (de_var (i := 0) rfl (.inl rfl)) (da_cons de_int da_nil)))) (da_cons (de_bin opr_add o_add de_int (de_call (ok__law_draw T) (hr.mono (by decide)) tk rfl (da_cons (de_var (i := 0) rfl (.inl rfl)) (da_cons (de_var (i := 4) rfl (.inl rfl)) da_nil)))) da_nil)))))
  (db_cons (ds_if (dt_cmp opr_gtX o_gtX (de_call (ok__law_draw T) (hr.mono (by decide)) tk rfl (da_cons (de_var (i := 0) rfl (.inl rfl)) (da_cons de_int da_nil))) de_int)
   (db_one (ds_set sc__law_longer.nd (i := 5) rfl (.inl rfl) (de_tup (da_cons de_str (da_cons (de_call (ok__law_text T) (hr.mono (by decide)) tk rfl (da_cons (de_var (i := 0) rfl (.inl rfl)) (da_cons (de_call (ok__law_draw T) (hr.mono (by decide)) tk rfl (da_cons (de_var (i := 0) rfl (.inl rfl)) (da_cons (de_bin opr_add o_add (de_bin op_fdiv o_fdiv (de_var (i := 3) rfl (.inl rfl)) de_int) de_int) da_nil))) da_nil))) da_nil)))))
   db_nil)
  (db_one (ds_ret (de_tup (da_cons de_str (da_cons (de_bin opr_cat o_cat (de_ix (de_var (i := 1) rfl (.inl rfl)) de_int) (de_tup (da_cons (de_tup (da_cons (de_var (i := 2) rfl (.inl rfl)) (da_cons (de_var (i := 5) rfl (.inl rfl)) da_nil))) da_nil))) da_nil)))))))))
def N_is_row : List Str := ["thing"]
theorem sc_is_row : FnScope N_is_row ["thing"] (defScope s_is_row) := ⟨rfl, rfl, rfl, by decide +kernel, rfl, by decide +kernel, by decide +kernel⟩
def b_is_row : DS :=
  (dRet (dAndV (dIsB (fun t => t == "tuple") (dVar 0)) (dAndV (dBin fEq (dCB fLen (dCons (dVar 0) dNil)) (dC (.int 2))) (dAndV (dCall 1 f_is_key (dCons (dBin fIx (dVar 0) (dC (.int 0))) dNil)) (dCall 1 f_is_cell (dCons (dBin fIx (dVar 0) (dC (.int 1))) dNil))))))
def f_is_row : FN := runB 1 b_is_row
theorem ok_is_row (T : Top K mg) : DefOk P w K mg base 4 "is_row" 1 f_is_row := by
  obtain ⟨fd, G⟩ := T.d_is_row
  refine def_by T.g_is_row G sc_is_row rfl (fun _ _ _ _ _ _ us hl => match us, hl with | [_], _ => rfl) (fun cdv A outer s H E hr tk hp =>
  (db_one (ds_ret (de_and (de_isiB (T := "tuple") (by decide +kernel) rfl T.g_isinstance rfl T.g_tuple (by decide +kernel) (de_var (i := 0) rfl (.inl rfl))) (de_and (de_cmp (op_eqD hr.units) o_eq (de_callB c_len o_len rfl T.g_len (by decide +kernel) (da_cons (de_var (i := 0) rfl (.inl rfl)) da_nil)) de_int) (de_and (de_call (ok_is_key T) (hr.mono (by decide)) tk rfl (da_cons (de_ix (de_var (i := 0) rfl (.inl rfl)) de_int) da_nil)) (de_one (de_call (ok_is_cell T) (hr.mono (by decide)) tk rfl (da_cons (de_ix (de_var (i := 0) rfl (.inl rfl)) de_int) da_nil)))))))))
def N_Leaf_body : List Str := ["self", "key", "cell"]
theorem sc_Leaf_body : FnScope N_Leaf_body ["self"] (defScope s_Leaf_body) := ⟨rfl, rfl, rfl, by decide +kernel, rfl, by decide +kernel, by decide +kernel⟩
def c1_Leaf_body : DE :=
  (dBin fAdd (dCall 1 f_key_body (dCons (dVar 1) dNil)) (dCall 1 f_cell_body (dCons (dVar 2) dNil)))
def b_Leaf_body : DS :=
  (dRet (dBin fAdd (dCall 2 f_digits (dCons (dCB fLen (dCons (dUn (fAttr (okF itab "entries") "entries") (dVar 0)) dNil)) (dCons (dC (.int 1)) dNil))) (dM1 mJoin (dC (.str "")) (dComp (dItT (dUn (fAttr (okF itab "entries") "entries") (dVar 0))) (gTupD 2 (gsCons (gSlot 1) (gsCons (gSlot 2) gsNil))) dYes c1_Leaf_body [1, 2]))))
def f_Leaf_body : FN := runB 3 b_Leaf_body
theorem ok_Leaf_body (T : Top K mg) : MethOk P w K mg base 4 "Leaf" "body" 1 f_Leaf_body := by
  obtain ⟨fd, G⟩ := T.d_Leaf_body
  refine meth_by T.cl_Leaf T.m_Leaf_body G sc_Leaf_body rfl (fun _ _ _ _ _ _ us hl => match us, hl with | [_], _ => rfl) (fun cdv A outer s H E hr tk hp =>
  (db_one (ds_ret (de_bin opr_add o_add (de_call (ok_digits T) (hr.mono (by decide)) tk rfl (da_cons (de_callB c_len o_len rfl T.g_len (by decide +kernel) (da_cons (de_attr (fun _ h => T.i.fld h) (de_var (i := 0) rfl (.inl rfl))) da_nil)) (da_cons de_int da_nil))) (de_join de_str (de_comp (own := [("key", 1), ("cell", 2)]) rfl sc_Leaf_body.nd (di_tup (de_attr (fun _ h => T.i.fld h) (de_var (i := 0) rfl (.inl rfl)))) (show BlkOk N_Leaf_body (defScope s_Leaf_body) _ _ from blk_of (by decide +kernel)) (fun _ _ _ _ _ => (dc_tup rfl (dcs_cons (dc_name sc_Leaf_body.nd rfl (.inl rfl) (by simp)) (dcs_cons (dc_name sc_Leaf_body.nd rfl (.inl rfl) (by simp)) dcs_nil)))) (fun _ _ _ _ _ => dp_nil) (fun _ _ _ _ _ => (de_bin opr_add o_add (de_call (ok_key_body T) (hr.mono (by decide)) takes_f rfl (da_cons (de_var (i := 1) rfl (.inl rfl)) da_nil)) (de_call (ok_cell_body T) (hr.mono (by decide)) takes_f rfl (da_cons (de_var (i := 2) rfl (.inl rfl)) da_nil))))))))))
def N_Fork_body : List Str := ["self", "found", "key", "kid"]
theorem sc_Fork_body : FnScope N_Fork_body ["self"] (defScope s_Fork_body) := ⟨rfl, rfl, rfl, by decide +kernel, rfl, by decide +kernel, by decide +kernel⟩
def c1_Fork_body : DE :=
  (dCall 1 f_key_body (dCons (dVar 2) dNil))
def c2_Fork_body : DE :=
  (dCall 2 f_digits (dCons (dVar 3) (dCons (dC (.int 2)) dNil)))
def b_Fork_body : DS :=
  (dSeq (dAsg (dBin fAdd (dCall 2 f_digits (dCons (dCB fLen (dCons (dUn (fAttr (okF itab "parting") "parting") (dVar 0)) dNil)) (dCons (dC (.int 1)) dNil))) (dM1 mJoin (dC (.str "")) (dComp (dItT (dUn (fAttr (okF itab "parting") "parting") (dVar 0))) (gSlot 2) dYes c1_Fork_body [2]))) (gSlot 1))
  (dRet (dBin fAdd (dVar 1) (dM1 mJoin (dC (.str "")) (dComp (dItT (dUn (fAttr (okF itab "kids") "kids") (dVar 0))) (gSlot 3) dYes c2_Fork_body [3])))))
def f_Fork_body : FN := runB 4 b_Fork_body
theorem ok_Fork_body (T : Top K mg) : MethOk P w K mg base 4 "Fork" "body" 1 f_Fork_body := by
  obtain ⟨fd, G⟩ := T.d_Fork_body
  refine meth_by T.cl_Fork T.m_Fork_body G sc_Fork_body rfl (fun _ _ _ _ _ _ us hl => match us, hl with | [_], _ => rfl) (fun cdv A outer s H E hr tk hp =>
  (db_cons (ds_set sc_Fork_body.nd (i := 1) rfl (.inl rfl) (de_bin opr_add o_add (de_call (ok_digits T) (hr.mono (by decide)) tk rfl (da_cons (de_callB c_len o_len rfl T.g_len (by decide +kernel) (da_cons (de_attr (fun _ h => T.i.fld h) (de_var (i := 0) rfl (.inl rfl))) da_nil)) (da_cons de_int da_nil))) (de_join de_str (de_comp (own := [("key", 2)]) rfl sc_Fork_body.nd (di_tup (de_attr (fun _ h => T.i.fld h) (de_var (i := 0) rfl (.inl rfl)))) (show BlkOk N_Fork_body (defScope s_Fork_body) _ _ from blk_of (by decide +kernel)) (fun _ _ _ _ _ => (dc_name sc_Fork_body.nd rfl (.inl rfl) (by simp))) (fun _ _ _ _ _ => dp_nil) (fun _ _ _ _ _ => (de_call (ok_key_body T) (hr.mono (by decide)) takes_f rfl (da_cons (de_var (i := 2) rfl (.inl rfl)) da_nil)))))))
  (db_one (ds_ret (de_bin opr_add o_add (de_var (i := 1) rfl (.inl rfl)) (de_join de_str (de_comp (own := [("kid", 3)]) rfl sc_Fork_body.nd (di_tup (de_attr (fun _ h => T.i.fld h) (de_var (i := 0) rfl (.inl rfl)))) (show BlkOk N_Fork_body (defScope s_Fork_body) _ _ from blk_of (by decide +kernel)) (fun _ _ _ _ _ => (dc_name sc_Fork_body.nd rfl (.inl rfl) (by simp))) (fun _ _ _ _ _ => dp_nil) (fun _ _ _ _ _ => (de_call (ok_digits T) (hr.mono (by decide)) takes_f rfl (da_cons (de_var (i := 3) rfl (.inl rfl)) (da_cons de_int da_nil)))))))))))
def mt_body : MTab := tabOf [("Head", 1, f_Head_body), ("Leaf", 1, f_Leaf_body), ("Fork", 1, f_Fork_body), ("Rest", 1, f_Rest_body), ("Free", 1, f_Free_body)]
theorem mt_body_ok (T : Top K mg) : ∀ c n F, mt_body c = some (n, F) → MethOk P w K mg base 4 c "body" n F := by
  refine tab_all (R := fun c n F => MethOk P w K mg base 4 c "body" n F) fun p hp => ?_
  simp only [List.mem_cons, List.mem_nil_iff, or_false] at hp
  rcases hp with rfl | rfl | rfl | rfl | rfl
  · exact (ok_Head_body T).mono (by decide)
  · exact (ok_Leaf_body T).mono (by decide)
  · exact (ok_Fork_body T).mono (by decide)
  · exact (ok_Rest_body T).mono (by decide)
  · exact (ok_Free_body T).mono (by decide)
def N_Parts_figure : List Str := ["self", "many", "e"]
theorem sc_Parts_figure : FnScope N_Parts_figure ["self", "many"] (defScope s_Parts_figure) := ⟨rfl, rfl, rfl, by decide +kernel, rfl, by decide +kernel, by decide +kernel⟩
def b_Parts_figure : DS :=
  (dTryAs (exX xtab "BadText") 2
   (dRet (dCall 1 f_number_of (dCons (dMeth "signs" mt_signs (dVar 0) (dCons (dVar 1) dNil)) dNil)))
   dNo)
def f_Parts_figure : FN := runB 3 b_Parts_figure
theorem ok_Parts_figure (T : Top K mg) : MethOk P w K mg base 4 "Parts" "figure" 2 f_Parts_figure := by
  obtain ⟨fd, G⟩ := T.d_Parts_figure
  refine meth_by T.cl_Parts T.m_Parts_figure G sc_Parts_figure rfl (fun _ _ _ _ _ _ us hl => match us, hl with | [_, _], _ => rfl) (fun cdv A outer s H E hr tk hp =>
  (db_one (ds_try_as (i := 2) rfl rfl rfl sc_Parts_figure.nd rfl rfl rfl T.g_BadText rfl tk (T.x.ex (by decide +kernel)) (fun W pn xe tk2 hp2 =>
   (db_one (ds_ret (de_call (ok_number_of T) (hr.mono (by decide)) tk2 rfl (da_cons (de_meth (tab := mt_signs) (de_var (i := 0) rfl (.inl rfl)) (mt_signs_ok T) (hr.mono (by decide)) tk2 (da_cons (de_var (i := 1) rfl (.inl rfl)) da_nil)) da_nil)))))
   (fun a pn => (db_one ds_no)))))
def mt_figure : MTab := tabOf [("Parts", 2, f_Parts_figure)]
theorem mt_figure_ok (T : Top K mg) : ∀ c n F, mt_figure c = some (n, F) → MethOk P w K mg base 4 c "figure" n F := by
  refine tab_all (R := fun c n F => MethOk P w K mg base 4 c "figure" n F) fun p hp => ?_
  simp only [List.mem_cons, List.mem_nil_iff, or_false] at hp
  rcases hp with rfl
  · exact (ok_Parts_figure T).mono (by decide)
def N_Parts_others : List Str := ["self"]
theorem sc_Parts_others : FnScope N_Parts_others ["self"] (defScope s_Parts_others) := ⟨rfl, rfl, rfl, by decide +kernel, rfl, by decide +kernel, by decide +kernel⟩
def b_Parts_others : DS :=
  (dRet (dMeth "signs" mt_signs (dVar 0) (dCons (dBin fSub (dCB fLen (dCons (dUn (fAttr (okF itab "text") "text") (dVar 0)) dNil)) (dUn (fAttr (okF itab "place") "place") (dVar 0))) dNil)))
def f_Parts_others : FN := runB 1 b_Parts_others
theorem ok_Parts_others (T : Top K mg) : MethOk P w K mg base 4 "Parts" "others" 1 f_Parts_others := by
  obtain ⟨fd, G⟩ := T.d_Parts_others
  refine meth_by T.cl_Parts T.m_Parts_others G sc_Parts_others rfl (fun _ _ _ _ _ _ us hl => match us, hl with | [_], _ => rfl) (fun cdv A outer s H E hr tk hp =>
  (db_one (ds_ret (de_meth (tab := mt_signs) (de_var (i := 0) rfl (.inl rfl)) (mt_signs_ok T) (hr.mono (by decide)) tk (da_cons (de_bin op_sub o_sub (de_callB c_len o_len rfl T.g_len (by decide +kernel) (da_cons (de_attr (fun _ h => T.i.fld h) (de_var (i := 0) rfl (.inl rfl))) da_nil)) (de_attr (fun _ h => T.i.fld h) (de_var (i := 0) rfl (.inl rfl)))) da_nil)))))
def mt_others : MTab := tabOf [("Parts", 1, f_Parts_others)]
theorem mt_others_ok (T : Top K mg) : ∀ c n F, mt_others c = some (n, F) → MethOk P w K mg base 4 c "others" n F := by
  refine tab_all (R := fun c n F => MethOk P w K mg base 4 c "others" n F) fun p hp => ?_
  simp only [List.mem_cons, List.mem_nil_iff, or_false] at hp
  rcases hp with rfl
  · exact (ok_Parts_others T).mono (by decide)
def N_made : List Str := ["thing", "number", "row", "kid"]
theorem sc_made : FnScope N_made ["thing"] (defScope s_made) := ⟨rfl, rfl, rfl, by decide +kernel, rfl, by decide +kernel, by decide +kernel⟩
def c1_made : DE :=
  (dCallD 1 [.int 0] f_is_number (dCons (dVar 1) dNil))
def c2_made : DE :=
  (dCall 1 f_is_row (dCons (dVar 2) dNil))
def c3_made : DE :=
  (dBin fIx (dVar 2) (dC (.int 0)))
def c4_made : DE :=
  (dCall 2 f_is_number (dCons (dVar 3) (dCons (dC (.int 1)) dNil)))
def b_made : DS :=
  (dSeq (dIf (dAnd (dTest (dCall 3 f_has_word (dCons (dVar 0) (dCons (dC (.str "head")) (dCons (dC (.int 5)) dNil))))) (dTest (dCB fAll (dCons (dComp (dItT (dSl (dVar 0) (dPart (dC (.int 1))) dNoPart)) (gSlot 1) dYes c1_made [1]) dNil))))
   (dRet (dMake "Head" 5 f_Head___init__ (dCons (dBin fIx (dVar 0) (dC (.int 1))) (dCons (dBin fIx (dVar 0) (dC (.int 2))) (dCons (dBin fIx (dVar 0) (dC (.int 3))) (dCons (dBin fIx (dVar 0) (dC (.int 4))) dNil))))))
   dNext)
  (dSeq (dIf (dAnd (dTest (dCall 3 f_has_word (dCons (dVar 0) (dCons (dC (.str "leaf")) (dCons (dC (.int 2)) dNil))))) (dAnd (dTest (dIsB (fun t => t == "tuple") (dBin fIx (dVar 0) (dC (.int 1))))) (dTest (dCB fAll (dCons (dComp (dItT (dBin fIx (dVar 0) (dC (.int 1)))) (gSlot 2) dYes c2_made [2]) dNil)))))
   (dIf (dTest (dCall 1 f_are_keys (dCons (dComp (dItT (dBin fIx (dVar 0) (dC (.int 1)))) (gSlot 2) dYes c3_made [2]) dNil)))
    (dRet (dMake "Leaf" 2 f_Leaf___init__ (dCons (dBin fIx (dVar 0) (dC (.int 1))) dNil)))
    dNext)
   dNext)
  (dSeq (dIf (dAnd (dTest (dCall 3 f_has_word (dCons (dVar 0) (dCons (dC (.str "fork")) (dCons (dC (.int 3)) dNil))))) (dAnd (dTest (dIsB (fun t => t == "tuple") (dBin fIx (dVar 0) (dC (.int 1))))) (dTest (dIsB (fun t => t == "tuple") (dBin fIx (dVar 0) (dC (.int 2)))))))
   (dIf (dAnd (dTest (dCall 1 f_are_keys (dCons (dCB (fListOf false) (dCons (dBin fIx (dVar 0) (dC (.int 1))) dNil)) dNil))) (dTest (dCB fAll (dCons (dComp (dItT (dBin fIx (dVar 0) (dC (.int 2)))) (gSlot 3) dYes c4_made [3]) dNil))))
    (dIf (dTest (dBin fEq (dCB fLen (dCons (dBin fIx (dVar 0) (dC (.int 2))) dNil)) (dBin fAdd (dCB fLen (dCons (dBin fIx (dVar 0) (dC (.int 1))) dNil)) (dC (.int 1)))))
     (dRet (dMake "Fork" 3 f_Fork___init__ (dCons (dBin fIx (dVar 0) (dC (.int 1))) (dCons (dBin fIx (dVar 0) (dC (.int 2))) dNil))))
     dNext)
    dNext)
   dNext)
  (dSeq (dIf (dAnd (dTest (dCall 3 f_has_word (dCons (dVar 0) (dCons (dC (.str "rest")) (dCons (dC (.int 3)) dNil))))) (dAnd (dTest (dCall 1 f_is_value (dCons (dBin fIx (dVar 0) (dC (.int 1))) dNil))) (dAnd (dTest (dBin fNe (dBin fIx (dVar 0) (dC (.int 1))) (dC (.str "")))) (dTest (dCallD 1 [.int 0] f_is_number (dCons (dBin fIx (dVar 0) (dC (.int 2))) dNil))))))
   (dRet (dMake "Rest" 3 f_Rest___init__ (dCons (dBin fIx (dVar 0) (dC (.int 1))) (dCons (dBin fIx (dVar 0) (dC (.int 2))) dNil))))
   dNext)
  (dSeq (dIf (dAnd (dTest (dCall 3 f_has_word (dCons (dVar 0) (dCons (dC (.str "free")) (dCons (dC (.int 2)) dNil))))) (dTest (dCallD 1 [.int 0] f_is_number (dCons (dBin fIx (dVar 0) (dC (.int 1))) dNil))))
   (dRet (dMake "Free" 2 f_Free___init__ (dCons (dBin fIx (dVar 0) (dC (.int 1))) dNil)))
   dNext)
  (dRet (dC .non)))))))
def f_made : FN := runB 4 b_made
theorem ok_made (T : Top K mg) : DefOk P w K mg base 5 "made" 1 f_made := by
  obtain ⟨fd, G⟩ := T.d_made
  refine def_by T.g_made G sc_made rfl (fun _ _ _ _ _ _ us hl => match us, hl with | [_], _ => rfl) (fun cdv A outer s H E hr tk hp =>
  (db_cons (ds_if (dt_w (dw_and (dt_val (de_call (ok_has_word T) (hr.mono (by decide)) tk rfl (da_cons (de_var (i := 0) rfl (.inl rfl)) (da_cons de_str (da_cons de_int da_nil))))) (dw_and1 (dt_val (de_callB (cr_all rfl) o_all rfl T.g_all (by decide +kernel) (da_cons (de_comp (own := [("number", 1)]) rfl sc_made.nd (di_tup (de_sl (de_var (i := 0) rfl (.inl rfl)) (do_some de_int) do_none)) (show BlkOk N_made (defScope s_made) _ _ from blk_of (by decide +kernel)) (fun _ _ _ _ _ => (dc_name sc_made.nd rfl (.inl rfl) (by simp))) (fun _ _ _ _ _ => dp_nil) (fun _ _ _ _ _ => (de_callD (okD_is_number T) (hr.mono (by decide)) takes_f rfl (da_cons (de_var (i := 1) rfl (.inl rfl)) da_nil)))) da_nil))))))
   (db_one (ds_ret (de_make (mk_Head T) (hr.mono (by decide)) tk rfl (da_cons (de_ix (de_var (i := 0) rfl (.inl rfl)) de_int) (da_cons (de_ix (de_var (i := 0) rfl (.inl rfl)) de_int) (da_cons (de_ix (de_var (i := 0) rfl (.inl rfl)) de_int) (da_cons (de_ix (de_var (i := 0) rfl (.inl rfl)) de_int) da_nil)))))))
   db_nil)
  (db_cons (ds_if (dt_w (dw_and (dt_val (de_call (ok_has_word T) (hr.mono (by decide)) tk rfl (da_cons (de_var (i := 0) rfl (.inl rfl)) (da_cons de_str (da_cons de_int da_nil))))) (dw_and (dt_val (de_isiB (T := "tuple") (by decide +kernel) rfl T.g_isinstance rfl T.g_tuple (by decide +kernel) (de_ix (de_var (i := 0) rfl (.inl rfl)) de_int))) (dw_and1 (dt_val (de_callB (cr_all rfl) o_all rfl T.g_all (by decide +kernel) (da_cons (de_comp (own := [("row", 2)]) rfl sc_made.nd (di_tup (de_ix (de_var (i := 0) rfl (.inl rfl)) de_int)) (show BlkOk N_made (defScope s_made) _ _ from blk_of (by decide +kernel)) (fun _ _ _ _ _ => (dc_name sc_made.nd rfl (.inl rfl) (by simp))) (fun _ _ _ _ _ => dp_nil) (fun _ _ _ _ _ => (de_call (ok_is_row T) (hr.mono (by decide)) takes_f rfl (da_cons (de_var (i := 2) rfl (.inl rfl)) da_nil)))) da_nil)))))))
   (db_one (ds_if (dt_val (de_call (ok_are_keys T) (hr.mono (by decide)) tk rfl (da_cons (de_comp (own := [("row", 2)]) rfl sc_made.nd (di_tup (de_ix (de_var (i := 0) rfl (.inl rfl)) de_int)) (show BlkOk N_made (defScope s_made) _ _ from blk_of (by decide +kernel)) (fun _ _ _ _ _ => (dc_name sc_made.nd rfl (.inl rfl) (by simp))) (fun _ _ _ _ _ => dp_nil) (fun _ _ _ _ _ => (de_ix (de_var (i := 2) rfl (.inl rfl)) de_int))) da_nil)))
    (db_one (ds_ret (de_make (mk_Leaf T) (hr.mono (by decide)) tk rfl (da_cons (de_ix (de_var (i := 0) rfl (.inl rfl)) de_int) da_nil))))
    db_nil))
   db_nil)
  (db_cons (ds_if (dt_w (dw_and (dt_val (de_call (ok_has_word T) (hr.mono (by decide)) tk rfl (da_cons (de_var (i := 0) rfl (.inl rfl)) (da_cons de_str (da_cons de_int da_nil))))) (dw_and (dt_val (de_isiB (T := "tuple") (by decide +kernel) rfl T.g_isinstance rfl T.g_tuple (by decide +kernel) (de_ix (de_var (i := 0) rfl (.inl rfl)) de_int))) (dw_and1 (dt_val (de_isiB (T := "tuple") (by decide +kernel) rfl T.g_isinstance rfl T.g_tuple (by decide +kernel) (de_ix (de_var (i := 0) rfl (.inl rfl)) de_int)))))))
   (db_one (ds_if (dt_w (dw_and (dt_val (de_call (ok_are_keys T) (hr.mono (by decide)) tk rfl (da_cons (de_callTy call_list_of o_listOf rfl T.g_list (by decide +kernel) (da_cons (de_ix (de_var (i := 0) rfl (.inl rfl)) de_int) da_nil)) da_nil))) (dw_and1 (dt_val (de_callB (cr_all rfl) o_all rfl T.g_all (by decide +kernel) (da_cons (de_comp (own := [("kid", 3)]) rfl sc_made.nd (di_tup (de_ix (de_var (i := 0) rfl (.inl rfl)) de_int)) (show BlkOk N_made (defScope s_made) _ _ from blk_of (by decide +kernel)) (fun _ _ _ _ _ => (dc_name sc_made.nd rfl (.inl rfl) (by simp))) (fun _ _ _ _ _ => dp_nil) (fun _ _ _ _ _ => (de_call (ok_is_number T) (hr.mono (by decide)) takes_f rfl (da_cons (de_var (i := 3) rfl (.inl rfl)) (da_cons de_int da_nil))))) da_nil))))))
    (db_one (ds_if (dt_cmp (op_eqD hr.units) o_eq (de_callB c_len o_len rfl T.g_len (by decide +kernel) (da_cons (de_ix (de_var (i := 0) rfl (.inl rfl)) de_int) da_nil)) (de_bin opr_add o_add (de_callB c_len o_len rfl T.g_len (by decide +kernel) (da_cons (de_ix (de_var (i := 0) rfl (.inl rfl)) de_int) da_nil)) de_int))
     (db_one (ds_ret (de_make (mk_Fork T) (hr.mono (by decide)) tk rfl (da_cons (de_ix (de_var (i := 0) rfl (.inl rfl)) de_int) (da_cons (de_ix (de_var (i := 0) rfl (.inl rfl)) de_int) da_nil)))))
     db_nil))
    db_nil))
   db_nil)
  (db_cons (ds_if (dt_w (dw_and (dt_val (de_call (ok_has_word T) (hr.mono (by decide)) tk rfl (da_cons (de_var (i := 0) rfl (.inl rfl)) (da_cons de_str (da_cons de_int da_nil))))) (dw_and (dt_val (de_call (ok_is_value T) (hr.mono (by decide)) tk rfl (da_cons (de_ix (de_var (i := 0) rfl (.inl rfl)) de_int) da_nil))) (dw_and (dt_cmp (op_neD hr.units) o_ne (de_ix (de_var (i := 0) rfl (.inl rfl)) de_int) de_str) (dw_and1 (dt_val (de_callD (okD_is_number T) (hr.mono (by decide)) tk rfl (da_cons (de_ix (de_var (i := 0) rfl (.inl rfl)) de_int) da_nil))))))))
   (db_one (ds_ret (de_make (mk_Rest T) (hr.mono (by decide)) tk rfl (da_cons (de_ix (de_var (i := 0) rfl (.inl rfl)) de_int) (da_cons (de_ix (de_var (i := 0) rfl (.inl rfl)) de_int) da_nil)))))
   db_nil)
  (db_cons (ds_if (dt_w (dw_and (dt_val (de_call (ok_has_word T) (hr.mono (by decide)) tk rfl (da_cons (de_var (i := 0) rfl (.inl rfl)) (da_cons de_str (da_cons de_int da_nil))))) (dw_and1 (dt_val (de_callD (okD_is_number T) (hr.mono (by decide)) tk rfl (da_cons (de_ix (de_var (i := 0) rfl (.inl rfl)) de_int) da_nil))))))
   (db_one (ds_ret (de_make (mk_Free T) (hr.mono (by decide)) tk rfl (da_cons (de_ix (de_var (i := 0) rfl (.inl rfl)) de_int) da_nil))))
   db_nil)
  (db_one (ds_ret de_non))))))))
def N_cell_in : List Str := ["parts"]
theorem sc_cell_in : FnScope N_cell_in ["parts"] (defScope s_cell_in) := ⟨rfl, rfl, rfl, by decide +kernel, rfl, by decide +kernel, by decide +kernel⟩
def b_cell_in : DS :=
  (dSeq (dIf (dTest (dBin fEq (dMeth "signs" mt_signs (dVar 0) (dCons (dC (.int 1)) dNil)) (dC (.str "i"))))
   (dRet (dTup (dCons (dC (.str "in")) (dCons (dMeth "signs" mt_signs (dVar 0) (dCons (dMeth "figure" mt_figure (dVar 0) (dCons (dC (.int 1)) dNil)) dNil)) dNil))))
   dNext)
  (dRet (dTup (dCons (dC (.str "out")) (dCons (dMeth "figure" mt_figure (dVar 0) (dCons (dC (.int 2)) dNil)) (dCons (dMeth "figure" mt_figure (dVar 0) (dCons (dC (.int 2)) dNil)) dNil))))))
def f_cell_in : FN := runB 1 b_cell_in
theorem ok_cell_in (T : Top K mg) : DefOk P w K mg base 5 "cell_in" 1 f_cell_in := by
  obtain ⟨fd, G⟩ := T.d_cell_in
  refine def_by T.g_cell_in G sc_cell_in rfl (fun _ _ _ _ _ _ us hl => match us, hl with | [_], _ => rfl) (fun cdv A outer s H E hr tk hp =>
  (db_cons (ds_if (dt_cmp (op_eqD hr.units) o_eq (de_meth (tab := mt_signs) (de_var (i := 0) rfl (.inl rfl)) (mt_signs_ok T) (hr.mono (by decide)) tk (da_cons de_int da_nil)) de_str)
   (db_one (ds_ret (de_tup (da_cons de_str (da_cons (de_meth (tab := mt_signs) (de_var (i := 0) rfl (.inl rfl)) (mt_signs_ok T) (hr.mono (by decide)) tk (da_cons (de_meth (tab := mt_figure) (de_var (i := 0) rfl (.inl rfl)) (mt_figure_ok T) (hr.mono (by decide)) tk (da_cons de_int da_nil)) da_nil)) da_nil)))))
   db_nil)
  (db_one (ds_ret (de_tup (da_cons de_str (da_cons (de_meth (tab := mt_figure) (de_var (i := 0) rfl (.inl rfl)) (mt_figure_ok T) (hr.mono (by decide)) tk (da_cons de_int da_nil)) (da_cons (de_meth (tab := mt_figure) (de_var (i := 0) rfl (.inl rfl)) (mt_figure_ok T) (hr.mono (by decide)) tk (da_cons de_int da_nil)) da_nil))))))))
def N_key_in : List Str := ["parts"]
theorem sc_key_in : FnScope N_key_in ["parts"] (defScope s_key_in) := ⟨rfl, rfl, rfl, by decide +kernel, rfl, by decide +kernel, by decide +kernel⟩
def b_key_in : DS :=
  (dRet (dMeth "signs" mt_signs (dVar 0) (dCons (dMeth "figure" mt_figure (dVar 0) (dCons (dC (.int 1)) dNil)) dNil)))
def f_key_in : FN := runB 1 b_key_in
theorem ok_key_in (T : Top K mg) : DefOk P w K mg base 5 "key_in" 1 f_key_in := by
  obtain ⟨fd, G⟩ := T.d_key_in
  refine def_by T.g_key_in G sc_key_in rfl (fun _ _ _ _ _ _ us hl => match us, hl with | [_], _ => rfl) (fun cdv A outer s H E hr tk hp =>
  (db_one (ds_ret (de_meth (tab := mt_signs) (de_var (i := 0) rfl (.inl rfl)) (mt_signs_ok T) (hr.mono (by decide)) tk (da_cons (de_meth (tab := mt_figure) (de_var (i := 0) rfl (.inl rfl)) (mt_figure_ok T) (hr.mono (by decide)) tk (da_cons de_int da_nil)) da_nil)))))
def N_is_page : List Str := ["thing"]
theorem sc_is_page : FnScope N_is_page ["thing"] (defScope s_is_page) := ⟨rfl, rfl, rfl, by decide +kernel, rfl, by decide +kernel, by decide +kernel⟩
def b_is_page : DS :=
  (dRet (dBin (fIsN true) (dCall 1 f_made (dCons (dVar 0) dNil)) (dC .non)))
def f_is_page : FN := runB 1 b_is_page
theorem ok_is_page (T : Top K mg) : DefOk P w K mg base 6 "is_page" 1 f_is_page := by
  obtain ⟨fd, G⟩ := T.d_is_page
  refine def_by T.g_is_page G sc_is_page rfl (fun _ _ _ _ _ _ us hl => match us, hl with | [_], _ => rfl) (fun cdv A outer s H E hr tk hp =>
  (db_one (ds_ret (de_cmp op_notN o_notN (de_call (ok_made T) (hr.mono (by decide)) tk rfl (da_cons (de_var (i := 0) rfl (.inl rfl)) da_nil)) de_non))))
def N_need_page : List Str := ["thing", "page"]
theorem sc_need_page : FnScope N_need_page ["thing"] (defScope s_need_page) := ⟨rfl, rfl, rfl, by decide +kernel, rfl, by decide +kernel, by decide +kernel⟩
def b_need_page : DS :=
  (dSeq (dAsg (dCall 1 f_made (dCons (dVar 0) dNil)) (gSlot 1))
  (dSeq (dIf (dTest (dBin (fIsN false) (dVar 1) (dC .non)))
   (dRaiseI "BadPage" "number" (dC .non))
   dNext)
  (dRet (dVar 1))))
def f_need_page : FN := runB 2 b_need_page
theorem ok_need_page (T : Top K mg) : DefOk P w K mg base 6 "need_page" 1 f_need_page := by
  obtain ⟨fd, G⟩ := T.d_need_page
  refine def_by T.g_need_page G sc_need_page rfl (fun _ _ _ _ _ _ us hl => match us, hl with | [_], _ => rfl) (fun cdv A outer s H E hr tk hp =>
  (db_cons (ds_set sc_need_page.nd (i := 1) rfl (.inl rfl) (de_call (ok_made T) (hr.mono (by decide)) tk rfl (da_cons (de_var (i := 0) rfl (.inl rfl)) da_nil)))
  (db_cons (ds_if (dt_cmp op_isN o_isN (de_var (i := 1) rfl (.inl rfl)) de_non)
   (db_one (ds_raiseI0 (ex_BadPage T) rfl (hr.mono (by decide)) tk rfl))
   db_nil)
  (db_one (ds_ret (de_var (i := 1) rfl (.inl rfl)))))))
def N_shape_in : List Str := ["letter", "parts", "keys", "behind", "turn"]
theorem sc_shape_in : FnScope N_shape_in ["letter", "parts"] (defScope s_shape_in) := ⟨rfl, rfl, rfl, by decide +kernel, rfl, by decide +kernel, by decide +kernel⟩
def c1_shape_in : DE :=
  (dMeth "figure" mt_figure (dVar 1) (dCons (dC (.int 2)) dNil))
def c2_shape_in : DE :=
  (dTup (dCons (dCall 1 f_key_in (dCons (dVar 1) dNil)) (dCons (dCall 1 f_cell_in (dCons (dVar 1) dNil)) dNil)))
def c3_shape_in : DE :=
  (dCall 1 f_key_in (dCons (dVar 1) dNil))
def c4_shape_in : DE :=
  (dMeth "figure" mt_figure (dVar 1) (dCons (dC (.int 2)) dNil))
def b_shape_in : DS :=
  (dSeq (dIf (dTest (dBin fEq (dVar 0) (dC (.str "h"))))
   (dRet (dCB fTupOf (dCons (dBin (fCat false) (dLstA (dCons (dC (.str "head")) dNil)) (dCompA (dItR1 (dC (.int 4))) (gSlot 4) dYes c1_shape_in [4])) dNil)))
   dNext)
  (dSeq (dIf (dTest (dBin fEq (dVar 0) (dC (.str "l"))))
   (dRet (dTup (dCons (dC (.str "leaf")) (dCons (dCB fTupOf (dCons (dComp (dItR1 (dMeth "figure" mt_figure (dVar 1) (dCons (dC (.int 1)) dNil))) (gSlot 4) dYes c2_shape_in [4]) dNil)) dNil))))
   dNext)
  (dSeq (dIf (dTest (dBin fEq (dVar 0) (dC (.str "f"))))
   (dSeq (dAsg (dCB fTupOf (dCons (dComp (dItR1 (dMeth "figure" mt_figure (dVar 1) (dCons (dC (.int 1)) dNil))) (gSlot 4) dYes c3_shape_in [4]) dNil)) (gSlot 2))
   (dRet (dTup (dCons (dC (.str "fork")) (dCons (dVar 2) (dCons (dCB fTupOf (dCons (dComp (dItR1 (dBin fAdd (dCB fLen (dCons (dVar 2) dNil)) (dC (.int 1)))) (gSlot 4) dYes c4_shape_in [4]) dNil)) dNil))))))
   dNext)
  (dSeq (dIf (dTest (dBin fEq (dVar 0) (dC (.str "r"))))
   (dSeq (dAsg (dMeth "figure" mt_figure (dVar 1) (dCons (dC (.int 2)) dNil)) (gSlot 3))
   (dRet (dTup (dCons (dC (.str "rest")) (dCons (dMeth "others" mt_others (dVar 1) dNil) (dCons (dVar 3) dNil))))))
   dNext)
  (dRet (dTup (dCons (dC (.str "free")) (dCons (dMeth "figure" mt_figure (dVar 1) (dCons (dC (.int 2)) dNil)) dNil))))))))
def f_shape_in : FN := runB 5 b_shape_in
theorem ok_shape_in (T : Top K mg) : DefOk P w K mg base 6 "shape_in" 2 f_shape_in := by
  obtain ⟨fd, G⟩ := T.d_shape_in
  refine def_by T.g_shape_in G sc_shape_in rfl (fun _ _ _ _ _ _ us hl => match us, hl with | [_, _], _ => rfl) (fun cdv A outer s H E hr tk hp =>
  (db_cons (ds_if (dt_cmp (op_eqD hr.units) o_eq (de_var (i := 0) rfl (.inl rfl)) de_str)
   (db_one (ds_ret (de_callTy call_tuple_of o_tupOf rfl T.g_tuple (by decide +kernel) (da_cons (de_bin opr_cat o_cat (de_lstA (da_cons de_str da_nil)) (de_compA (own := [("turn", 4)]) rfl sc_shape_in.nd (di_range1 rfl T.g_range de_int) (show BlkOk N_shape_in (defScope s_shape_in) _ _ from blk_of (by decide +kernel)) (fun _ _ _ _ _ => (dc_name sc_shape_in.nd rfl (.inl rfl) (by simp))) (fun _ _ _ _ _ => dp_nil) (fun _ _ _ _ _ => (de_meth (tab := mt_figure) (de_var (i := 1) rfl (.inr (.inl rfl))) (mt_figure_ok T) (hr.mono (by decide)) takes_f (da_cons de_int da_nil))))) da_nil))))
   db_nil)
  (db_cons (ds_if (dt_cmp (op_eqD hr.units) o_eq (de_var (i := 0) rfl (.inl rfl)) de_str)
   (db_one (ds_ret (de_tup (da_cons de_str (da_cons (de_callTy call_tuple_of o_tupOf rfl T.g_tuple (by decide +kernel) (da_cons (de_comp (own := [("turn", 4)]) rfl sc_shape_in.nd (di_range1 rfl T.g_range (de_meth (tab := mt_figure) (de_var (i := 1) rfl (.inr (.inl rfl))) (mt_figure_ok T) (hr.mono (by decide)) tk (da_cons de_int da_nil))) (show BlkOk N_shape_in (defScope s_shape_in) _ _ from blk_of (by decide +kernel)) (fun _ _ _ _ _ => (dc_name sc_shape_in.nd rfl (.inl rfl) (by simp))) (fun _ _ _ _ _ => dp_nil) (fun _ _ _ _ _ => (de_tup (da_cons (de_call (ok_key_in T) (hr.mono (by decide)) takes_f rfl (da_cons (de_var (i := 1) rfl (.inr (.inl rfl))) da_nil)) (da_cons (de_call (ok_cell_in T) (hr.mono (by decide)) takes_f rfl (da_cons (de_var (i := 1) rfl (.inr (.inl rfl))) da_nil)) da_nil))))) da_nil)) da_nil)))))
   db_nil)
  (db_cons (ds_if (dt_cmp (op_eqD hr.units) o_eq (de_var (i := 0) rfl (.inl rfl)) de_str)
   (db_cons (ds_set sc_shape_in.nd (i := 2) rfl (.inl rfl) (de_callTy call_tuple_of o_tupOf rfl T.g_tuple (by decide +kernel) (da_cons (de_comp (own := [("turn", 4)]) rfl sc_shape_in.nd (di_range1 rfl T.g_range (de_meth (tab := mt_figure) (de_var (i := 1) rfl (.inr (.inl rfl))) (mt_figure_ok T) (hr.mono (by decide)) tk (da_cons de_int da_nil))) (show BlkOk N_shape_in (defScope s_shape_in) _ _ from blk_of (by decide +kernel)) (fun _ _ _ _ _ => (dc_name sc_shape_in.nd rfl (.inl rfl) (by simp))) (fun _ _ _ _ _ => dp_nil) (fun _ _ _ _ _ => (de_call (ok_key_in T) (hr.mono (by decide)) takes_f rfl (da_cons (de_var (i := 1) rfl (.inr (.inl rfl))) da_nil)))) da_nil)))
   (db_one (ds_ret (de_tup (da_cons de_str (da_cons (de_var (i := 2) rfl (.inl rfl)) (da_cons (de_callTy call_tuple_of o_tupOf rfl T.g_tuple (by decide +kernel) (da_cons (de_comp (own := [("turn", 4)]) rfl sc_shape_in.nd (di_range1 rfl T.g_range (de_bin opr_add o_add (de_callB c_len o_len rfl T.g_len (by decide +kernel) (da_cons (de_var (i := 2) rfl (.inl rfl)) da_nil)) de_int)) (show BlkOk N_shape_in (defScope s_shape_in) _ _ from blk_of (by decide +kernel)) (fun _ _ _ _ _ => (dc_name sc_shape_in.nd rfl (.inl rfl) (by simp))) (fun _ _ _ _ _ => dp_nil) (fun _ _ _ _ _ => (de_meth (tab := mt_figure) (de_var (i := 1) rfl (.inr (.inl rfl))) (mt_figure_ok T) (hr.mono (by decide)) takes_f (da_cons de_int da_nil)))) da_nil)) da_nil)))))))
   db_nil)
  (db_cons (ds_if (dt_cmp (op_eqD hr.units) o_eq (de_var (i := 0) rfl (.inl rfl)) de_str)
   (db_cons (ds_set sc_shape_in.nd (i := 3) rfl (.inl rfl) (de_meth (tab := mt_figure) (de_var (i := 1) rfl (.inr (.inl rfl))) (mt_figure_ok T) (hr.mono (by decide)) tk (da_cons de_int da_nil)))
   (db_one (ds_ret (de_tup (da_cons de_str (da_cons (de_meth0 (tab := mt_others) (de_var (i := 1) rfl (.inr (.inl rfl))) (mt_others_ok T) (hr.mono (by decide)) tk) (da_cons (de_var (i := 3) rfl (.inl rfl)) da_nil)))))))
   db_nil)
  (db_one (ds_ret (de_tup (da_cons de_str (da_cons (de_meth (tab := mt_figure) (de_var (i := 1) rfl (.inr (.inl rfl))) (mt_figure_ok T) (hr.mono (by decide)) tk (da_cons de_int da_nil)) da_nil))))))))))
def N_body_of : List Str := ["page"]
theorem sc_body_of : FnScope N_body_of ["page"] (defScope s_body_of) := ⟨rfl, rfl, rfl, by decide +kernel, rfl, by decide +kernel, by decide +kernel⟩
def b_body_of : DS :=
  (dRet (dMeth "body" mt_body (dCall 1 f_need_page (dCons (dVar 0) dNil)) dNil))
def f_body_of : FN := runB 1 b_body_of
theorem ok_body_of (T : Top K mg) : DefOk P w K mg base 7 "body_of" 1 f_body_of := by
  obtain ⟨fd, G⟩ := T.d_body_of
  refine def_by T.g_body_of G sc_body_of rfl (fun _ _ _ _ _ _ us hl => match us, hl with | [_], _ => rfl) (fun cdv A outer s H E hr tk hp =>
  (db_one (ds_ret (de_meth0 (tab := mt_body) (de_call (ok_need_page T) (hr.mono (by decide)) tk rfl (da_cons (de_var (i := 0) rfl (.inl rfl)) da_nil)) (mt_body_ok T) (hr.mono (by decide)) tk))))
def N_page_text : List Str := ["page", "size", "found", "body", "text"]
theorem sc_page_text : FnScope N_page_text ["page", "size"] (defScope s_page_text) := ⟨rfl, rfl, rfl, by decide +kernel, rfl, by decide +kernel, by decide +kernel⟩
def b_page_text : DS :=
  (dSeq (dAsg (dCall 1 f_need_page (dCons (dVar 0) dNil)) (gSlot 2))
  (dSeq (dExpr (dCall 1 f_need_size (dCons (dVar 1) dNil)))
  (dSeq (dAsg (dMeth "body" mt_body (dVar 2) dNil) (gSlot 3))
  (dSeq (dIf (dTest (dBin fGtX (dCB fLen (dCons (dVar 3) dNil)) (dBin fSub (dVar 1) (dC (.int 5)))))
   (dRaiseI "BadPage" "number" (dC .non))
   dNext)
  (dSeq (dAsg (dBin fAdd (dBin fAdd (dMeth "letter" mt_letter (dVar 2) dNil) (dCall 2 f_digits (dCons (dCB fLen (dCons (dVar 3) dNil)) (dCons (dC (.int 2)) dNil)))) (dVar 3)) (gSlot 4))
  (dSeq (dAsg (dBin fAdd (dVar 4) (dBin (fRep false) (dC (.str "0")) (dBin fSub (dBin fSub (dVar 1) (dC (.int 2))) (dCB fLen (dCons (dVar 4) dNil))))) (gSlot 4))
  (dRet (dBin fAdd (dVar 4) (dCall 1 f_check_of (dCons (dVar 4) dNil))))))))))
def f_page_text : FN := runB 5 b_page_text
theorem ok_page_text (T : Top K mg) : DefOk P w K mg base 7 "page_text" 2 f_page_text := by
  obtain ⟨fd, G⟩ := T.d_page_text
  refine def_by T.g_page_text G sc_page_text rfl (fun _ _ _ _ _ _ us hl => match us, hl with | [_, _], _ => rfl) (fun cdv A outer s H E hr tk hp =>
  (db_cons (ds_set sc_page_text.nd (i := 2) rfl (.inl rfl) (de_call (ok_need_page T) (hr.mono (by decide)) tk rfl (da_cons (de_var (i := 0) rfl (.inl rfl)) da_nil)))
  (db_cons (ds_expr (de_call (ok_need_size T) (hr.mono (by decide)) tk rfl (da_cons (de_var (i := 1) rfl (.inl rfl)) da_nil)))
  (db_cons (ds_set sc_page_text.nd (i := 3) rfl (.inl rfl) (de_meth0 (tab := mt_body) (de_var (i := 2) rfl (.inl rfl)) (mt_body_ok T) (hr.mono (by decide)) tk))
  (db_cons (ds_if (dt_cmp opr_gtX o_gtX (de_callB c_len o_len rfl T.g_len (by decide +kernel) (da_cons (de_var (i := 3) rfl (.inl rfl)) da_nil)) (de_bin op_sub o_sub (de_var (i := 1) rfl (.inl rfl)) (de_gint rfl T.g_AROUND)))
   (db_one (ds_raiseI0 (ex_BadPage T) rfl (hr.mono (by decide)) tk rfl))
   db_nil)
  (db_cons (ds_set sc_page_text.nd (i := 4) rfl (.inl rfl) (de_bin opr_add o_add (de_bin opr_add o_add (de_meth0 (tab := mt_letter) (de_var (i := 2) rfl (.inl rfl)) (mt_letter_ok T) (hr.mono (by decide)) tk) (de_call (ok_digits T) (hr.mono (by decide)) tk rfl (da_cons (de_callB c_len o_len rfl T.g_len (by decide +kernel) (da_cons (de_var (i := 3) rfl (.inl rfl)) da_nil)) (da_cons de_int da_nil)))) (de_var (i := 3) rfl (.inl rfl))))
  (db_cons (ds_set sc_page_text.nd (i := 4) rfl (.inl rfl) (de_bin opr_add o_add (de_var (i := 4) rfl (.inl rfl)) (de_bin opr_rep o_rep de_str (de_bin op_sub o_sub (de_bin op_sub o_sub (de_var (i := 1) rfl (.inl rfl)) de_int) (de_callB c_len o_len rfl T.g_len (by decide +kernel) (da_cons (de_var (i := 4) rfl (.inl rfl)) da_nil))))))
  (db_one (ds_ret (de_bin opr_add o_add (de_var (i := 4) rfl (.inl rfl)) (de_call (ok_check_of T) (hr.mono (by decide)) tk rfl (da_cons (de_var (i := 4) rfl (.inl rfl)) da_nil))))))))))))
def N_page_of : List Str := ["text", "many", "e", "found"]
theorem sc_page_of : FnScope N_page_of ["text"] (defScope s_page_of) := ⟨rfl, rfl, rfl, by decide +kernel, rfl, by decide +kernel, by decide +kernel⟩
def b_page_of : DS :=
  (dSeq (dIf (dOr (dNot (dTest (dCall 1 f_is_text (dCons (dVar 0) dNil)))) (dOr (dNot (dTest (dCall 1 f_is_size (dCons (dCB fLen (dCons (dVar 0) dNil)) dNil)))) (dTest (dBin fNe (dSl (dVar 0) (dPart (dUn fNeg (dC (.int 2)))) dNoPart) (dCall 1 f_check_of (dCons (dSl (dVar 0) dNoPart (dPart (dUn fNeg (dC (.int 2))))) dNil))))))
   (dRaiseI "BadPage" "number" (dC .non))
   dNext)
  (dSeq (dTryAs (exX xtab "BadText") 2
   (dAsg (dCall 1 f_number_of (dCons (dSl (dVar 0) (dPart (dC (.int 1))) (dPart (dC (.int 3)))) dNil)) (gSlot 1))
   dNo)
  (dSeq (dAsg (dCall 2 f_shape_in (dCons (dBin fIx (dVar 0) (dC (.int 0))) (dCons (dMake "Parts" 2 f_Parts___init__ (dCons (dSl (dVar 0) (dPart (dC (.int 3))) (dPart (dBin fAdd (dC (.int 3)) (dVar 1)))) dNil)) dNil))) (gSlot 3))
  (dSeq (dIf (dOr (dNot (dTest (dCall 1 f_is_page (dCons (dVar 3) dNil)))) (dOr (dTest (dBin fGtX (dCB fLen (dCons (dCall 1 f_body_of (dCons (dVar 3) dNil)) dNil)) (dBin fSub (dCB fLen (dCons (dVar 0) dNil)) (dC (.int 5))))) (dTest (dBin fNe (dCall 2 f_page_text (dCons (dVar 3) (dCons (dCB fLen (dCons (dVar 0) dNil)) dNil))) (dVar 0)))))
   (dRaiseI "BadPage" "number" (dC .non))
   dNext)
  (dRet (dVar 3))))))
def f_page_of : FN := runB 4 b_page_of
theorem ok_page_of (T : Top K mg) : DefOk P w K mg base 8 "page_of" 1 f_page_of := by
  obtain ⟨fd, G⟩ := T.d_page_of
  refine def_by T.g_page_of G sc_page_of rfl (fun _ _ _ _ _ _ us hl => match us, hl with | [_], _ => rfl) (fun cdv A outer s H E hr tk hp =>
  (db_cons (ds_if (dt_w (dw_or (dt_not (dt_val (de_call (ok_is_text T) (hr.mono (by decide)) tk rfl (da_cons (de_var (i := 0) rfl (.inl rfl)) da_nil)))) (dw_or (dt_not (dt_val (de_call (ok_is_size T) (hr.mono (by decide)) tk rfl (da_cons (de_callB c_len o_len rfl T.g_len (by decide +kernel) (da_cons (de_var (i := 0) rfl (.inl rfl)) da_nil)) da_nil)))) (dw_or1 (dt_cmp (op_neD hr.units) o_ne (de_sl (de_var (i := 0) rfl (.inl rfl)) (do_some (de_un un_neg o_neg de_int)) do_none) (de_call (ok_check_of T) (hr.mono (by decide)) tk rfl (da_cons (de_sl (de_var (i := 0) rfl (.inl rfl)) do_none (do_some (de_un un_neg o_neg de_int))) da_nil)))))))
   (db_one (ds_raiseI0 (ex_BadPage T) rfl (hr.mono (by decide)) tk rfl))
   db_nil)
  (db_cons (ds_try_as (i := 2) rfl rfl rfl sc_page_of.nd rfl rfl rfl T.g_BadText rfl tk (T.x.ex (by decide +kernel)) (fun W pn xe tk2 hp2 =>
   (db_one (ds_set sc_page_of.nd (i := 1) rfl (.inl rfl) (de_call (ok_number_of T) (hr.mono (by decide)) tk2 rfl (da_cons (de_sl (de_var (i := 0) rfl (.inl rfl)) (do_some de_int) (do_some de_int)) da_nil)))))
   (fun a pn => (db_one ds_no)))
  (db_cons (ds_set sc_page_of.nd (i := 3) rfl (.inl rfl) (de_call (ok_shape_in T) (hr.mono (by decide)) tk rfl (da_cons (de_ix (de_var (i := 0) rfl (.inl rfl)) de_int) (da_cons (de_make (mk_Parts T) (hr.mono (by decide)) tk rfl (da_cons (de_sl (de_var (i := 0) rfl (.inl rfl)) (do_some de_int) (do_some (de_bin opr_add o_add de_int (de_var (i := 1) rfl (.inl rfl))))) da_nil)) da_nil))))
  (db_cons (ds_if (dt_w (dw_or (dt_not (dt_val (de_call (ok_is_page T) (hr.mono (by decide)) tk rfl (da_cons (de_var (i := 3) rfl (.inl rfl)) da_nil)))) (dw_or (dt_cmp opr_gtX o_gtX (de_callB c_len o_len rfl T.g_len (by decide +kernel) (da_cons (de_call (ok_body_of T) (hr.mono (by decide)) tk rfl (da_cons (de_var (i := 3) rfl (.inl rfl)) da_nil)) da_nil)) (de_bin op_sub o_sub (de_callB c_len o_len rfl T.g_len (by decide +kernel) (da_cons (de_var (i := 0) rfl (.inl rfl)) da_nil)) (de_gint rfl T.g_AROUND))) (dw_or1 (dt_cmp (op_neD hr.units) o_ne (de_call (ok_page_text T) (hr.mono (by decide)) tk rfl (da_cons (de_var (i := 3) rfl (.inl rfl)) (da_cons (de_callB c_len o_len rfl T.g_len (by decide +kernel) (da_cons (de_var (i := 0) rfl (.inl rfl)) da_nil)) da_nil))) (de_var (i := 0) rfl (.inl rfl)))))))
   (db_one (ds_raiseI0 (ex_BadPage T) rfl (hr.mono (by decide)) tk rfl))
   db_nil)
  (db_one (ds_ret (de_var (i := 3) rfl (.inl rfl)))))))))
def N_fit_text : List Str := ["number", "page", "size", "e"]
theorem sc_fit_text : FnScope N_fit_text ["number", "page", "size"] (defScope s_fit_text) := ⟨rfl, rfl, rfl, by decide +kernel, rfl, by decide +kernel, by decide +kernel⟩
def b_fit_text : DS :=
  (dSeq (dIf (dNot (dTest (dCallD 1 [.int 0] f_is_number (dCons (dVar 0) dNil))))
   (dRaiseI "BadPage" "number" (dC .non))
   dNext)
  (dTryAs (exX xtab "BadPage") 3
   (dRet (dCall 2 f_page_text (dCons (dVar 1) (dCons (dVar 2) dNil))))
   dNo))
def f_fit_text : FN := runB 4 b_fit_text
theorem ok_fit_text (T : Top K mg) : DefOk P w K mg base 8 "fit_text" 3 f_fit_text := by
  obtain ⟨fd, G⟩ := T.d_fit_text
  refine def_by T.g_fit_text G sc_fit_text rfl (fun _ _ _ _ _ _ us hl => match us, hl with | [_, _, _], _ => rfl) (fun cdv A outer s H E hr tk hp =>
  (db_cons (ds_if (dt_not (dt_val (de_callD (okD_is_number T) (hr.mono (by decide)) tk rfl (da_cons (de_var (i := 0) rfl (.inl rfl)) da_nil))))
   (db_one (ds_raiseI0 (ex_BadPage T) rfl (hr.mono (by decide)) tk rfl))
   db_nil)
  (db_one (ds_try_as (i := 3) rfl rfl rfl sc_fit_text.nd rfl rfl rfl T.g_BadPage rfl tk (T.x.ex (by decide +kernel)) (fun W pn xe tk2 hp2 =>
   (db_one (ds_ret (de_call (ok_page_text T) (hr.mono (by decide)) tk2 rfl (da_cons (de_var (i := 1) rfl (.inl rfl)) (da_cons (de_var (i := 2) rfl (.inl rfl)) da_nil))))))
   (fun a pn => (db_one ds_no))))))
def N__law_page : List Str := ["_law_tape_here", "_law_size_here", "_law_most", "_law_way", "_law_some", "_law_long", "_law_page_here", "_law_key", "_law_more", "_law_k"]
theorem sc__law_page : FnScope N__law_page ["_law_tape_here", "_law_size_here", "_law_most"] (defScope s__law_page) := ⟨rfl, rfl, rfl, by decide +kernel, rfl, by decide +kernel, by decide +kernel⟩
def c1__law_page : DE :=
  (dCall 2 f__law_draw (dCons (dVar 0) (dCons (dBin fAdd (dVar 2) (dC (.int 1))) dNil)))
def l2__law_page : DS :=
  (dSeq (dAsg (dCall 5 f__law_longer (dCons (dVar 0) (dCons (dVar 6) (dCons (dVar 7) (dCons (dVar 1) (dCons (dVar 2) dNil)))))) (gSlot 8))
   (dIf (dTest (dBin fLeX (dCB fLen (dCons (dCall 1 f_body_of (dCons (dVar 8) dNil)) dNil)) (dBin fSub (dVar 1) (dC (.int 5)))))
    (dAsg (dVar 8) (gSlot 6))
    dNext))
def b__law_page : DS :=
  (dSeq (dAsg (dCall 2 f__law_draw (dCons (dVar 0) (dCons (dC (.int 6)) dNil))) (gSlot 3))
  (dSeq (dIf (dTest (dBin fEq (dVar 3) (dC (.int 0))))
   (dSeq (dAsg (dComp (dItR1 (dC (.int 4))) (gSlot 9) dYes c1__law_page [9]) (gSlot 4))
   (dRet (dTup (dCons (dC (.str "head")) (dCons (dBin fIx (dVar 4) (dC (.int 0))) (dCons (dBin fIx (dVar 4) (dC (.int 1))) (dCons (dBin fIx (dVar 4) (dC (.int 2))) (dCons (dBin fIx (dVar 4) (dC (.int 3))) dNil))))))))
   dNext)
  (dSeq (dIf (dTest (dBin fEq (dVar 3) (dC (.int 1))))
   (dRet (dTup (dCons (dC (.str "free")) (dCons (dCall 2 f__law_draw (dCons (dVar 0) (dCons (dBin fAdd (dVar 2) (dC (.int 1))) dNil))) dNil))))
   dNext)
  (dSeq (dIf (dTest (dBin fEq (dVar 3) (dC (.int 2))))
   (dSeq (dAsg (dBin fIx (dLst (dCons (dBin fAdd (dC (.int 1)) (dCall 2 f__law_draw (dCons (dVar 0) (dCons (dBin fSub (dVar 1) (dC (.int 7))) dNil)))) (dCons (dBin fSub (dVar 1) (dC (.int 7))) (dCons (dC (.int 1)) dNil)))) (dCall 2 f__law_draw (dCons (dVar 0) (dCons (dC (.int 3)) dNil)))) (gSlot 5))
   (dRet (dTup (dCons (dC (.str "rest")) (dCons (dCall 2 f__law_text (dCons (dVar 0) (dCons (dVar 5) dNil))) (dCons (dCall 2 f__law_draw (dCons (dVar 0) (dCons (dBin fAdd (dVar 2) (dC (.int 1))) dNil))) dNil))))))
   dNext)
  (dSeq (dAsg (dTup (dCons (dC (.str "leaf")) (dCons (dTup dNil) dNil))) (gSlot 6))
  (dSeq (dIf (dTest (dBin fEq (dVar 3) (dC (.int 3))))
   (dAsg (dTup (dCons (dC (.str "fork")) (dCons (dTup dNil) (dCons (dTup (dCons (dBin fAdd (dC (.int 1)) (dCall 2 f__law_draw (dCons (dVar 0) (dCons (dVar 2) dNil)))) dNil)) dNil)))) (gSlot 6))
   dNext)
  (dSeq (dFor (dItL (dCall 2 f__law_keys (dCons (dVar 0) (dCons (dCall 2 f__law_draw (dCons (dVar 0) (dCons (dC (.int 10)) dNil))) dNil)))) (gSlot 7)
   l2__law_page)
  (dRet (dVar 6)))))))))
def f__law_page : FN := runB 10 b__law_page
theorem ok__law_page (T : Top K mg) : DefOk P w K mg base 8 "_law_page" 3 f__law_page := by
  obtain ⟨fd, G⟩ := T.d__law_page
  refine def_by T.g__law_page G sc__law_page rfl (fun _ _ _ _ _ _ us hl => match us, hl with | [_, _, _], _ => rfl) (fun cdv A outer s H E hr tk hp =>
  (db_cons (ds_set sc__law_page.nd (i := 3) rfl (.inl rfl) (de_call (ok__law_draw T) (hr.mono (by decide)) tk rfl (da_cons (de_var (i := 0) rfl (.inr (.inl rfl))) (da_cons de_int da_nil))))
  (db_cons (ds_if (dt_cmp (op_eqD hr.units) o_eq (de_var (i := 3) rfl (.inl rfl)) de_int)
   (db_cons (ds_setComp (own := [("_law_k", 9)]) rfl sc__law_page.nd (i := 4) rfl rfl rfl (di_range1 rfl T.g_range de_int) (show BlkOk N__law_page (defScope s__law_page) _ _ from blk_of (by decide +kernel)) (fun _ _ _ _ _ => (dc_name sc__law_page.nd rfl (.inl rfl) (by simp))) (fun _ _ _ _ _ => dp_nil) (fun _ _ _ _ _ => (de_call (ok__law_draw T) (hr.mono (by decide)) takes_f rfl (da_cons (de_var (i := 0) rfl (.inr (.inl rfl))) (da_cons (de_bin opr_add o_add (de_var (i := 2) rfl (.inr (.inl rfl))) de_int) da_nil)))))
   (db_one (ds_ret (de_tup (da_cons de_str (da_cons (de_ix (de_var (i := 4) rfl (.inl rfl)) de_int) (da_cons (de_ix (de_var (i := 4) rfl (.inl rfl)) de_int) (da_cons (de_ix (de_var (i := 4) rfl (.inl rfl)) de_int) (da_cons (de_ix (de_var (i := 4) rfl (.inl rfl)) de_int) da_nil)))))))))
   db_nil)
  (db_cons (ds_if (dt_cmp (op_eqD hr.units) o_eq (de_var (i := 3) rfl (.inl rfl)) de_int)
   (db_one (ds_ret (de_tup (da_cons de_str (da_cons (de_call (ok__law_draw T) (hr.mono (by decide)) tk rfl (da_cons (de_var (i := 0) rfl (.inr (.inl rfl))) (da_cons (de_bin opr_add o_add (de_var (i := 2) rfl (.inr (.inl rfl))) de_int) da_nil))) da_nil)))))
   db_nil)
  (db_cons (ds_if (dt_cmp (op_eqD hr.units) o_eq (de_var (i := 3) rfl (.inl rfl)) de_int)
   (db_cons (ds_set sc__law_page.nd (i := 5) rfl (.inl rfl) (de_ix (de_lst (da_cons (de_bin opr_add o_add de_int (de_call (ok__law_draw T) (hr.mono (by decide)) tk rfl (da_cons (de_var (i := 0) rfl (.inr (.inl rfl))) (da_cons (de_bin op_sub o_sub (de_var (i := 1) rfl (.inl rfl)) de_int) da_nil)))) (da_cons (de_bin op_sub o_sub (de_var (i := 1) rfl (.inl rfl)) de_int) (da_cons de_int da_nil)))) (de_call (ok__law_draw T) (hr.mono (by decide)) tk rfl (da_cons (de_var (i := 0) rfl (.inr (.inl rfl))) (da_cons de_int da_nil)))))
   (db_one (ds_ret (de_tup (da_cons de_str (da_cons (de_call (ok__law_text T) (hr.mono (by decide)) tk rfl (da_cons (de_var (i := 0) rfl (.inr (.inl rfl))) (da_cons (de_var (i := 5) rfl (.inl rfl)) da_nil))) (da_cons (de_call (ok__law_draw T) (hr.mono (by decide)) tk rfl (da_cons (de_var (i := 0) rfl (.inr (.inl rfl))) (da_cons (de_bin opr_add o_add (de_var (i := 2) rfl (.inr (.inl rfl))) de_int) da_nil))) da_nil)))))))
   db_nil)
  (db_cons (ds_set sc__law_page.nd (i := 6) rfl (.inl rfl) (de_tup (da_cons de_str (da_cons (de_tup da_nil) da_nil))))
  (db_cons (ds_if (dt_cmp (op_eqD hr.units) o_eq (de_var (i := 3) rfl (.inl rfl)) de_int)
   (db_one (ds_set sc__law_page.nd (i := 6) rfl (.inl rfl) (de_tup (da_cons de_str (da_cons (de_tup da_nil) (da_cons (de_tup (da_cons (de_bin opr_add o_add de_int (de_call (ok__law_draw T) (hr.mono (by decide)) tk rfl (da_cons (de_var (i := 0) rfl (.inr (.inl rfl))) (da_cons (de_var (i := 2) rfl (.inr (.inl rfl))) da_nil)))) da_nil)) da_nil))))))
   db_nil)
  (db_cons (ds_for hp rfl (di_list (de_call (ok__law_keys T) (hr.mono (by decide)) tk rfl (da_cons (de_var (i := 0) rfl (.inr (.inl rfl))) (da_cons (de_call (ok__law_draw T) (hr.mono (by decide)) tk rfl (da_cons (de_var (i := 0) rfl (.inr (.inl rfl))) (da_cons de_int da_nil))) da_nil)))) (dg_name sc__law_page.nd (i := 7) rfl (.inl rfl))
   (db_cons (ds_set sc__law_page.nd (i := 8) rfl (.inl rfl) (de_call (ok__law_longer T) (hr.mono (by decide)) tk rfl (da_cons (de_var (i := 0) rfl (.inr (.inl rfl))) (da_cons (de_var (i := 6) rfl (.inl rfl)) (da_cons (de_var (i := 7) rfl (.inl rfl)) (da_cons (de_var (i := 1) rfl (.inl rfl)) (da_cons (de_var (i := 2) rfl (.inr (.inl rfl))) da_nil)))))))
   (db_one (ds_if (dt_cmp opr_leX o_leX (de_callB c_len o_len rfl T.g_len (by decide +kernel) (da_cons (de_call (ok_body_of T) (hr.mono (by decide)) tk rfl (da_cons (de_var (i := 8) rfl (.inl rfl)) da_nil)) da_nil)) (de_bin op_sub o_sub (de_var (i := 1) rfl (.inl rfl)) de_int))
    (db_one (ds_set sc__law_page.nd (i := 6) rfl (.inl rfl) (de_var (i := 8) rfl (.inl rfl))))
    db_nil))))
  (db_one (ds_ret (de_var (i := 6) rfl (.inl rfl))))))))))))
def N__law_disks_right : List Str := ["_law_disks", "_law_world", "_law_begun", "_law_due_here", "_law_disk", "_law_page_here"]
theorem sc__law_disks_right : FnScope N__law_disks_right ["_law_disks", "_law_world", "_law_begun"] (defScope s__law_disks_right) := ⟨rfl, rfl, rfl, by decide +kernel, rfl, by decide +kernel, by decide +kernel⟩
def c1__law_disks_right : DE :=
  (dCall 2 f_page_text (dCons (dVar 5) (dCons (dBin fDGet (dVar 1) (dC (.str "size"))) dNil)))
def l2__law_disks_right : DS :=
  (dIf (dOr (dTest (dBin fNe (dMeth "pages" mt_pages (dVar 4) dNil) (dVar 3))) (dOr (dTest (dBin fNe (dMeth "rows" mt_rows (dVar 4) dNil) (dLst dNil))) (dTest (dBin fNe (dMeth "writes" mt_writes (dVar 4) dNil) (dVar 2)))))
    (dRet (dC (.bl false)))
    dNext)
def b__law_disks_right : DS :=
  (dSeq (dAsg (dComp (dItL (dBin fDGet (dVar 1) (dC (.str "old")))) (gSlot 5) dYes c1__law_disks_right [5]) (gSlot 3))
  (dSeq (dFor (dItL (dVar 0)) (gSlot 4)
   l2__law_disks_right)
  (dRet (dC (.bl true)))))
def f__law_disks_right : FN := runB 6 b__law_disks_right
theorem ok__law_disks_right (T : Top K mg) : DefOk P w K mg base 8 "_law_disks_right" 3 f__law_disks_right := by
  obtain ⟨fd, G⟩ := T.d__law_disks_right
  refine def_by T.g__law_disks_right G sc__law_disks_right rfl (fun _ _ _ _ _ _ us hl => match us, hl with | [_, _, _], _ => rfl) (fun cdv A outer s H E hr tk hp =>
  (db_cons (ds_setComp (own := [("_law_page_here", 5)]) rfl sc__law_disks_right.nd (i := 3) rfl rfl rfl (di_list (de_dget (room1 hr) (de_var (i := 1) rfl (.inr (.inl rfl))) de_str)) (show BlkOk N__law_disks_right (defScope s__law_disks_right) _ _ from blk_of (by decide +kernel)) (fun _ _ _ _ _ => (dc_name sc__law_disks_right.nd rfl (.inl rfl) (by simp))) (fun _ _ _ _ _ => dp_nil) (fun _ _ _ _ _ => (de_call (ok_page_text T) (hr.mono (by decide)) takes_f rfl (da_cons (de_var (i := 5) rfl (.inl rfl)) (da_cons (de_dget (room1 hr) (de_var (i := 1) rfl (.inr (.inl rfl))) de_str) da_nil)))))
  (db_cons (ds_for hp rfl (di_list (de_var (i := 0) rfl (.inl rfl))) (dg_name sc__law_disks_right.nd (i := 4) rfl (.inl rfl))
   (db_one (ds_if (dt_w (dw_or (dt_cmp (op_neD hr.units) o_ne (de_meth0 (tab := mt_pages) (de_var (i := 4) rfl (.inl rfl)) (mt_pages_ok T) (hr.mono (by decide)) tk) (de_var (i := 3) rfl (.inl rfl))) (dw_or (dt_cmp (op_neD hr.units) o_ne (de_meth0 (tab := mt_rows) (de_var (i := 4) rfl (.inl rfl)) (mt_rows_ok T) (hr.mono (by decide)) tk) (de_lst da_nil)) (dw_or1 (dt_cmp (op_neD hr.units) o_ne (de_meth0 (tab := mt_writes) (de_var (i := 4) rfl (.inl rfl)) (mt_writes_ok T) (hr.mono (by decide)) tk) (de_var (i := 2) rfl (.inl rfl)))))))
    (db_one (ds_ret de_bl))
    db_nil)))
  (db_one (ds_ret de_bl)))))
def N_Shelf_read_one : List Str := ["self", "number", "texts", "e"]
theorem sc_Shelf_read_one : FnScope N_Shelf_read_one ["self", "number"] (defScope s_Shelf_read_one) := ⟨rfl, rfl, rfl, by decide +kernel, rfl, by decide +kernel, by decide +kernel⟩
def b_Shelf_read_one : DS :=
  (dSeq (dAsg (dMeth "pages" mt_pages (dUn (fAttr (okF itab "disk") "disk") (dVar 0)) dNil) (gSlot 2))
  (dSeq (dIf (dNot (dTest (dCall 1 f_is_whole (dCons (dVar 1) dNil))))
   (dRaiseI "BadPage" "number" (dC .non))
   dNext)
  (dSeq (dIf (dNot (dTest (dChain fLeX fLtX (dC (.int 0)) (dVar 1) (dCB fLen (dCons (dVar 2) dNil)))))
   (dRaiseI "BadPage" "number" (dVar 1))
   dNext)
  (dTryAs (exX xtab "BadPage") 3
   (dRet (dCall 1 f_page_of (dCons (dBin fIx (dVar 2) (dVar 1)) dNil)))
   dNo))))
def f_Shelf_read_one : FN := runB 4 b_Shelf_read_one
theorem ok_Shelf_read_one (T : Top K mg) : MethOk P w K mg base 9 "Shelf" "read_one" 2 f_Shelf_read_one := by
  obtain ⟨fd, G⟩ := T.d_Shelf_read_one
  refine meth_by T.cl_Shelf T.m_Shelf_read_one G sc_Shelf_read_one rfl (fun _ _ _ _ _ _ us hl => match us, hl with | [_, _], _ => rfl) (fun cdv A outer s H E hr tk hp =>
  (db_cons (ds_set sc_Shelf_read_one.nd (i := 2) rfl (.inl rfl) (de_meth0 (tab := mt_pages) (de_attr (fun _ h => T.i.fld h) (de_var (i := 0) rfl (.inl rfl))) (mt_pages_ok T) (hr.mono (by decide)) tk))
  (db_cons (ds_if (dt_not (dt_val (de_call (ok_is_whole T) (hr.mono (by decide)) tk rfl (da_cons (de_var (i := 1) rfl (.inl rfl)) da_nil))))
   (db_one (ds_raiseI0 (ex_BadPage T) rfl (hr.mono (by decide)) tk rfl))
   db_nil)
  (db_cons (ds_if (dt_not (dt_chain opr_leX o_leX opr_ltX o_ltX de_int (de_var (i := 1) rfl (.inl rfl)) (de_callB c_len o_len rfl T.g_len (by decide +kernel) (da_cons (de_var (i := 2) rfl (.inl rfl)) da_nil))))
   (db_one (ds_raiseI (ex_BadPage T).one rfl (hr.mono (by decide)) tk rfl (de_var (i := 1) rfl (.inl rfl))))
   db_nil)
  (db_one (ds_try_as (i := 3) rfl rfl rfl sc_Shelf_read_one.nd rfl rfl rfl T.g_BadPage rfl tk (T.x.ex (by decide +kernel)) (fun W pn xe tk2 hp2 =>
   (db_one (ds_ret (de_call (ok_page_of T) (hr.mono (by decide)) tk2 rfl (da_cons (de_ix (de_var (i := 2) rfl (.inl rfl)) (de_var (i := 1) rfl (.inl rfl))) da_nil)))))
   (fun a pn => (db_one ds_no))))))))
def mt_read_one : MTab := tabOf [("Shelf", 2, f_Shelf_read_one)]
theorem mt_read_one_ok (T : Top K mg) : ∀ c n F, mt_read_one c = some (n, F) → MethOk P w K mg base 9 c "read_one" n F := by
  refine tab_all (R := fun c n F => MethOk P w K mg base 9 c "read_one" n F) fun p hp => ?_
  simp only [List.mem_cons, List.mem_nil_iff, or_false] at hp
  rcases hp with rfl
  · exact (ok_Shelf_read_one T).mono (by decide)
def N_Shelf_put : List Str := ["self", "number", "page"]
theorem sc_Shelf_put : FnScope N_Shelf_put ["self", "number", "page"] (defScope s_Shelf_put) := ⟨rfl, rfl, rfl, by decide +kernel, rfl, by decide +kernel, by decide +kernel⟩
def b_Shelf_put : DS :=
  (dSeq (dExpr (dCall 3 f_fit_text (dCons (dVar 1) (dCons (dVar 2) (dCons (dUn (fAttr (okF itab "size") "size") (dUn (fAttr (okF itab "disk") "disk") (dVar 0))) dNil)))))
  (dSeq (dExpr (dDPop2 (dUn (fAttr (okF itab "there") "there") (dVar 0)) (dVar 1) (dC .non)))
  (dSeq (dDPut (dUn (fAttr (okF itab "there") "there") (dVar 0)) (dVar 1) (dVar 2))
  (dSeq (dDPut (dUn (fAttr (okF itab "altered") "altered") (dVar 0)) (dVar 1) (dC (.bl true)))
  (dExpr (dMeth "thin" mt_thin (dVar 0) dNil))))))
def f_Shelf_put : FN := runB 3 b_Shelf_put
theorem ok_Shelf_put (T : Top K mg) : MethOk P w K mg base 9 "Shelf" "put" 3 f_Shelf_put := by
  obtain ⟨fd, G⟩ := T.d_Shelf_put
  refine meth_by T.cl_Shelf T.m_Shelf_put G sc_Shelf_put rfl (fun _ _ _ _ _ _ us hl => match us, hl with | [_, _, _], _ => rfl) (fun cdv A outer s H E hr tk hp =>
  (db_cons (ds_expr (de_call (ok_fit_text T) (hr.mono (by decide)) tk rfl (da_cons (de_var (i := 1) rfl (.inl rfl)) (da_cons (de_var (i := 2) rfl (.inl rfl)) (da_cons (de_attr (fun _ h => T.i.fld h) (de_attr (fun _ h => T.i.fld h) (de_var (i := 0) rfl (.inl rfl)))) da_nil)))))
  (db_cons (ds_expr (de_dpop2 (de_attr (fun _ h => T.i.fld h) (de_var (i := 0) rfl (.inl rfl))) (de_var (i := 1) rfl (.inl rfl)) de_non ⟨rfl, rfl, rfl, rfl⟩))
  (db_cons (ds_dput (room1 hr) (de_attr (fun _ h => T.i.fld h) (de_var (i := 0) rfl (.inl rfl))) (de_var (i := 1) rfl (.inl rfl)) (de_var (i := 2) rfl (.inl rfl)))
  (db_cons (ds_dput (room1 hr) (de_attr (fun _ h => T.i.fld h) (de_var (i := 0) rfl (.inl rfl))) (de_var (i := 1) rfl (.inl rfl)) de_bl)
  (db_one (ds_expr (de_meth0 (tab := mt_thin) (de_var (i := 0) rfl (.inl rfl)) (mt_thin_ok T) (hr.mono (by decide)) tk))))))))
def mt_put : MTab := tabOf [("Shelf", 3, f_Shelf_put)]
theorem mt_put_ok (T : Top K mg) : ∀ c n F, mt_put c = some (n, F) → MethOk P w K mg base 9 c "put" n F := by
  refine tab_all (R := fun c n F => MethOk P w K mg base 9 c "put" n F) fun p hp => ?_
  simp only [List.mem_cons, List.mem_nil_iff, or_false] at hp
  rcases hp with rfl
  · exact (ok_Shelf_put T).mono (by decide)
def N_Disk_write : List Str := ["self", "number", "text", "e"]
theorem sc_Disk_write : FnScope N_Disk_write ["self", "number", "text"] (defScope s_Disk_write) := ⟨rfl, rfl, rfl, by decide +kernel, rfl, by decide +kernel, by decide +kernel⟩
def b_Disk_write : DS :=
  (dSeq (dIf (dOr (dNot (dTest (dCall 1 f_is_whole (dCons (dVar 1) dNil)))) (dNot (dTest (dChain fLeX fLeX (dC (.int 0)) (dVar 1) (dCB fLen (dCons (dUn (fAttr (okF itab "texts") "texts") (dVar 0)) dNil))))))
   (dRaise "BadNumber")
   dNext)
  (dSeq (dIf (dOr (dNot (dTest (dCall 1 f_is_text (dCons (dVar 2) dNil)))) (dTest (dBin fNe (dCB fLen (dCons (dVar 2) dNil)) (dUn (fAttr (okF itab "size") "size") (dVar 0)))))
   (dRaiseI "BadPage" "number" (dVar 1))
   dNext)
  (dSeq (dTryAs (exX xtab "BadPage") 3
   (dExpr (dCall 1 f_page_of (dCons (dVar 2) dNil)))
   dNo)
  (dSeq (dExpr (dMeth "begin_one" mt_begin_one (dVar 0) dNil))
  (dSeq (dIf (dTest (dBin fEq (dVar 1) (dCB fLen (dCons (dUn (fAttr (okF itab "texts") "texts") (dVar 0)) dNil))))
   (dExpr (dAppend (dUn (fAttr (okF itab "texts") "texts") (dVar 0)) (dBin (fRep false) (dC (.str " ")) (dUn (fAttr (okF itab "size") "size") (dVar 0)))))
   dNext)
  (dSeq (dAsg (dMeth "part_of" mt_part_of (dVar 0) (dCons (dVar 2) (dCons (dBin fIx (dUn (fAttr (okF itab "texts") "texts") (dVar 0)) (dVar 1)) dNil))) (gSubL (dUn (fAttr (okF itab "texts") "texts") (dVar 0)) (dVar 1)))
  (dExpr (dMeth "end_one" mt_end_one (dVar 0) dNil))))))))
def f_Disk_write : FN := runB 4 b_Disk_write
theorem ok_Disk_write (T : Top K mg) : MethOk P w K mg base 9 "Disk" "write" 3 f_Disk_write := by
  obtain ⟨fd, G⟩ := T.d_Disk_write
  refine meth_by T.cl_Disk T.m_Disk_write G sc_Disk_write rfl (fun _ _ _ _ _ _ us hl => match us, hl with | [_, _, _], _ => rfl) (fun cdv A outer s H E hr tk hp =>
  (db_cons (ds_if (dt_w (dw_or (dt_not (dt_val (de_call (ok_is_whole T) (hr.mono (by decide)) tk rfl (da_cons (de_var (i := 1) rfl (.inl rfl)) da_nil)))) (dw_or1 (dt_not (dt_chain opr_leX o_leX opr_leX o_leX de_int (de_var (i := 1) rfl (.inl rfl)) (de_callB c_len o_len rfl T.g_len (by decide +kernel) (da_cons (de_attr (fun _ h => T.i.fld h) (de_var (i := 0) rfl (.inl rfl))) da_nil)))))))
   (db_one (ds_raise T.e_BadNumber rfl tk rfl))
   db_nil)
  (db_cons (ds_if (dt_w (dw_or (dt_not (dt_val (de_call (ok_is_text T) (hr.mono (by decide)) tk rfl (da_cons (de_var (i := 2) rfl (.inl rfl)) da_nil)))) (dw_or1 (dt_cmp (op_neD hr.units) o_ne (de_callB c_len o_len rfl T.g_len (by decide +kernel) (da_cons (de_var (i := 2) rfl (.inl rfl)) da_nil)) (de_attr (fun _ h => T.i.fld h) (de_var (i := 0) rfl (.inl rfl)))))))
   (db_one (ds_raiseI (ex_BadPage T).one rfl (hr.mono (by decide)) tk rfl (de_var (i := 1) rfl (.inl rfl))))
   db_nil)
  (db_cons (ds_try_as (i := 3) rfl rfl rfl sc_Disk_write.nd rfl rfl rfl T.g_BadPage rfl tk (T.x.ex (by decide +kernel)) (fun W pn xe tk2 hp2 =>
   (db_one (ds_expr (de_call (ok_page_of T) (hr.mono (by decide)) tk2 rfl (da_cons (de_var (i := 2) rfl (.inl rfl)) da_nil)))))
   (fun a pn => (db_one ds_no)))
  (db_cons (ds_expr (de_meth0 (tab := mt_begin_one) (de_var (i := 0) rfl (.inl rfl)) (mt_begin_one_ok T) (hr.mono (by decide)) tk))
  (db_cons (ds_if (dt_cmp (op_eqD hr.units) o_eq (de_var (i := 1) rfl (.inl rfl)) (de_callB c_len o_len rfl T.g_len (by decide +kernel) (da_cons (de_attr (fun _ h => T.i.fld h) (de_var (i := 0) rfl (.inl rfl))) da_nil)))
   (db_one (ds_expr (de_append (de_attr (fun _ h => T.i.fld h) (de_var (i := 0) rfl (.inl rfl))) (de_bin opr_rep o_rep de_str (de_attr (fun _ h => T.i.fld h) (de_var (i := 0) rfl (.inl rfl)))))))
   db_nil)
  (db_cons (ds_asg (de_meth (tab := mt_part_of) (de_var (i := 0) rfl (.inl rfl)) (mt_part_of_ok T) (hr.mono (by decide)) tk (da_cons (de_var (i := 2) rfl (.inl rfl)) (da_cons (de_ix (de_attr (fun _ h => T.i.fld h) (de_var (i := 0) rfl (.inl rfl))) (de_var (i := 1) rfl (.inl rfl))) da_nil))) (dg_subL (de_attr (fun _ h => T.i.fld h) (de_var (i := 0) rfl (.inl rfl))) (de_var (i := 1) rfl (.inl rfl))))
  (db_one (ds_expr (de_meth0 (tab := mt_end_one) (de_var (i := 0) rfl (.inl rfl)) (mt_end_one_ok T) (hr.mono (by decide)) tk))))))))))
def mt_write__Disk : MTab := tabOf [("Disk", 3, f_Disk_write)]
theorem mt_write__Disk_ok (T : Top K mg) : ∀ c n F, mt_write__Disk c = some (n, F) → MethOk P w K mg base 9 c "write" n F := by
  refine tab_all (R := fun c n F => MethOk P w K mg base 9 c "write" n F) fun p hp => ?_
  simp only [List.mem_cons, List.mem_nil_iff, or_false] at hp
  rcases hp with rfl
  · exact (ok_Disk_write T).mono (by decide)
def N_Shelf_page : List Str := ["self", "number", "found"]
theorem sc_Shelf_page : FnScope N_Shelf_page ["self", "number"] (defScope s_Shelf_page) := ⟨rfl, rfl, rfl, by decide +kernel, rfl, by decide +kernel, by decide +kernel⟩
def b_Shelf_page : DS :=
  (dSeq (dIf (dAnd (dTest (dCall 1 f_is_whole (dCons (dVar 1) dNil))) (dTest (dBin (fDIn false) (dVar 1) (dUn (fAttr (okF itab "there") "there") (dVar 0)))))
   (dAsg (dDPop (dUn (fAttr (okF itab "there") "there") (dVar 0)) (dVar 1)) (gSlot 2))
   (dSeq (dAsg (dMeth "read_one" mt_read_one (dVar 0) (dCons (dVar 1) dNil)) (gSlot 2))
   (dAttrPut (okF itab "came") "came" (dVar 0) (dBin fAdd (dUn (fAttr (okF itab "came") "came") (dVar 0)) (dC (.int 1))))))
  (dSeq (dDPut (dUn (fAttr (okF itab "there") "there") (dVar 0)) (dVar 1) (dVar 2))
  (dSeq (dExpr (dMeth "thin" mt_thin (dVar 0) dNil))
  (dRet (dVar 2)))))
def f_Shelf_page : FN := runB 3 b_Shelf_page
theorem ok_Shelf_page (T : Top K mg) : MethOk P w K mg base 10 "Shelf" "page" 2 f_Shelf_page := by
  obtain ⟨fd, G⟩ := T.d_Shelf_page
  refine meth_by T.cl_Shelf T.m_Shelf_page G sc_Shelf_page rfl (fun _ _ _ _ _ _ us hl => match us, hl with | [_, _], _ => rfl) (fun cdv A outer s H E hr tk hp =>
  (db_cons (ds_if (dt_w (dw_and (dt_val (de_call (ok_is_whole T) (hr.mono (by decide)) tk rfl (da_cons (de_var (i := 1) rfl (.inl rfl)) da_nil))) (dw_and1 (dt_cmp (op_din (room1 hr)) o_din (de_var (i := 1) rfl (.inl rfl)) (de_attr (fun _ h => T.i.fld h) (de_var (i := 0) rfl (.inl rfl)))))))
   (db_one (ds_set sc_Shelf_page.nd (i := 2) rfl (.inl rfl) (de_dpop (de_attr (fun _ h => T.i.fld h) (de_var (i := 0) rfl (.inl rfl))) (de_var (i := 1) rfl (.inl rfl)) ⟨rfl, rfl, rfl, rfl⟩)))
   (db_cons (ds_set sc_Shelf_page.nd (i := 2) rfl (.inl rfl) (de_meth (tab := mt_read_one) (de_var (i := 0) rfl (.inl rfl)) (mt_read_one_ok T) (hr.mono (by decide)) tk (da_cons (de_var (i := 1) rfl (.inl rfl)) da_nil)))
   (db_one (ds_attr (fun _ h => T.i.fld h) (de_var (i := 0) rfl (.inl rfl)) (de_bin opr_add o_add (de_attr (fun _ h => T.i.fld h) (de_var (i := 0) rfl (.inl rfl))) de_int)))))
  (db_cons (ds_dput (room1 hr) (de_attr (fun _ h => T.i.fld h) (de_var (i := 0) rfl (.inl rfl))) (de_var (i := 1) rfl (.inl rfl)) (de_var (i := 2) rfl (.inl rfl)))
  (db_cons (ds_expr (de_meth0 (tab := mt_thin) (de_var (i := 0) rfl (.inl rfl)) (mt_thin_ok T) (hr.mono (by decide)) tk))
  (db_one (ds_ret (de_var (i := 2) rfl (.inl rfl))))))))
def mt_page : MTab := tabOf [("Shelf", 2, f_Shelf_page)]
theorem mt_page_ok (T : Top K mg) : ∀ c n F, mt_page c = some (n, F) → MethOk P w K mg base 10 c "page" n F := by
  refine tab_all (R := fun c n F => MethOk P w K mg base 10 c "page" n F) fun p hp => ?_
  simp only [List.mem_cons, List.mem_nil_iff, or_false] at hp
  rcases hp with rfl
  · exact (ok_Shelf_page T).mono (by decide)
def N_Shelf_write : List Str := ["self", "number"]
theorem sc_Shelf_write : FnScope N_Shelf_write ["self", "number"] (defScope s_Shelf_write) := ⟨rfl, rfl, rfl, by decide +kernel, rfl, by decide +kernel, by decide +kernel⟩
def b_Shelf_write : DS :=
  (dIf (dTest (dBin (fDIn false) (dVar 1) (dUn (fAttr (okF itab "altered") "altered") (dVar 0))))
   (dSeq (dExpr (dMeth "write" mt_write__Disk (dUn (fAttr (okF itab "disk") "disk") (dVar 0)) (dCons (dVar 1) (dCons (dCall 3 f_fit_text (dCons (dVar 1) (dCons (dBin fDGet (dUn (fAttr (okF itab "there") "there") (dVar 0)) (dVar 1)) (dCons (dUn (fAttr (okF itab "size") "size") (dUn (fAttr (okF itab "disk") "disk") (dVar 0))) dNil)))) dNil))))
   (dSeq (dExpr (dDPop (dUn (fAttr (okF itab "altered") "altered") (dVar 0)) (dVar 1)))
   (dExpr (dMeth "thin" mt_thin (dVar 0) dNil))))
   dNext)
def f_Shelf_write : FN := runB 2 b_Shelf_write
theorem ok_Shelf_write (T : Top K mg) : MethOk P w K mg base 10 "Shelf" "write" 2 f_Shelf_write := by
  obtain ⟨fd, G⟩ := T.d_Shelf_write
  refine meth_by T.cl_Shelf T.m_Shelf_write G sc_Shelf_write rfl (fun _ _ _ _ _ _ us hl => match us, hl with | [_, _], _ => rfl) (fun cdv A outer s H E hr tk hp =>
  (db_one (ds_if (dt_cmp (op_din (room1 hr)) o_din (de_var (i := 1) rfl (.inl rfl)) (de_attr (fun _ h => T.i.fld h) (de_var (i := 0) rfl (.inl rfl))))
   (db_cons (ds_expr (de_meth (tab := mt_write__Disk) (de_attr (fun _ h => T.i.fld h) (de_var (i := 0) rfl (.inl rfl))) (mt_write__Disk_ok T) (hr.mono (by decide)) tk (da_cons (de_var (i := 1) rfl (.inl rfl)) (da_cons (de_call (ok_fit_text T) (hr.mono (by decide)) tk rfl (da_cons (de_var (i := 1) rfl (.inl rfl)) (da_cons (de_dget (room1 hr) (de_attr (fun _ h => T.i.fld h) (de_var (i := 0) rfl (.inl rfl))) (de_var (i := 1) rfl (.inl rfl))) (da_cons (de_attr (fun _ h => T.i.fld h) (de_attr (fun _ h => T.i.fld h) (de_var (i := 0) rfl (.inl rfl)))) da_nil)))) da_nil))))
   (db_cons (ds_expr (de_dpop (de_attr (fun _ h => T.i.fld h) (de_var (i := 0) rfl (.inl rfl))) (de_var (i := 1) rfl (.inl rfl)) ⟨rfl, rfl, rfl, rfl⟩))
   (db_one (ds_expr (de_meth0 (tab := mt_thin) (de_var (i := 0) rfl (.inl rfl)) (mt_thin_ok T) (hr.mono (by decide)) tk)))))
   db_nil)))
def mt_write__Shelf : MTab := tabOf [("Shelf", 2, f_Shelf_write)]
theorem mt_write__Shelf_ok (T : Top K mg) : ∀ c n F, mt_write__Shelf c = some (n, F) → MethOk P w K mg base 10 c "write" n F := by
  refine tab_all (R := fun c n F => MethOk P w K mg base 10 c "write" n F) fun p hp => ?_
  simp only [List.mem_cons, List.mem_nil_iff, or_false] at hp
  rcases hp with rfl
  · exact (ok_Shelf_write T).mono (by decide)
def N__law_all_told : List Str := ["_law_shelves", "_law_world", "_law_number", "_law_due_here", "_law_shelf"]
theorem sc__law_all_told : FnScope N__law_all_told ["_law_shelves", "_law_world"] (defScope s__law_all_told) := ⟨rfl, rfl, rfl, by decide +kernel, rfl, by decide +kernel, by decide +kernel⟩
def c1__law_all_told : DE :=
  (dMeth "page" mt_page (dVar 4) (dCons (dVar 2) dNil))
def l2__law_all_told : DS :=
  (dIf (dOr (dTest (dBin (fDIn false) (dVar 2) (dBin fDGet (dVar 1) (dC (.str "new"))))) (dTest (dBin fLtX (dVar 2) (dCB fLen (dCons (dBin fDGet (dVar 1) (dC (.str "old"))) dNil)))))
    (dSeq (dAsg (dCall 2 f__law_due (dCons (dVar 1) (dCons (dVar 2) dNil))) (gSlot 3))
    (dIf (dTest (dBin fNe (dComp (dItL (dVar 0)) (gSlot 4) dYes c1__law_all_told [4]) (dBin (fRep false) (dLstA (dCons (dVar 3) dNil)) (dCB fLen (dCons (dVar 0) dNil)))))
     (dRet (dC (.bl false)))
     dNext))
    dNext)
def b__law_all_told : DS :=
  (dSeq (dFor (dItR1 (dBin fDGet (dVar 1) (dC (.str "many")))) (gSlot 2)
   l2__law_all_told)
  (dRet (dC (.bl true))))
def f__law_all_told : FN := runB 5 b__law_all_told
theorem ok__law_all_told (T : Top K mg) : DefOk P w K mg base 11 "_law_all_told" 2 f__law_all_told := by
  obtain ⟨fd, G⟩ := T.d__law_all_told
  refine def_by T.g__law_all_told G sc__law_all_told rfl (fun _ _ _ _ _ _ us hl => match us, hl with | [_, _], _ => rfl) (fun cdv A outer s H E hr tk hp =>
  (db_cons (ds_for hp rfl (di_range1 rfl T.g_range (de_dget (room1 hr) (de_var (i := 1) rfl (.inl rfl)) de_str)) (dg_name sc__law_all_told.nd (i := 2) rfl (.inr rfl))
   (db_one (ds_if (dt_w (dw_or (dt_cmp (op_din (room1 hr)) o_din (de_var (i := 2) rfl (.inr (.inl rfl))) (de_dget (room1 hr) (de_var (i := 1) rfl (.inl rfl)) de_str)) (dw_or1 (dt_cmp opr_ltX o_ltX (de_var (i := 2) rfl (.inr (.inl rfl))) (de_callB c_len o_len rfl T.g_len (by decide +kernel) (da_cons (de_dget (room1 hr) (de_var (i := 1) rfl (.inl rfl)) de_str) da_nil))))))
    (db_cons (ds_set sc__law_all_told.nd (i := 3) rfl (.inl rfl) (de_call (ok__law_due T) (hr.mono (by decide)) tk rfl (da_cons (de_var (i := 1) rfl (.inl rfl)) (da_cons (de_var (i := 2) rfl (.inr (.inl rfl))) da_nil))))
    (db_one (ds_if (dt_cmp (op_neD hr.units) o_ne (de_comp (own := [("_law_shelf", 4)]) rfl sc__law_all_told.nd (di_list (de_var (i := 0) rfl (.inl rfl))) (show BlkOk N__law_all_told (defScope s__law_all_told) _ _ from blk_of (by decide +kernel)) (fun _ _ _ _ _ => (dc_name sc__law_all_told.nd rfl (.inl rfl) (by simp))) (fun _ _ _ _ _ => dp_nil) (fun _ _ _ _ _ => (de_meth (tab := mt_page) (de_var (i := 4) rfl (.inl rfl)) (mt_page_ok T) (hr.mono (by decide)) takes_f (da_cons (de_var (i := 2) rfl (.inr (.inl rfl))) da_nil)))) (de_bin opr_rep o_rep (de_lstA (da_cons (de_var (i := 3) rfl (.inl rfl)) da_nil)) (de_callB c_len o_len rfl T.g_len (by decide +kernel) (da_cons (de_var (i := 0) rfl (.inl rfl)) da_nil))))
     (db_one (ds_ret de_bl))
     db_nil)))
    db_nil)))
  (db_one (ds_ret de_bl))))
def N__law_write : List Str := ["_law_shelves", "_law_world", "_law_numbers", "_law_many", "_law_number", "_law_shelf", "_law_page_here"]
theorem sc__law_write : FnScope N__law_write ["_law_shelves", "_law_world", "_law_numbers"] (defScope s__law_write) := ⟨rfl, rfl, rfl, by decide +kernel, rfl, by decide +kernel, by decide +kernel⟩
def l1__law_write : DS :=
  (dExpr (dMeth "write" mt_write__Shelf (dVar 5) (dCons (dVar 4) dNil)))
def l2__law_write : DS :=
  (dSeq (dFor (dItL (dVar 0)) (gSlot 5)
    l1__law_write)
   (dIf (dTest (dBin (fDIn false) (dVar 4) (dBin fDGet (dVar 1) (dC (.str "new")))))
    (dSeq (dAsg (dDPop (dBin fDGet (dVar 1) (dC (.str "new"))) (dVar 4)) (gSlot 6))
    (dSeq (dDPut (dVar 1) (dC (.str "old")) (dBin (fCatL false) (dBin (fCatL false) (dSl (dBin fDGet (dVar 1) (dC (.str "old"))) dNoPart (dPart (dVar 4))) (dLst (dCons (dVar 6) dNil))) (dSl (dBin fDGet (dVar 1) (dC (.str "old"))) (dPart (dBin fAdd (dVar 4) (dC (.int 1)))) dNoPart)))
    (dAsg (dBin fAdd (dVar 3) (dC (.int 1))) (gSlot 3))))
    dNext))
def b__law_write : DS :=
  (dSeq (dAsg (dC (.int 0)) (gSlot 3))
  (dSeq (dFor (dItL (dVar 2)) (gSlot 4)
   l2__law_write)
  (dRet (dVar 3))))
def f__law_write : FN := runB 7 b__law_write
theorem ok__law_write (T : Top K mg) : DefOk P w K mg base 11 "_law_write" 3 f__law_write := by
  obtain ⟨fd, G⟩ := T.d__law_write
  refine def_by T.g__law_write G sc__law_write rfl (fun _ _ _ _ _ _ us hl => match us, hl with | [_, _, _], _ => rfl) (fun cdv A outer s H E hr tk hp =>
  (db_cons (ds_set sc__law_write.nd (i := 3) rfl (.inl rfl) de_int)
  (db_cons (ds_for hp rfl (di_list (de_var (i := 2) rfl (.inl rfl))) (dg_name sc__law_write.nd (i := 4) rfl (.inl rfl))
   (db_cons (ds_for hp rfl (di_list (de_var (i := 0) rfl (.inl rfl))) (dg_name sc__law_write.nd (i := 5) rfl (.inl rfl))
    (db_one (ds_expr (de_meth (tab := mt_write__Shelf) (de_var (i := 5) rfl (.inl rfl)) (mt_write__Shelf_ok T) (hr.mono (by decide)) tk (da_cons (de_var (i := 4) rfl (.inl rfl)) da_nil)))))
   (db_one (ds_if (dt_cmp (op_din (room1 hr)) o_din (de_var (i := 4) rfl (.inl rfl)) (de_dget (room1 hr) (de_var (i := 1) rfl (.inl rfl)) de_str))
    (db_cons (ds_set sc__law_write.nd (i := 6) rfl (.inl rfl) (de_dpop (de_dget (room1 hr) (de_var (i := 1) rfl (.inl rfl)) de_str) (de_var (i := 4) rfl (.inl rfl)) ⟨rfl, rfl, rfl, rfl⟩))
    (db_cons (ds_dput (room1 hr) (de_var (i := 1) rfl (.inl rfl)) de_str (de_bin op_catL o_catL (de_bin op_catL o_catL (de_sl (de_dget (room1 hr) (de_var (i := 1) rfl (.inl rfl)) de_str) do_none (do_some (de_var (i := 4) rfl (.inl rfl)))) (de_lst (da_cons (de_var (i := 6) rfl (.inl rfl)) da_nil))) (de_sl (de_dget (room1 hr) (de_var (i := 1) rfl (.inl rfl)) de_str) (do_some (de_bin opr_add o_add (de_var (i := 4) rfl (.inl rfl)) de_int)) do_none)))
    (db_one (ds_set sc__law_write.nd (i := 3) rfl (.inl rfl) (de_bin opr_add o_add (de_var (i := 3) rfl (.inl rfl)) de_int)))))
    db_nil))))
  (db_one (ds_ret (de_var (i := 3) rfl (.inl rfl)))))))
def N__law_asked_or_put : List Str := ["_law_tape_here", "_law_shelves", "_law_world", "_law_way", "_law_number", "_law_due_here", "_law_page_here", "_law_shelf"]
theorem sc__law_asked_or_put : FnScope N__law_asked_or_put ["_law_tape_here", "_law_shelves", "_law_world", "_law_way"] (defScope s__law_asked_or_put) := ⟨rfl, rfl, rfl, by decide +kernel, rfl, by decide +kernel, by decide +kernel⟩
def c1__law_asked_or_put : DE :=
  (dMeth "page" mt_page (dVar 7) (dCons (dVar 4) dNil))
def c2__law_asked_or_put : DE :=
  (dMeth "put" mt_put (dVar 7) (dCons (dVar 4) (dCons (dVar 6) dNil)))
def b__law_asked_or_put : DS :=
  (dSeq (dAsg (dCall 2 f__law_draw (dCons (dVar 0) (dCons (dBin fDGet (dVar 2) (dC (.str "many"))) dNil))) (gSlot 4))
  (dSeq (dIf (dTest (dBin fLtX (dVar 3) (dC (.int 3))))
   (dSeq (dAsg (dCall 2 f__law_due (dCons (dVar 2) (dCons (dVar 4) dNil))) (gSlot 5))
   (dRet (dBin fEq (dComp (dItL (dVar 1)) (gSlot 7) dYes c1__law_asked_or_put [7]) (dLst (dCons (dVar 5) (dCons (dVar 5) dNil))))))
   dNext)
  (dSeq (dAsg (dBin fIx (dLst (dCons (dVar 4) (dCons (dBin fDGet (dVar 2) (dC (.str "many"))) dNil))) (dBin fFdiv (dCall 2 f__law_draw (dCons (dVar 0) (dCons (dC (.int 5)) dNil))) (dC (.int 4)))) (gSlot 4))
  (dSeq (dAsg (dCall 3 f__law_page (dCons (dVar 0) (dCons (dBin fDGet (dVar 2) (dC (.str "size"))) (dCons (dC (.int 60)) dNil)))) (gSlot 6))
  (dSeq (dDPut (dBin fDGet (dVar 2) (dC (.str "new"))) (dVar 4) (dVar 6))
  (dSeq (dDPut (dVar 2) (dC (.str "many")) (dCB fMax2 (dCons (dBin fDGet (dVar 2) (dC (.str "many"))) (dCons (dBin fAdd (dVar 4) (dC (.int 1))) dNil))))
  (dRet (dBin fEq (dComp (dItL (dVar 1)) (gSlot 7) dYes c2__law_asked_or_put [7]) (dLst (dCons (dC .non) (dCons (dC .non) dNil)))))))))))
def f__law_asked_or_put : FN := runB 8 b__law_asked_or_put
theorem ok__law_asked_or_put (T : Top K mg) : DefOk P w K mg base 11 "_law_asked_or_put" 4 f__law_asked_or_put := by
  obtain ⟨fd, G⟩ := T.d__law_asked_or_put
  refine def_by T.g__law_asked_or_put G sc__law_asked_or_put rfl (fun _ _ _ _ _ _ us hl => match us, hl with | [_, _, _, _], _ => rfl) (fun cdv A outer s H E hr tk hp =>
  (db_cons (ds_set sc__law_asked_or_put.nd (i := 4) rfl (.inr rfl) (de_call (ok__law_draw T) (hr.mono (by decide)) tk rfl (da_cons (de_var (i := 0) rfl (.inl rfl)) (da_cons (de_dget (room1 hr) (de_var (i := 2) rfl (.inl rfl)) de_str) da_nil))))
  (db_cons (ds_if (dt_cmp opr_ltX o_ltX (de_var (i := 3) rfl (.inl rfl)) de_int)
   (db_cons (ds_set sc__law_asked_or_put.nd (i := 5) rfl (.inl rfl) (de_call (ok__law_due T) (hr.mono (by decide)) tk rfl (da_cons (de_var (i := 2) rfl (.inl rfl)) (da_cons (de_var (i := 4) rfl (.inr (.inl rfl))) da_nil))))
   (db_one (ds_ret (de_cmp (op_eqD hr.units) o_eq (de_comp (own := [("_law_shelf", 7)]) rfl sc__law_asked_or_put.nd (di_list (de_var (i := 1) rfl (.inl rfl))) (show BlkOk N__law_asked_or_put (defScope s__law_asked_or_put) _ _ from blk_of (by decide +kernel)) (fun _ _ _ _ _ => (dc_name sc__law_asked_or_put.nd rfl (.inl rfl) (by simp))) (fun _ _ _ _ _ => dp_nil) (fun _ _ _ _ _ => (de_meth (tab := mt_page) (de_var (i := 7) rfl (.inl rfl)) (mt_page_ok T) (hr.mono (by decide)) takes_f (da_cons (de_var (i := 4) rfl (.inr (.inl rfl))) da_nil)))) (de_lst (da_cons (de_var (i := 5) rfl (.inl rfl)) (da_cons (de_var (i := 5) rfl (.inl rfl)) da_nil)))))))
   db_nil)
  (db_cons (ds_set sc__law_asked_or_put.nd (i := 4) rfl (.inr rfl) (de_ix (de_lst (da_cons (de_var (i := 4) rfl (.inr (.inl rfl))) (da_cons (de_dget (room1 hr) (de_var (i := 2) rfl (.inl rfl)) de_str) da_nil))) (de_bin op_fdiv o_fdiv (de_call (ok__law_draw T) (hr.mono (by decide)) tk rfl (da_cons (de_var (i := 0) rfl (.inl rfl)) (da_cons de_int da_nil))) de_int)))
  (db_cons (ds_set sc__law_asked_or_put.nd (i := 6) rfl (.inr rfl) (de_call (ok__law_page T) (hr.mono (by decide)) tk rfl (da_cons (de_var (i := 0) rfl (.inl rfl)) (da_cons (de_dget (room1 hr) (de_var (i := 2) rfl (.inl rfl)) de_str) (da_cons de_int da_nil)))))
  (db_cons (ds_dput (room1 hr) (de_dget (room1 hr) (de_var (i := 2) rfl (.inl rfl)) de_str) (de_var (i := 4) rfl (.inr (.inl rfl))) (de_var (i := 6) rfl (.inr (.inl rfl))))
  (db_cons (ds_dput (room1 hr) (de_var (i := 2) rfl (.inl rfl)) de_str (de_callB (call_max2 rfl) o_max2 rfl T.g_max (by decide +kernel) (da_cons (de_dget (room1 hr) (de_var (i := 2) rfl (.inl rfl)) de_str) (da_cons (de_bin opr_add o_add (de_var (i := 4) rfl (.inr (.inl rfl))) de_int) da_nil))))
  (db_one (ds_ret (de_cmp (op_eqD hr.units) o_eq (de_comp (own := [("_law_shelf", 7)]) rfl sc__law_asked_or_put.nd (di_list (de_var (i := 1) rfl (.inl rfl))) (show BlkOk N__law_asked_or_put (defScope s__law_asked_or_put) _ _ from blk_of (by decide +kernel)) (fun _ _ _ _ _ => (dc_name sc__law_asked_or_put.nd rfl (.inl rfl) (by simp))) (fun _ _ _ _ _ => dp_nil) (fun _ _ _ _ _ => (de_meth (tab := mt_put) (de_var (i := 7) rfl (.inl rfl)) (mt_put_ok T) (hr.mono (by decide)) takes_f (da_cons (de_var (i := 4) rfl (.inr (.inl rfl))) (da_cons (de_var (i := 6) rfl (.inr (.inl rfl))) da_nil))))) (de_lst (da_cons de_non (da_cons de_non da_nil)))))))))))))
def N__law_written : List Str := ["_law_tape_here", "_law_disks", "_law_shelves", "_law_world", "_law_some", "_law_third", "_law_one"]
theorem sc__law_written : FnScope N__law_written ["_law_tape_here", "_law_disks", "_law_shelves", "_law_world"] (defScope s__law_written) := ⟨rfl, rfl, rfl, by decide +kernel, rfl, by decide +kernel, by decide +kernel⟩
def c1__law_written : DE :=
  (dVar 6)
def t2__law_written : DT :=
  (dTest (dBin fLeX (dVar 6) (dCB fLen (dCons (dBin fDGet (dVar 3) (dC (.str "old"))) dNil))))
def c3__law_written : DE :=
  (dMeth "page" mt_page (dVar 5) (dCons (dVar 6) dNil))
def b__law_written : DS :=
  (dSeq (dAsg (dCB (fSortI false) (dCons (dCB (fListD false) (dCons (dBin fDGet (dVar 3) (dC (.str "new"))) dNil)) dNil)) (gSlot 4))
  (dSeq (dIf (dTest (dBin fEq (dCall 2 f__law_draw (dCons (dVar 0) (dCons (dC (.int 2)) dNil))) (dC (.int 0))))
   (dAsg (dSl (dComp (dItL (dVar 4)) (gSlot 6) t2__law_written c1__law_written [6]) dNoPart (dPart (dC (.int 1)))) (gSlot 4))
   dNext)
  (dSeq (dDPut (dVar 3) (dC (.str "begun")) (dBin fAdd (dBin fDGet (dVar 3) (dC (.str "begun"))) (dCall 3 f__law_write (dCons (dVar 2) (dCons (dVar 3) (dCons (dVar 4) dNil))))))
  (dSeq (dAsg (dMake "Shelf" 3 f_Shelf___init__ (dCons (dBin fIx (dVar 1) (dCall 2 f__law_draw (dCons (dVar 0) (dCons (dC (.int 2)) dNil)))) (dCons (dBin fAdd (dC (.int 2)) (dCall 2 f__law_draw (dCons (dVar 0) (dCons (dC (.int 39)) dNil)))) dNil))) (gSlot 5))
  (dRet (dBin fEq (dComp (dItR1 (dCB fLen (dCons (dBin fDGet (dVar 3) (dC (.str "old"))) dNil))) (gSlot 6) dYes c3__law_written [6]) (dBin fDGet (dVar 3) (dC (.str "old")))))))))
def f__law_written : FN := runB 7 b__law_written
theorem ok__law_written (T : Top K mg) : DefOk P w K mg base 12 "_law_written" 4 f__law_written := by
  obtain ⟨fd, G⟩ := T.d__law_written
  refine def_by T.g__law_written G sc__law_written rfl (fun _ _ _ _ _ _ us hl => match us, hl with | [_, _, _, _], _ => rfl) (fun cdv A outer s H E hr tk hp =>
  (db_cons (ds_set sc__law_written.nd (i := 4) rfl (.inl rfl) (de_callB cr_sorted o_sortI rfl T.g_sorted (by decide +kernel) (da_cons (de_callTy (call_listD rfl) o_listD rfl T.g_list (by decide +kernel) (da_cons (de_dget (room1 hr) (de_var (i := 3) rfl (.inr (.inl rfl))) de_str) da_nil)) da_nil)))
  (db_cons (ds_if (dt_cmp (op_eqD hr.units) o_eq (de_call (ok__law_draw T) (hr.mono (by decide)) tk rfl (da_cons (de_var (i := 0) rfl (.inl rfl)) (da_cons de_int da_nil))) de_int)
   (db_one (ds_set sc__law_written.nd (i := 4) rfl (.inl rfl) (de_sl (de_comp (own := [("_law_one", 6)]) rfl sc__law_written.nd (di_list (de_var (i := 4) rfl (.inl rfl))) (show BlkOk N__law_written (defScope s__law_written) _ _ from blk_of (by decide +kernel)) (fun _ _ _ _ _ => (dc_name sc__law_written.nd rfl (.inl rfl) (by simp))) (fun _ _ _ _ _ => (dp_one (dt_cmp opr_leX o_leX (de_var (i := 6) rfl (.inl rfl)) (de_callB c_len o_len rfl T.g_len (by decide +kernel) (da_cons (de_dget (room1 hr) (de_var (i := 3) rfl (.inr (.inl rfl))) de_str) da_nil))))) (fun _ _ _ _ _ => (de_var (i := 6) rfl (.inl rfl)))) do_none (do_some de_int))))
   db_nil)
  (db_cons (ds_dput (room1 hr) (de_var (i := 3) rfl (.inr (.inl rfl))) de_str (de_bin opr_add o_add (de_dget (room1 hr) (de_var (i := 3) rfl (.inr (.inl rfl))) de_str) (de_call (ok__law_write T) (hr.mono (by decide)) tk rfl (da_cons (de_var (i := 2) rfl (.inl rfl)) (da_cons (de_var (i := 3) rfl (.inr (.inl rfl))) (da_cons (de_var (i := 4) rfl (.inl rfl)) da_nil))))))
  (db_cons (ds_set sc__law_written.nd (i := 5) rfl (.inr rfl) (de_make (mk_Shelf T) (hr.mono (by decide)) tk rfl (da_cons (de_ix (de_var (i := 1) rfl (.inl rfl)) (de_call (ok__law_draw T) (hr.mono (by decide)) tk rfl (da_cons (de_var (i := 0) rfl (.inl rfl)) (da_cons de_int da_nil)))) (da_cons (de_bin opr_add o_add de_int (de_call (ok__law_draw T) (hr.mono (by decide)) tk rfl (da_cons (de_var (i := 0) rfl (.inl rfl)) (da_cons de_int da_nil)))) da_nil))))
  (db_one (ds_ret (de_cmp (op_eqD hr.units) o_eq (de_comp (own := [("_law_one", 6)]) rfl sc__law_written.nd (di_range1 rfl T.g_range (de_callB c_len o_len rfl T.g_len (by decide +kernel) (da_cons (de_dget (room1 hr) (de_var (i := 3) rfl (.inr (.inl rfl))) de_str) da_nil))) (show BlkOk N__law_written (defScope s__law_written) _ _ from blk_of (by decide +kernel)) (fun _ _ _ _ _ => (dc_name sc__law_written.nd rfl (.inl rfl) (by simp))) (fun _ _ _ _ _ => dp_nil) (fun _ _ _ _ _ => (de_meth (tab := mt_page) (de_var (i := 5) rfl (.inr (.inl rfl))) (mt_page_ok T) (hr.mono (by decide)) takes_f (da_cons (de_var (i := 6) rfl (.inl rfl)) da_nil)))) (de_dget (room1 hr) (de_var (i := 3) rfl (.inr (.inl rfl))) de_str)))))))))
def N_law : List Str := ["_law_script", "_law_tape_here", "_law_size_here", "_law_disks", "_law_old", "_law_number", "_law_page_here", "_law_disk", "_law_world", "_law_shelves", "_law_turn", "_law_way", "_law_k"]
theorem sc_law : FnScope N_law ["_law_script"] (defScope s_law) := ⟨rfl, rfl, rfl, by decide +kernel, rfl, by decide +kernel, by decide +kernel⟩
def c1_law : DE :=
  (dCall 3 f__law_page (dCons (dVar 1) (dCons (dVar 2) (dCons (dC (.int 60)) dNil))))
def l2_law : DS :=
  (dExpr (dMeth "write" mt_write__Disk (dVar 7) (dCons (dVar 5) (dCons (dCall 2 f_page_text (dCons (dVar 6) (dCons (dVar 2) dNil))) dNil))))
def l3_law : DS :=
  (dFor (dItL (dVar 3)) (gSlot 7)
    l2_law)
def c4_law : DE :=
  (dMake "Shelf" 3 f_Shelf___init__ (dCons (dBin fIx (dVar 3) (dVar 12)) (dCons (dBin fIx (dBin fDGet (dVar 8) (dC (.str "most"))) (dVar 12)) dNil)))
def l5_law : DS :=
  (dSeq (dAsg (dCall 2 f__law_draw (dCons (dVar 1) (dCons (dC (.int 10)) dNil))) (gSlot 11))
   (dSeq (dIf (dAnd (dTest (dBin fLtX (dVar 11) (dC (.int 8)))) (dNot (dTest (dCall 4 f__law_asked_or_put (dCons (dVar 1) (dCons (dVar 9) (dCons (dVar 8) (dCons (dVar 11) dNil))))))))
    (dRet (dC (.bl false)))
    dNext)
   (dSeq (dIf (dAnd (dTest (dBin fEq (dVar 11) (dC (.int 8)))) (dNot (dTest (dCall 4 f__law_written (dCons (dVar 1) (dCons (dVar 3) (dCons (dVar 9) (dCons (dVar 8) dNil))))))))
    (dRet (dC (.bl false)))
    dNext)
   (dSeq (dIf (dAnd (dTest (dBin fEq (dVar 11) (dC (.int 9)))) (dAnd (dTest (dBin fEq (dCall 2 f__law_draw (dCons (dVar 1) (dCons (dC (.int 4)) dNil))) (dC (.int 0)))) (dNot (dTest (dCall 2 f__law_forgotten (dCons (dVar 9) (dCons (dVar 8) dNil)))))))
    (dRet (dC (.bl false)))
    dNext)
   (dIf (dOr (dNot (dTest (dCall 2 f__law_held_right (dCons (dVar 9) (dCons (dVar 8) dNil))))) (dNot (dTest (dCall 3 f__law_disks_right (dCons (dVar 3) (dCons (dVar 8) (dCons (dBin fDGet (dVar 8) (dC (.str "begun"))) dNil)))))))
    (dRet (dC (.bl false)))
    dNext)))))
def b_law : DS :=
  (dSeq (dAsg (dCall 1 f__law_tape (dCons (dVar 0) dNil)) (gSlot 1))
  (dSeq (dAsg (dCall 1 f__law_size (dCons (dVar 1) dNil)) (gSlot 2))
  (dSeq (dAsg (dLst (dCons (dMake "Disk" 2 f_Disk___init__ (dCons (dVar 2) dNil)) (dCons (dMake "Disk" 2 f_Disk___init__ (dCons (dVar 2) dNil)) dNil))) (gSlot 3))
  (dSeq (dAsg (dComp (dItR1 (dBin fAdd (dC (.int 2)) (dCall 2 f__law_draw (dCons (dVar 1) (dCons (dC (.int 11)) dNil))))) (gSlot 12) dYes c1_law [12]) (gSlot 4))
  (dSeq (dFor (dItEL (dVar 4)) (gTupD 2 (gsCons (gSlot 5) (gsCons (gSlot 6) gsNil)))
   l3_law)
  (dSeq (dAsg (dDisp [(.inr "size", (dVar 2)), (.inr "old", (dVar 4)), (.inr "new", dNewDic), (.inr "many", (dCB fLen (dCons (dVar 4) dNil))), (.inr "begun", (dCB fLen (dCons (dVar 4) dNil)))]) (gSlot 8))
  (dSeq (dDPut (dVar 8) (dC (.str "most")) (dLst (dCons (dC (.int 2)) (dCons (dBin fAdd (dC (.int 2)) (dCall 2 f__law_draw (dCons (dVar 1) (dCons (dC (.int 39)) dNil)))) dNil))))
  (dSeq (dAsg (dComp (dItR1 (dC (.int 2))) (gSlot 12) dYes c4_law [12]) (gSlot 9))
  (dSeq (dFor (dItR1 (dBin fAdd (dC (.int 4)) (dCall 2 f__law_draw (dCons (dVar 1) (dCons (dC (.int 27)) dNil))))) (gSlot 10)
   l5_law)
  (dRet (dAndV (dCall 2 f__law_all_told (dCons (dVar 9) (dCons (dVar 8) dNil))) (dCall 3 f__law_disks_right (dCons (dVar 3) (dCons (dVar 8) (dCons (dBin fDGet (dVar 8) (dC (.str "begun"))) dNil)))))))))))))))
def f_law : FN := runB 13 b_law
theorem fn_law (T : Top K mg) {fd : FuncData} (G : FunD K "law" "law" (defArgs s_law) (defBody s_law) (defScope s_law) [] [] (He.ga K "law") fd) : FnOk P w K mg base (L2.CX P w) 13 (He.ga K "law") fd ["_law_script"] (SpD K 1 f_law) := by
  refine fn_by (ps := ["_law_script"]) G sc_law (fun cdv A outer s H E hr tk hp =>
  (db_cons (ds_set sc_law.nd (i := 1) rfl (.inr rfl) (de_call (ok__law_tape T) (hr.mono (by decide)) tk rfl (da_cons (de_var (i := 0) rfl (.inl rfl)) da_nil)))
  (db_cons (ds_set sc_law.nd (i := 2) rfl (.inr rfl) (de_call (ok__law_size T) (hr.mono (by decide)) tk rfl (da_cons (de_var (i := 1) rfl (.inr (.inl rfl))) da_nil)))
  (db_cons (ds_set sc_law.nd (i := 3) rfl (.inr rfl) (de_lst (da_cons (de_make (mk_Disk T) (hr.mono (by decide)) tk rfl (da_cons (de_var (i := 2) rfl (.inr (.inl rfl))) da_nil)) (da_cons (de_make (mk_Disk T) (hr.mono (by decide)) tk rfl (da_cons (de_var (i := 2) rfl (.inr (.inl rfl))) da_nil)) da_nil))))
  (db_cons (ds_setComp (own := [("_law_k", 12)]) rfl sc_law.nd (i := 4) rfl rfl rfl (di_range1 rfl T.g_range (de_bin opr_add o_add de_int (de_call (ok__law_draw T) (hr.mono (by decide)) tk rfl (da_cons (de_var (i := 1) rfl (.inr (.inl rfl))) (da_cons de_int da_nil))))) (show BlkOk N_law (defScope s_law) _ _ from blk_of (by decide +kernel)) (fun _ _ _ _ _ => (dc_name sc_law.nd rfl (.inl rfl) (by simp))) (fun _ _ _ _ _ => dp_nil) (fun _ _ _ _ _ => (de_call (ok__law_page T) (hr.mono (by decide)) takes_f rfl (da_cons (de_var (i := 1) rfl (.inr (.inl rfl))) (da_cons (de_var (i := 2) rfl (.inr (.inl rfl))) (da_cons de_int da_nil))))))
  (db_cons (ds_for hp rfl (di_enumL rfl T.g_enumerate (de_var (i := 4) rfl (.inl rfl))) (dg_tup rfl (dgs_cons (dg_name sc_law.nd (i := 5) rfl (.inl rfl)) (dgs_cons (dg_name sc_law.nd (i := 6) rfl (.inl rfl)) dgs_nil)))
   (db_one (ds_for hp rfl (di_list (de_var (i := 3) rfl (.inr (.inl rfl)))) (dg_name sc_law.nd (i := 7) rfl (.inl rfl))
    (db_one (ds_expr (de_meth (tab := mt_write__Disk) (de_var (i := 7) rfl (.inl rfl)) (mt_write__Disk_ok T) (hr.mono (by decide)) tk (da_cons (de_var (i := 5) rfl (.inl rfl)) (da_cons (de_call (ok_page_text T) (hr.mono (by decide)) tk rfl (da_cons (de_var (i := 6) rfl (.inl rfl)) (da_cons (de_var (i := 2) rfl (.inr (.inl rfl))) da_nil))) da_nil))))))))
  (db_cons (ds_set sc_law.nd (i := 8) rfl (.inr rfl) (de_disp (dpp_str (de_var (i := 2) rfl (.inr (.inl rfl))) (dpp_str (de_var (i := 4) rfl (.inl rfl)) (dpp_str de_dnewA (dpp_str (de_callB c_len o_len rfl T.g_len (by decide +kernel) (da_cons (de_var (i := 4) rfl (.inl rfl)) da_nil)) (dpp_str (de_callB c_len o_len rfl T.g_len (by decide +kernel) (da_cons (de_var (i := 4) rfl (.inl rfl)) da_nil)) dpp_nil))))) rfl rfl (by simp) (by decide)))
  (db_cons (ds_dput (room1 hr) (de_var (i := 8) rfl (.inr (.inl rfl))) de_str (de_lst (da_cons de_int (da_cons (de_bin opr_add o_add de_int (de_call (ok__law_draw T) (hr.mono (by decide)) tk rfl (da_cons (de_var (i := 1) rfl (.inr (.inl rfl))) (da_cons de_int da_nil)))) da_nil))))
  (db_cons (ds_setComp (own := [("_law_k", 12)]) rfl sc_law.nd (i := 9) rfl rfl rfl (di_range1 rfl T.g_range de_int) (show BlkOk N_law (defScope s_law) _ _ from blk_of (by decide +kernel)) (fun _ _ _ _ _ => (dc_name sc_law.nd rfl (.inl rfl) (by simp))) (fun _ _ _ _ _ => dp_nil) (fun _ _ _ _ _ => (de_make (mk_Shelf T) (hr.mono (by decide)) takes_f rfl (da_cons (de_ix (de_var (i := 3) rfl (.inr (.inl rfl))) (de_var (i := 12) rfl (.inl rfl))) (da_cons (de_ix (de_dget (room1 hr) (de_var (i := 8) rfl (.inr (.inl rfl))) de_str) (de_var (i := 12) rfl (.inl rfl))) da_nil)))))
  (db_cons (ds_for hp rfl (di_range1 rfl T.g_range (de_bin opr_add o_add de_int (de_call (ok__law_draw T) (hr.mono (by decide)) tk rfl (da_cons (de_var (i := 1) rfl (.inr (.inl rfl))) (da_cons de_int da_nil))))) (dg_name sc_law.nd (i := 10) rfl (.inl rfl))
   (db_cons (ds_set sc_law.nd (i := 11) rfl (.inl rfl) (de_call (ok__law_draw T) (hr.mono (by decide)) tk rfl (da_cons (de_var (i := 1) rfl (.inr (.inl rfl))) (da_cons de_int da_nil))))
   (db_cons (ds_if (dt_w (dw_and (dt_cmp opr_ltX o_ltX (de_var (i := 11) rfl (.inl rfl)) de_int) (dw_and1 (dt_not (dt_val (de_call (ok__law_asked_or_put T) (hr.mono (by decide)) tk rfl (da_cons (de_var (i := 1) rfl (.inr (.inl rfl))) (da_cons (de_var (i := 9) rfl (.inl rfl)) (da_cons (de_var (i := 8) rfl (.inr (.inl rfl))) (da_cons (de_var (i := 11) rfl (.inl rfl)) da_nil))))))))))
    (db_one (ds_ret de_bl))
    db_nil)
   (db_cons (ds_if (dt_w (dw_and (dt_cmp (op_eqD hr.units) o_eq (de_var (i := 11) rfl (.inl rfl)) de_int) (dw_and1 (dt_not (dt_val (de_call (ok__law_written T) (hr.mono (by decide)) tk rfl (da_cons (de_var (i := 1) rfl (.inr (.inl rfl))) (da_cons (de_var (i := 3) rfl (.inr (.inl rfl))) (da_cons (de_var (i := 9) rfl (.inl rfl)) (da_cons (de_var (i := 8) rfl (.inr (.inl rfl))) da_nil))))))))))
    (db_one (ds_ret de_bl))
    db_nil)
   (db_cons (ds_if (dt_w (dw_and (dt_cmp (op_eqD hr.units) o_eq (de_var (i := 11) rfl (.inl rfl)) de_int) (dw_and (dt_cmp (op_eqD hr.units) o_eq (de_call (ok__law_draw T) (hr.mono (by decide)) tk rfl (da_cons (de_var (i := 1) rfl (.inr (.inl rfl))) (da_cons de_int da_nil))) de_int) (dw_and1 (dt_not (dt_val (de_call (ok__law_forgotten T) (hr.mono (by decide)) tk rfl (da_cons (de_var (i := 9) rfl (.inl rfl)) (da_cons (de_var (i := 8) rfl (.inr (.inl rfl))) da_nil)))))))))
    (db_one (ds_ret de_bl))
    db_nil)
   (db_one (ds_if (dt_w (dw_or (dt_not (dt_val (de_call (ok__law_held_right T) (hr.mono (by decide)) tk rfl (da_cons (de_var (i := 9) rfl (.inl rfl)) (da_cons (de_var (i := 8) rfl (.inr (.inl rfl))) da_nil))))) (dw_or1 (dt_not (dt_val (de_call (ok__law_disks_right T) (hr.mono (by decide)) tk rfl (da_cons (de_var (i := 3) rfl (.inr (.inl rfl))) (da_cons (de_var (i := 8) rfl (.inr (.inl rfl))) (da_cons (de_dget (room1 hr) (de_var (i := 8) rfl (.inr (.inl rfl))) de_str) da_nil)))))))))
    (db_one (ds_ret de_bl))
    db_nil)))))))
  (db_one (ds_ret (de_and (de_call (ok__law_all_told T) (hr.mono (by decide)) tk rfl (da_cons (de_var (i := 9) rfl (.inl rfl)) (da_cons (de_var (i := 8) rfl (.inr (.inl rfl))) da_nil))) (de_one (de_call (ok__law_disks_right T) (hr.mono (by decide)) tk rfl (da_cons (de_var (i := 3) rfl (.inr (.inl rfl))) (da_cons (de_var (i := 8) rfl (.inr (.inl rfl))) (da_cons (de_dget (room1 hr) (de_var (i := 8) rfl (.inr (.inl rfl))) de_str) da_nil)))))))))))))))))) (fun _ _ _ _ => rfl)
end
def dd_BadPage___init__ : He.DefD := ⟨("BadPage", some "__init__"), "__init__", "BadPage.__init__", defArgs s_BadPage___init__, defBody s_BadPage___init__, defScope s_BadPage___init__, [.non], []⟩
def dd_is_whole : He.DefD := ⟨("is_whole", none), "is_whole", "is_whole", defArgs s_is_whole, defBody s_is_whole, defScope s_is_whole, [], []⟩
def dd_is_text : He.DefD := ⟨("is_text", none), "is_text", "is_text", defArgs s_is_text, defBody s_is_text, defScope s_is_text, [], []⟩
def dd_number_of : He.DefD := ⟨("number_of", none), "number_of", "number_of", defArgs s_number_of, defBody s_number_of, defScope s_number_of, [], []⟩
def dd_Head___init__ : He.DefD := ⟨("Head", some "__init__"), "__init__", "Head.__init__", defArgs s_Head___init__, defBody s_Head___init__, defScope s_Head___init__, [], []⟩
def dd_Head_letter : He.DefD := ⟨("Head", some "letter"), "letter", "Head.letter", defArgs s_Head_letter, defBody s_Head_letter, defScope s_Head_letter, [], []⟩
def dd_Leaf___init__ : He.DefD := ⟨("Leaf", some "__init__"), "__init__", "Leaf.__init__", defArgs s_Leaf___init__, defBody s_Leaf___init__, defScope s_Leaf___init__, [], []⟩
def dd_Leaf_letter : He.DefD := ⟨("Leaf", some "letter"), "letter", "Leaf.letter", defArgs s_Leaf_letter, defBody s_Leaf_letter, defScope s_Leaf_letter, [], []⟩
def dd_Fork___init__ : He.DefD := ⟨("Fork", some "__init__"), "__init__", "Fork.__init__", defArgs s_Fork___init__, defBody s_Fork___init__, defScope s_Fork___init__, [], []⟩
def dd_Fork_letter : He.DefD := ⟨("Fork", some "letter"), "letter", "Fork.letter", defArgs s_Fork_letter, defBody s_Fork_letter, defScope s_Fork_letter, [], []⟩
def dd_Rest___init__ : He.DefD := ⟨("Rest", some "__init__"), "__init__", "Rest.__init__", defArgs s_Rest___init__, defBody s_Rest___init__, defScope s_Rest___init__, [], []⟩
def dd_Rest_letter : He.DefD := ⟨("Rest", some "letter"), "letter", "Rest.letter", defArgs s_Rest_letter, defBody s_Rest_letter, defScope s_Rest_letter, [], []⟩
def dd_Free___init__ : He.DefD := ⟨("Free", some "__init__"), "__init__", "Free.__init__", defArgs s_Free___init__, defBody s_Free___init__, defScope s_Free___init__, [], []⟩
def dd_Free_letter : He.DefD := ⟨("Free", some "letter"), "letter", "Free.letter", defArgs s_Free_letter, defBody s_Free_letter, defScope s_Free_letter, [], []⟩
def dd_has_word : He.DefD := ⟨("has_word", none), "has_word", "has_word", defArgs s_has_word, defBody s_has_word, defScope s_has_word, [], []⟩
def dd_Parts___init__ : He.DefD := ⟨("Parts", some "__init__"), "__init__", "Parts.__init__", defArgs s_Parts___init__, defBody s_Parts___init__, defScope s_Parts___init__, [], []⟩
def dd_Shelf_thin : He.DefD := ⟨("Shelf", some "thin"), "thin", "Shelf.thin", defArgs s_Shelf_thin, defBody s_Shelf_thin, defScope s_Shelf_thin, [], []⟩
def dd_Shelf_changed : He.DefD := ⟨("Shelf", some "changed"), "changed", "Shelf.changed", defArgs s_Shelf_changed, defBody s_Shelf_changed, defScope s_Shelf_changed, [], []⟩
def dd_Shelf_held : He.DefD := ⟨("Shelf", some "held"), "held", "Shelf.held", defArgs s_Shelf_held, defBody s_Shelf_held, defScope s_Shelf_held, [], []⟩
def dd_Shelf_forget : He.DefD := ⟨("Shelf", some "forget"), "forget", "Shelf.forget", defArgs s_Shelf_forget, defBody s_Shelf_forget, defScope s_Shelf_forget, [], []⟩
def dd_Disk_pages : He.DefD := ⟨("Disk", some "pages"), "pages", "Disk.pages", defArgs s_Disk_pages, defBody s_Disk_pages, defScope s_Disk_pages, [], []⟩
def dd_Disk_rows : He.DefD := ⟨("Disk", some "rows"), "rows", "Disk.rows", defArgs s_Disk_rows, defBody s_Disk_rows, defScope s_Disk_rows, [], []⟩
def dd_Disk_writes : He.DefD := ⟨("Disk", some "writes"), "writes", "Disk.writes", defArgs s_Disk_writes, defBody s_Disk_writes, defScope s_Disk_writes, [], []⟩
def dd_Disk_begin_one : He.DefD := ⟨("Disk", some "begin_one"), "begin_one", "Disk.begin_one", defArgs s_Disk_begin_one, defBody s_Disk_begin_one, defScope s_Disk_begin_one, [], []⟩
def dd_Disk_end_one : He.DefD := ⟨("Disk", some "end_one"), "end_one", "Disk.end_one", defArgs s_Disk_end_one, defBody s_Disk_end_one, defScope s_Disk_end_one, [], []⟩
def dd_Disk_part_of : He.DefD := ⟨("Disk", some "part_of"), "part_of", "Disk.part_of", defArgs s_Disk_part_of, defBody s_Disk_part_of, defScope s_Disk_part_of, [], []⟩
def dd__law_draw : He.DefD := ⟨("_law_draw", none), "_law_draw", "_law_draw", defArgs s__law_draw, defBody s__law_draw, defScope s__law_draw, [], []⟩
def dd__law_tape : He.DefD := ⟨("_law_tape", none), "_law_tape", "_law_tape", defArgs s__law_tape, defBody s__law_tape, defScope s__law_tape, [], []⟩
def dd__law_signs : He.DefD := ⟨("_law_signs", none), "_law_signs", "_law_signs", defArgs s__law_signs, defBody s__law_signs, defScope s__law_signs, [], []⟩
def dd__law_due : He.DefD := ⟨("_law_due", none), "_law_due", "_law_due", defArgs s__law_due, defBody s__law_due, defScope s__law_due, [], []⟩
def dd_digits : He.DefD := ⟨("digits", none), "digits", "digits", defArgs s_digits, defBody s_digits, defScope s_digits, [], []⟩
def dd_is_number : He.DefD := ⟨("is_number", none), "is_number", "is_number", defArgs s_is_number, defBody s_is_number, defScope s_is_number, [.int 0], []⟩
def dd_is_key : He.DefD := ⟨("is_key", none), "is_key", "is_key", defArgs s_is_key, defBody s_is_key, defScope s_is_key, [], []⟩
def dd_is_value : He.DefD := ⟨("is_value", none), "is_value", "is_value", defArgs s_is_value, defBody s_is_value, defScope s_is_value, [], []⟩
def dd_is_size : He.DefD := ⟨("is_size", none), "is_size", "is_size", defArgs s_is_size, defBody s_is_size, defScope s_is_size, [], []⟩
def dd_Shelf___init__ : He.DefD := ⟨("Shelf", some "__init__"), "__init__", "Shelf.__init__", defArgs s_Shelf___init__, defBody s_Shelf___init__, defScope s_Shelf___init__, [], []⟩
def dd__law_text : He.DefD := ⟨("_law_text", none), "_law_text", "_law_text", defArgs s__law_text, defBody s__law_text, defScope s__law_text, [], []⟩
def dd__law_size : He.DefD := ⟨("_law_size", none), "_law_size", "_law_size", defArgs s__law_size, defBody s__law_size, defScope s__law_size, [], []⟩
def dd__law_held_right : He.DefD := ⟨("_law_held_right", none), "_law_held_right", "_law_held_right", defArgs s__law_held_right, defBody s__law_held_right, defScope s__law_held_right, [], []⟩
def dd__law_forgotten : He.DefD := ⟨("_law_forgotten", none), "_law_forgotten", "_law_forgotten", defArgs s__law_forgotten, defBody s__law_forgotten, defScope s__law_forgotten, [], []⟩
def dd_check_of : He.DefD := ⟨("check_of", none), "check_of", "check_of", defArgs s_check_of, defBody s_check_of, defScope s_check_of, [], []⟩
def dd_are_keys : He.DefD := ⟨("are_keys", none), "are_keys", "are_keys", defArgs s_are_keys, defBody s_are_keys, defScope s_are_keys, [], []⟩
def dd_is_cell : He.DefD := ⟨("is_cell", none), "is_cell", "is_cell", defArgs s_is_cell, defBody s_is_cell, defScope s_is_cell, [], []⟩
def dd_cell_body : He.DefD := ⟨("cell_body", none), "cell_body", "cell_body", defArgs s_cell_body, defBody s_cell_body, defScope s_cell_body, [], []⟩
def dd_key_body : He.DefD := ⟨("key_body", none), "key_body", "key_body", defArgs s_key_body, defBody s_key_body, defScope s_key_body, [], []⟩
def dd_Head_body : He.DefD := ⟨("Head", some "body"), "body", "Head.body", defArgs s_Head_body, defBody s_Head_body, defScope s_Head_body, [], []⟩
def dd_Rest_body : He.DefD := ⟨("Rest", some "body"), "body", "Rest.body", defArgs s_Rest_body, defBody s_Rest_body, defScope s_Rest_body, [], []⟩
def dd_Free_body : He.DefD := ⟨("Free", some "body"), "body", "Free.body", defArgs s_Free_body, defBody s_Free_body, defScope s_Free_body, [], []⟩
def dd_need_size : He.DefD := ⟨("need_size", none), "need_size", "need_size", defArgs s_need_size, defBody s_need_size, defScope s_need_size, [], []⟩
def dd_Parts_signs : He.DefD := ⟨("Parts", some "signs"), "signs", "Parts.signs", defArgs s_Parts_signs, defBody s_Parts_signs, defScope s_Parts_signs, [], []⟩
def dd_Disk___init__ : He.DefD := ⟨("Disk", some "__init__"), "__init__", "Disk.__init__", defArgs s_Disk___init__, defBody s_Disk___init__, defScope s_Disk___init__, [], []⟩
def dd__law_keys : He.DefD := ⟨("_law_keys", none), "_law_keys", "_law_keys", defArgs s__law_keys, defBody s__law_keys, defScope s__law_keys, [], []⟩
def dd__law_longer : He.DefD := ⟨("_law_longer", none), "_law_longer", "_law_longer", defArgs s__law_longer, defBody s__law_longer, defScope s__law_longer, [], []⟩
def dd_is_row : He.DefD := ⟨("is_row", none), "is_row", "is_row", defArgs s_is_row, defBody s_is_row, defScope s_is_row, [], []⟩
def dd_Leaf_body : He.DefD := ⟨("Leaf", some "body"), "body", "Leaf.body", defArgs s_Leaf_body, defBody s_Leaf_body, defScope s_Leaf_body, [], []⟩
def dd_Fork_body : He.DefD := ⟨("Fork", some "body"), "body", "Fork.body", defArgs s_Fork_body, defBody s_Fork_body, defScope s_Fork_body, [], []⟩
def dd_Parts_figure : He.DefD := ⟨("Parts", some "figure"), "figure", "Parts.figure", defArgs s_Parts_figure, defBody s_Parts_figure, defScope s_Parts_figure, [], []⟩
def dd_Parts_others : He.DefD := ⟨("Parts", some "others"), "others", "Parts.others", defArgs s_Parts_others, defBody s_Parts_others, defScope s_Parts_others, [], []⟩
def dd_made : He.DefD := ⟨("made", none), "made", "made", defArgs s_made, defBody s_made, defScope s_made, [], []⟩
def dd_cell_in : He.DefD := ⟨("cell_in", none), "cell_in", "cell_in", defArgs s_cell_in, defBody s_cell_in, defScope s_cell_in, [], []⟩
def dd_key_in : He.DefD := ⟨("key_in", none), "key_in", "key_in", defArgs s_key_in, defBody s_key_in, defScope s_key_in, [], []⟩
def dd_is_page : He.DefD := ⟨("is_page", none), "is_page", "is_page", defArgs s_is_page, defBody s_is_page, defScope s_is_page, [], []⟩
def dd_need_page : He.DefD := ⟨("need_page", none), "need_page", "need_page", defArgs s_need_page, defBody s_need_page, defScope s_need_page, [], []⟩
def dd_shape_in : He.DefD := ⟨("shape_in", none), "shape_in", "shape_in", defArgs s_shape_in, defBody s_shape_in, defScope s_shape_in, [], []⟩
def dd_body_of : He.DefD := ⟨("body_of", none), "body_of", "body_of", defArgs s_body_of, defBody s_body_of, defScope s_body_of, [], []⟩
def dd_page_text : He.DefD := ⟨("page_text", none), "page_text", "page_text", defArgs s_page_text, defBody s_page_text, defScope s_page_text, [], []⟩
def dd_page_of : He.DefD := ⟨("page_of", none), "page_of", "page_of", defArgs s_page_of, defBody s_page_of, defScope s_page_of, [], []⟩
def dd_fit_text : He.DefD := ⟨("fit_text", none), "fit_text", "fit_text", defArgs s_fit_text, defBody s_fit_text, defScope s_fit_text, [], []⟩
def dd__law_page : He.DefD := ⟨("_law_page", none), "_law_page", "_law_page", defArgs s__law_page, defBody s__law_page, defScope s__law_page, [], []⟩
def dd__law_disks_right : He.DefD := ⟨("_law_disks_right", none), "_law_disks_right", "_law_disks_right", defArgs s__law_disks_right, defBody s__law_disks_right, defScope s__law_disks_right, [], []⟩
def dd_Shelf_read_one : He.DefD := ⟨("Shelf", some "read_one"), "read_one", "Shelf.read_one", defArgs s_Shelf_read_one, defBody s_Shelf_read_one, defScope s_Shelf_read_one, [], []⟩
def dd_Shelf_put : He.DefD := ⟨("Shelf", some "put"), "put", "Shelf.put", defArgs s_Shelf_put, defBody s_Shelf_put, defScope s_Shelf_put, [], []⟩
def dd_Disk_write : He.DefD := ⟨("Disk", some "write"), "write", "Disk.write", defArgs s_Disk_write, defBody s_Disk_write, defScope s_Disk_write, [], []⟩
def dd_Shelf_page : He.DefD := ⟨("Shelf", some "page"), "page", "Shelf.page", defArgs s_Shelf_page, defBody s_Shelf_page, defScope s_Shelf_page, [], []⟩
def dd_Shelf_write : He.DefD := ⟨("Shelf", some "write"), "write", "Shelf.write", defArgs s_Shelf_write, defBody s_Shelf_write, defScope s_Shelf_write, [], []⟩
def dd__law_all_told : He.DefD := ⟨("_law_all_told", none), "_law_all_told", "_law_all_told", defArgs s__law_all_told, defBody s__law_all_told, defScope s__law_all_told, [], []⟩
def dd__law_write : He.DefD := ⟨("_law_write", none), "_law_write", "_law_write", defArgs s__law_write, defBody s__law_write, defScope s__law_write, [], []⟩
def dd__law_asked_or_put : He.DefD := ⟨("_law_asked_or_put", none), "_law_asked_or_put", "_law_asked_or_put", defArgs s__law_asked_or_put, defBody s__law_asked_or_put, defScope s__law_asked_or_put, [], []⟩
def dd__law_written : He.DefD := ⟨("_law_written", none), "_law_written", "_law_written", defArgs s__law_written, defBody s__law_written, defScope s__law_written, [], []⟩
def dd_law : He.DefD := ⟨("law", none), "law", "law", defArgs s_law, defBody s_law, defScope s_law, [], []⟩
def fn : List He.DefD := [dd_BadPage___init__, dd_is_whole, dd_is_text, dd_number_of, dd_Head___init__, dd_Head_letter, dd_Leaf___init__, dd_Leaf_letter, dd_Fork___init__, dd_Fork_letter, dd_Rest___init__, dd_Rest_letter, dd_Free___init__, dd_Free_letter, dd_has_word, dd_Parts___init__, dd_Shelf_thin, dd_Shelf_changed, dd_Shelf_held, dd_Shelf_forget, dd_Disk_pages, dd_Disk_rows, dd_Disk_writes, dd_Disk_begin_one, dd_Disk_end_one, dd_Disk_part_of, dd__law_draw, dd__law_tape, dd__law_signs, dd__law_due, dd_digits, dd_is_number, dd_is_key, dd_is_value, dd_is_size, dd_Shelf___init__, dd__law_text, dd__law_size, dd__law_held_right, dd__law_forgotten, dd_check_of, dd_are_keys, dd_is_cell, dd_cell_body, dd_key_body, dd_Head_body, dd_Rest_body, dd_Free_body, dd_need_size, dd_Parts_signs, dd_Disk___init__, dd__law_keys, dd__law_longer, dd_is_row, dd_Leaf_body, dd_Fork_body, dd_Parts_figure, dd_Parts_others, dd_made, dd_cell_in, dd_key_in, dd_is_page, dd_need_page, dd_shape_in, dd_body_of, dd_page_text, dd_page_of, dd_fit_text, dd__law_page, dd__law_disks_right, dd_Shelf_read_one, dd_Shelf_put, dd_Disk_write, dd_Shelf_page, dd_Shelf_write, dd__law_all_told, dd__law_write, dd__law_asked_or_put, dd__law_written, dd_law]
def fa : List He.Fa := [.free "all", .free "bool", .free "enumerate", .free "int", .free "isinstance", .free "len", .free "list", .free "max", .free "ord", .free "range", .free "reversed", .free "set", .free "sorted", .free "str", .free "tuple", .free "zip", .int "AHEAD" 31, .int "AROUND" 5, .int "CHECK" 4093, .int "LEAST_HELD" 2, .int "LEAST_SIZE" 64, .int "MOST_HELD" 40, .int "MOST_KEY" 12, .int "MOST_MANY" 3, .int "MOST_NUMBER" 4095, .int "MOST_ROWS" 63, .int "MOST_SIZE" 200, .int "MOST_VALUE" 400, .int "PERCENT" 37, .str "SIGNS" c_SIGNS, .glo "BadPage", .glo "BadText", .glo "Disk", .glo "Fork", .glo "Free", .glo "Head", .glo "Leaf", .glo "Parts", .glo "Rest", .glo "Shelf", .glo "TableError", .glo "BadNumber", .exc "BadNumber", .glo "BadSize", .exc "BadSize", .glo "BadText", .exc "BadText", .glo "PowerGone", .exc "PowerGone", .cls "Head", .cls "Leaf", .cls "Fork", .cls "Rest", .cls "Free", .cls "Parts", .cls "Disk", .cls "Shelf", .glo "is_whole", .glo "is_text", .glo "number_of", .mkr "Head", .meth "Head" "letter", .mkr "Leaf", .meth "Leaf" "letter", .mkr "Fork", .meth "Fork" "letter", .mkr "Rest", .meth "Rest" "letter", .mkr "Free", .meth "Free" "letter", .glo "has_word", .mkr "Parts", .meth "Shelf" "thin", .meth "Shelf" "changed", .meth "Shelf" "held", .meth "Shelf" "forget", .meth "Disk" "pages", .meth "Disk" "rows", .meth "Disk" "writes", .meth "Disk" "begin_one", .meth "Disk" "end_one", .meth "Disk" "part_of", .glo "_law_draw", .glo "_law_tape", .glo "_law_signs", .glo "_law_due", .glo "digits", .glo "is_number", .glo "is_key", .glo "is_value", .glo "is_size", .mkr "Shelf", .glo "_law_text", .glo "_law_size", .glo "_law_held_right", .glo "_law_forgotten", .glo "check_of", .glo "are_keys", .glo "is_cell", .glo "cell_body", .glo "key_body", .meth "Head" "body", .meth "Rest" "body", .meth "Free" "body", .glo "need_size", .meth "Parts" "signs", .mkr "Disk", .glo "_law_keys", .glo "_law_longer", .glo "is_row", .meth "Leaf" "body", .meth "Fork" "body", .meth "Parts" "figure", .meth "Parts" "others", .glo "made", .glo "cell_in", .glo "key_in", .glo "is_page", .glo "need_page", .glo "shape_in", .glo "body_of", .glo "page_text", .glo "page_of", .glo "fit_text", .glo "_law_page", .glo "_law_disks_right", .meth "Shelf" "read_one", .meth "Shelf" "put", .meth "Disk" "write", .meth "Shelf" "page", .meth "Shelf" "write", .glo "_law_all_told", .glo "_law_write", .glo "_law_asked_or_put", .glo "_law_written", .glo "law"]
def xb : Frg → Bool := fun K => (LF.xfB xtab xU xV K && (itB itab K && (oexB K (He.ga K "BadPage") "number" && (initB K (He.ga K "BadPage") && (baseB K (He.ga K "TableError") && true)))))
theorem top_of {K : Frg} {h : Heap} {mg : Str → Option Value} (X : K.In h) (G : h.Ns mainGlobals mg) (c : SaysX xb fa fn K) : Top K mg :=
  ⟨He.free_ok X G (c.2.fact 0 (f := .free "all") rfl),
  He.free_ok X G (c.2.fact 1 (f := .free "bool") rfl),
  He.free_ok X G (c.2.fact 2 (f := .free "enumerate") rfl),
  He.free_ok X G (c.2.fact 3 (f := .free "int") rfl),
  He.free_ok X G (c.2.fact 4 (f := .free "isinstance") rfl),
  He.free_ok X G (c.2.fact 5 (f := .free "len") rfl),
  He.free_ok X G (c.2.fact 6 (f := .free "list") rfl),
  He.free_ok X G (c.2.fact 7 (f := .free "max") rfl),
  He.free_ok X G (c.2.fact 8 (f := .free "ord") rfl),
  He.free_ok X G (c.2.fact 9 (f := .free "range") rfl),
  He.free_ok X G (c.2.fact 10 (f := .free "reversed") rfl),
  He.free_ok X G (c.2.fact 11 (f := .free "set") rfl),
  He.free_ok X G (c.2.fact 12 (f := .free "sorted") rfl),
  He.free_ok X G (c.2.fact 13 (f := .free "str") rfl),
  He.free_ok X G (c.2.fact 14 (f := .free "tuple") rfl),
  He.free_ok X G (c.2.fact 15 (f := .free "zip") rfl),
  He.int_ok X G (c.2.fact 16 (f := .int "AHEAD" 31) rfl),
  He.int_ok X G (c.2.fact 17 (f := .int "AROUND" 5) rfl),
  He.int_ok X G (c.2.fact 18 (f := .int "CHECK" 4093) rfl),
  He.int_ok X G (c.2.fact 19 (f := .int "LEAST_HELD" 2) rfl),
  He.int_ok X G (c.2.fact 20 (f := .int "LEAST_SIZE" 64) rfl),
  He.int_ok X G (c.2.fact 21 (f := .int "MOST_HELD" 40) rfl),
  He.int_ok X G (c.2.fact 22 (f := .int "MOST_KEY" 12) rfl),
  He.int_ok X G (c.2.fact 23 (f := .int "MOST_MANY" 3) rfl),
  He.int_ok X G (c.2.fact 24 (f := .int "MOST_NUMBER" 4095) rfl),
  He.int_ok X G (c.2.fact 25 (f := .int "MOST_ROWS" 63) rfl),
  He.int_ok X G (c.2.fact 26 (f := .int "MOST_SIZE" 200) rfl),
  He.int_ok X G (c.2.fact 27 (f := .int "MOST_VALUE" 400) rfl),
  He.int_ok X G (c.2.fact 28 (f := .int "PERCENT" 37) rfl),
  He.str_ok X G (c.2.fact 29 (f := .str "SIGNS" c_SIGNS) rfl),
  He.glo_ok X G (c.2.fact 30 (f := .glo "BadPage") rfl),
  He.glo_ok X G (c.2.fact 31 (f := .glo "BadText") rfl),
  He.glo_ok X G (c.2.fact 32 (f := .glo "Disk") rfl),
  He.glo_ok X G (c.2.fact 33 (f := .glo "Fork") rfl),
  He.glo_ok X G (c.2.fact 34 (f := .glo "Free") rfl),
  He.glo_ok X G (c.2.fact 35 (f := .glo "Head") rfl),
  He.glo_ok X G (c.2.fact 36 (f := .glo "Leaf") rfl),
  He.glo_ok X G (c.2.fact 37 (f := .glo "Parts") rfl),
  He.glo_ok X G (c.2.fact 38 (f := .glo "Rest") rfl),
  He.glo_ok X G (c.2.fact 39 (f := .glo "Shelf") rfl),
  He.glo_ok X G (c.2.fact 40 (f := .glo "TableError") rfl),
  excOk X G (c.2.fact 41 (f := .glo "BadNumber") rfl) (c.2.fact 42 (f := .exc "BadNumber") rfl),
  excOk X G (c.2.fact 43 (f := .glo "BadSize") rfl) (c.2.fact 44 (f := .exc "BadSize") rfl),
  excOk X G (c.2.fact 45 (f := .glo "BadText") rfl) (c.2.fact 46 (f := .exc "BadText") rfl),
  excOk X G (c.2.fact 47 (f := .glo "PowerGone") rfl) (c.2.fact 48 (f := .exc "PowerGone") rfl),
  He.cls_ok (c.2.fact 49 (f := .cls "Head") rfl),
  He.cls_ok (c.2.fact 50 (f := .cls "Leaf") rfl),
  He.cls_ok (c.2.fact 51 (f := .cls "Fork") rfl),
  He.cls_ok (c.2.fact 52 (f := .cls "Rest") rfl),
  He.cls_ok (c.2.fact 53 (f := .cls "Free") rfl),
  He.cls_ok (c.2.fact 54 (f := .cls "Parts") rfl),
  He.cls_ok (c.2.fact 55 (f := .cls "Disk") rfl),
  He.cls_ok (c.2.fact 56 (f := .cls "Shelf") rfl),
  He.glo_ok X G (c.2.fact 57 (f := .glo "is_whole") rfl),
  He.glo_ok X G (c.2.fact 58 (f := .glo "is_text") rfl),
  He.glo_ok X G (c.2.fact 59 (f := .glo "number_of") rfl),
  He.mkr_ok (c.2.fact 60 (f := .mkr "Head") rfl),
  He.meth_ok (c.2.fact 61 (f := .meth "Head" "letter") rfl),
  He.mkr_ok (c.2.fact 62 (f := .mkr "Leaf") rfl),
  He.meth_ok (c.2.fact 63 (f := .meth "Leaf" "letter") rfl),
  He.mkr_ok (c.2.fact 64 (f := .mkr "Fork") rfl),
  He.meth_ok (c.2.fact 65 (f := .meth "Fork" "letter") rfl),
  He.mkr_ok (c.2.fact 66 (f := .mkr "Rest") rfl),
  He.meth_ok (c.2.fact 67 (f := .meth "Rest" "letter") rfl),
  He.mkr_ok (c.2.fact 68 (f := .mkr "Free") rfl),
  He.meth_ok (c.2.fact 69 (f := .meth "Free" "letter") rfl),
  He.glo_ok X G (c.2.fact 70 (f := .glo "has_word") rfl),
  He.mkr_ok (c.2.fact 71 (f := .mkr "Parts") rfl),
  He.meth_ok (c.2.fact 72 (f := .meth "Shelf" "thin") rfl),
  He.meth_ok (c.2.fact 73 (f := .meth "Shelf" "changed") rfl),
  He.meth_ok (c.2.fact 74 (f := .meth "Shelf" "held") rfl),
  He.meth_ok (c.2.fact 75 (f := .meth "Shelf" "forget") rfl),
  He.meth_ok (c.2.fact 76 (f := .meth "Disk" "pages") rfl),
  He.meth_ok (c.2.fact 77 (f := .meth "Disk" "rows") rfl),
  He.meth_ok (c.2.fact 78 (f := .meth "Disk" "writes") rfl),
  He.meth_ok (c.2.fact 79 (f := .meth "Disk" "begin_one") rfl),
  He.meth_ok (c.2.fact 80 (f := .meth "Disk" "end_one") rfl),
  He.meth_ok (c.2.fact 81 (f := .meth "Disk" "part_of") rfl),
  He.glo_ok X G (c.2.fact 82 (f := .glo "_law_draw") rfl),
  He.glo_ok X G (c.2.fact 83 (f := .glo "_law_tape") rfl),
  He.glo_ok X G (c.2.fact 84 (f := .glo "_law_signs") rfl),
  He.glo_ok X G (c.2.fact 85 (f := .glo "_law_due") rfl),
  He.glo_ok X G (c.2.fact 86 (f := .glo "digits") rfl),
  He.glo_ok X G (c.2.fact 87 (f := .glo "is_number") rfl),
  He.glo_ok X G (c.2.fact 88 (f := .glo "is_key") rfl),
  He.glo_ok X G (c.2.fact 89 (f := .glo "is_value") rfl),
  He.glo_ok X G (c.2.fact 90 (f := .glo "is_size") rfl),
  He.mkr_ok (c.2.fact 91 (f := .mkr "Shelf") rfl),
  He.glo_ok X G (c.2.fact 92 (f := .glo "_law_text") rfl),
  He.glo_ok X G (c.2.fact 93 (f := .glo "_law_size") rfl),
  He.glo_ok X G (c.2.fact 94 (f := .glo "_law_held_right") rfl),
  He.glo_ok X G (c.2.fact 95 (f := .glo "_law_forgotten") rfl),
  He.glo_ok X G (c.2.fact 96 (f := .glo "check_of") rfl),
  He.glo_ok X G (c.2.fact 97 (f := .glo "are_keys") rfl),
  He.glo_ok X G (c.2.fact 98 (f := .glo "is_cell") rfl),
  He.glo_ok X G (c.2.fact 99 (f := .glo "cell_body") rfl),
  He.glo_ok X G (c.2.fact 100 (f := .glo "key_body") rfl),
  He.meth_ok (c.2.fact 101 (f := .meth "Head" "body") rfl),
  He.meth_ok (c.2.fact 102 (f := .meth "Rest" "body") rfl),
  He.meth_ok (c.2.fact 103 (f := .meth "Free" "body") rfl),
  He.glo_ok X G (c.2.fact 104 (f := .glo "need_size") rfl),
  He.meth_ok (c.2.fact 105 (f := .meth "Parts" "signs") rfl),
  He.mkr_ok (c.2.fact 106 (f := .mkr "Disk") rfl),
  He.glo_ok X G (c.2.fact 107 (f := .glo "_law_keys") rfl),
  He.glo_ok X G (c.2.fact 108 (f := .glo "_law_longer") rfl),
  He.glo_ok X G (c.2.fact 109 (f := .glo "is_row") rfl),
  He.meth_ok (c.2.fact 110 (f := .meth "Leaf" "body") rfl),
  He.meth_ok (c.2.fact 111 (f := .meth "Fork" "body") rfl),
  He.meth_ok (c.2.fact 112 (f := .meth "Parts" "figure") rfl),
  He.meth_ok (c.2.fact 113 (f := .meth "Parts" "others") rfl),
  He.glo_ok X G (c.2.fact 114 (f := .glo "made") rfl),
  He.glo_ok X G (c.2.fact 115 (f := .glo "cell_in") rfl),
  He.glo_ok X G (c.2.fact 116 (f := .glo "key_in") rfl),
  He.glo_ok X G (c.2.fact 117 (f := .glo "is_page") rfl),
  He.glo_ok X G (c.2.fact 118 (f := .glo "need_page") rfl),
  He.glo_ok X G (c.2.fact 119 (f := .glo "shape_in") rfl),
  He.glo_ok X G (c.2.fact 120 (f := .glo "body_of") rfl),
  He.glo_ok X G (c.2.fact 121 (f := .glo "page_text") rfl),
  He.glo_ok X G (c.2.fact 122 (f := .glo "page_of") rfl),
  He.glo_ok X G (c.2.fact 123 (f := .glo "fit_text") rfl),
  He.glo_ok X G (c.2.fact 124 (f := .glo "_law_page") rfl),
  He.glo_ok X G (c.2.fact 125 (f := .glo "_law_disks_right") rfl),
  He.meth_ok (c.2.fact 126 (f := .meth "Shelf" "read_one") rfl),
  He.meth_ok (c.2.fact 127 (f := .meth "Shelf" "put") rfl),
  He.meth_ok (c.2.fact 128 (f := .meth "Disk" "write") rfl),
  He.meth_ok (c.2.fact 129 (f := .meth "Shelf" "page") rfl),
  He.meth_ok (c.2.fact 130 (f := .meth "Shelf" "write") rfl),
  He.glo_ok X G (c.2.fact 131 (f := .glo "_law_all_told") rfl),
  He.glo_ok X G (c.2.fact 132 (f := .glo "_law_write") rfl),
  He.glo_ok X G (c.2.fact 133 (f := .glo "_law_asked_or_put") rfl),
  He.glo_ok X G (c.2.fact 134 (f := .glo "_law_written") rfl),
  He.glo_ok X G (c.2.fact 135 (f := .glo "law") rfl),
  c.2.def_ 0 (d := dd_BadPage___init__) rfl,
  c.2.def_ 1 (d := dd_is_whole) rfl,
  c.2.def_ 2 (d := dd_is_text) rfl,
  c.2.def_ 3 (d := dd_number_of) rfl,
  c.2.def_ 4 (d := dd_Head___init__) rfl,
  c.2.def_ 5 (d := dd_Head_letter) rfl,
  c.2.def_ 6 (d := dd_Leaf___init__) rfl,
  c.2.def_ 7 (d := dd_Leaf_letter) rfl,
  c.2.def_ 8 (d := dd_Fork___init__) rfl,
  c.2.def_ 9 (d := dd_Fork_letter) rfl,
  c.2.def_ 10 (d := dd_Rest___init__) rfl,
  c.2.def_ 11 (d := dd_Rest_letter) rfl,
  c.2.def_ 12 (d := dd_Free___init__) rfl,
  c.2.def_ 13 (d := dd_Free_letter) rfl,
  c.2.def_ 14 (d := dd_has_word) rfl,
  c.2.def_ 15 (d := dd_Parts___init__) rfl,
  c.2.def_ 16 (d := dd_Shelf_thin) rfl,
  c.2.def_ 17 (d := dd_Shelf_changed) rfl,
  c.2.def_ 18 (d := dd_Shelf_held) rfl,
  c.2.def_ 19 (d := dd_Shelf_forget) rfl,
  c.2.def_ 20 (d := dd_Disk_pages) rfl,
  c.2.def_ 21 (d := dd_Disk_rows) rfl,
  c.2.def_ 22 (d := dd_Disk_writes) rfl,
  c.2.def_ 23 (d := dd_Disk_begin_one) rfl,
  c.2.def_ 24 (d := dd_Disk_end_one) rfl,
  c.2.def_ 25 (d := dd_Disk_part_of) rfl,
  c.2.def_ 26 (d := dd__law_draw) rfl,
  c.2.def_ 27 (d := dd__law_tape) rfl,
  c.2.def_ 28 (d := dd__law_signs) rfl,
  c.2.def_ 29 (d := dd__law_due) rfl,
  c.2.def_ 30 (d := dd_digits) rfl,
  c.2.def_ 31 (d := dd_is_number) rfl,
  c.2.def_ 32 (d := dd_is_key) rfl,
  c.2.def_ 33 (d := dd_is_value) rfl,
  c.2.def_ 34 (d := dd_is_size) rfl,
  c.2.def_ 35 (d := dd_Shelf___init__) rfl,
  c.2.def_ 36 (d := dd__law_text) rfl,
  c.2.def_ 37 (d := dd__law_size) rfl,
  c.2.def_ 38 (d := dd__law_held_right) rfl,
  c.2.def_ 39 (d := dd__law_forgotten) rfl,
  c.2.def_ 40 (d := dd_check_of) rfl,
  c.2.def_ 41 (d := dd_are_keys) rfl,
  c.2.def_ 42 (d := dd_is_cell) rfl,
  c.2.def_ 43 (d := dd_cell_body) rfl,
  c.2.def_ 44 (d := dd_key_body) rfl,
  c.2.def_ 45 (d := dd_Head_body) rfl,
  c.2.def_ 46 (d := dd_Rest_body) rfl,
  c.2.def_ 47 (d := dd_Free_body) rfl,
  c.2.def_ 48 (d := dd_need_size) rfl,
  c.2.def_ 49 (d := dd_Parts_signs) rfl,
  c.2.def_ 50 (d := dd_Disk___init__) rfl,
  c.2.def_ 51 (d := dd__law_keys) rfl,
  c.2.def_ 52 (d := dd__law_longer) rfl,
  c.2.def_ 53 (d := dd_is_row) rfl,
  c.2.def_ 54 (d := dd_Leaf_body) rfl,
  c.2.def_ 55 (d := dd_Fork_body) rfl,
  c.2.def_ 56 (d := dd_Parts_figure) rfl,
  c.2.def_ 57 (d := dd_Parts_others) rfl,
  c.2.def_ 58 (d := dd_made) rfl,
  c.2.def_ 59 (d := dd_cell_in) rfl,
  c.2.def_ 60 (d := dd_key_in) rfl,
  c.2.def_ 61 (d := dd_is_page) rfl,
  c.2.def_ 62 (d := dd_need_page) rfl,
  c.2.def_ 63 (d := dd_shape_in) rfl,
  c.2.def_ 64 (d := dd_body_of) rfl,
  c.2.def_ 65 (d := dd_page_text) rfl,
  c.2.def_ 66 (d := dd_page_of) rfl,
  c.2.def_ 67 (d := dd_fit_text) rfl,
  c.2.def_ 68 (d := dd__law_page) rfl,
  c.2.def_ 69 (d := dd__law_disks_right) rfl,
  c.2.def_ 70 (d := dd_Shelf_read_one) rfl,
  c.2.def_ 71 (d := dd_Shelf_put) rfl,
  c.2.def_ 72 (d := dd_Disk_write) rfl,
  c.2.def_ 73 (d := dd_Shelf_page) rfl,
  c.2.def_ 74 (d := dd_Shelf_write) rfl,
  c.2.def_ 75 (d := dd__law_all_told) rfl,
  c.2.def_ 76 (d := dd__law_write) rfl,
  c.2.def_ 77 (d := dd__law_asked_or_put) rfl,
  c.2.def_ 78 (d := dd__law_written) rfl,
  c.2.def_ 79 (d := dd_law) rfl,
  LF.xfB_ok (He.ba c.1).1,
  itB_ok (He.ba (He.ba c.1).2).1,
  oexB_ok (He.ba (He.ba (He.ba c.1).2).2).1,
  initB_ok (He.ba (He.ba (He.ba (He.ba c.1).2).2).2).1,
  baseB_ok (He.ba (He.ba (He.ba (He.ba (He.ba c.1).2).2).2).2).1⟩
end
end K10
set_option Elab.async false
set_option linter.all false
set_option maxRecDepth 100000
set_option maxHeartbeats 0
namespace K10
open PySem PySem.Spec PyProof.Rows L2 LF
def loose0 : List Str := ["_wall", "TableError", "BadNumber", "BadText", "BadSize", "BadPage", "PowerGone", "SIGNS", "MOST_MANY", "CHECK", "PERCENT", "AHEAD", "is_whole", "is_text", "digits", "number_of", "check_of", "MOST_NUMBER", "MOST_KEY", "MOST_VALUE", "MOST_ROWS", "is_number", "is_key", "is_value", "are_keys", "is_cell", "is_row", "cell_body", "key_body", "Page"]
def loose1 : List Str := ["Head", "Leaf", "Fork", "Rest", "Free", "has_word", "made", "LEAST_SIZE", "MOST_SIZE", "AROUND", "is_size", "need_size", "is_page", "need_page", "body_of", "page_text", "Parts", "cell_in", "key_in", "shape_in", "page_of", "LEAST_HELD", "MOST_HELD", "fit_text", "Shelf", "Disk", "_law_draw", "_law_tape", "_law_signs", "_law_text"]
def loose2 : List Str := ["_law_keys", "_law_longer", "_law_page", "_law_size", "_law_due", "_law_all_told", "_law_disks_right", "_law_held_right", "_law_write", "_law_asked_or_put", "_law_forgotten", "_law_written"]
def loose : List Str := loose0 ++ loose1 ++ loose2
abbrev R : PySem.W.OpenRow := PySem.W.OpenLaw.row PySem.Challenge.rw_leafhouse_k10_whole_shelves_alike
abbrev hk : PySem.W.Hook := hookS 5 xb fa fn
def ob (s : PySem.W.SharedT) : AlX := obsSG 5 xb fa fn (HandSHeadRun.getT s)
theorem ob_eq (s : PySem.W.SharedT) : ob s = hk.obs s.abs := obsSG_eq (HandSHeadRun.getT_eq s)
theorem run (w : World) : HandSHeadRun.RunEq R (PySem.W.view R.prog [79]) hk ob 9000 loose w := by
  intro os
  kernel_rfl
end K10
set_option Elab.async false
set_option linter.all false
set_option maxRecDepth 100000
set_option maxHeartbeats 4000000
/-! K10, the plain law: signs, digits, texts, checks. -/
namespace K10
open PySem PySem.Spec PyProof.Rows L2 LF
/-! ### the signs -/
def SL : List Nat := c_SIGNS.cps.toList
theorem c_tx : c_SIGNS = tx SL := tx_eta _
theorem is_whole_int (n : Int) (M : Mem) : f_is_whole [.int n] M = .ok (.bl true) M := rfl
def sgN (i : Int) : Nat := (atI SL i).getD 0
theorem sg_at {i : Int} (h0 : 0 ≤ i) (h1 : i < 64) : atI SL i = some (sgN i) := by
  have e : i = ((i.toNat : Nat) : Int) := by omega
  have hk : i.toNat < 64 := by omega
  generalize i.toNat = k at e hk
  subst e
  have : ∀ k : Fin 64, (atI SL ((k.val : Nat) : Int)) = some (sgN ((k.val : Nat) : Int)) := by decide +kernel
  exact this ⟨k, hk⟩
theorem sg_mem {i : Int} (h0 : 0 ≤ i) (h1 : i < 64) : sgN i ∈ SL ∧ ((SL.idxOf (sgN i) : Nat) : Int) = i := by
  have e : i = ((i.toNat : Nat) : Int) := by omega
  have hk : i.toNat < 64 := by omega
  generalize i.toNat = k at e hk
  subst e
  have : ∀ k : Fin 64, sgN ((k.val : Nat) : Int) ∈ SL ∧ ((SL.idxOf (sgN ((k.val : Nat) : Int)) : Nat) : Int) = ((k.val : Nat) : Int) := by decide +kernel
  exact this ⟨k, hk⟩
theorem sg_lt {c : Nat} (h : c ∈ SL) : c < 1114112 := by
  have : ∀ c ∈ SL, c < 1114112 := by decide +kernel
  exact this c h
theorem sg_ix {i : Int} {M : Mem} (h0 : 0 ≤ i) (h1 : i < 64) : fIx (.str c_SIGNS) (.int i) M = .ok (.str (tx [sgN i])) M := fIx_str (by decide +kernel) (sg_at h0 h1)
theorem sg_ixm (M : Mem) (x : Int) : fIx (.str c_SIGNS) (.int (x % 64)) M = .ok (.str (tx [sgN (x % 64)])) M := sg_ix (by omega) (by omega)
def digL (m : Int) (n : Int) : List Nat := if m = 1 then [sgN (n % 64)] else if m = 2 then [sgN (n / 64 % 64), sgN (n % 64)] else [sgN (n / 4096 % 64), sgN (n / 64 % 64), sgN (n % 64)]
theorem digits_ok (n m : Int) (M : Mem) (hm : m = 1 ∨ m = 2 ∨ m = 3) (h0 : 0 ≤ n) (h : n / 2 ^ (6 * m.toNat) = 0) : f_digits [.int n, .int m] M = .ok (.str (tx (digL m n))) M := by
  have h1 : ¬ n < 0 := by omega
  have e1 : (irng 0 1).reverse = [.int 0] := rfl
  have e2 : (irng 0 2).reverse = [.int 1, .int 0] := rfl
  have e3 : (irng 0 3).reverse = [.int 2, .int 1, .int 0] := rfl
  have b1 := fun a => mJoin_tx (l := [a]) (M := M) (by simp)
  have b2 := fun a b => mJoin_tx (l := [a, b]) (M := M) (by simp)
  have b3 := fun a b c => mJoin_tx (l := [a, b, c]) (M := M) (by simp)
  simp only [List.map_cons, List.map_nil] at b1 b2 b3
  rcases hm with rfl | rfl | rfl <;> simp at h <;> simp [f_digits, b_digits, c1_digits, runB_ev, is_whole_int, fMulX_l, decide_eq_false h1, h, e1, e2, e3, bitAnd_m6, sg_ixm, tx_empty, b1, b2, b3, digL]
/-! ### the law's own text -/
def ALs : Str := ((" !\"#$&'()*+,-./0123456789:;<=>?\x40ABCDEFGHIJKLMNOPQRSTUVWXYZ[\\]^_`" : Str) ++ ("abcdefghijklmnopqrstuvwxyz{|}~" : Str))
def AL : List Nat := ALs.cps.toList
theorem lsigns (M : Mem) : f__law_signs [] M = .ok (.str (tx AL)) M := by
  simp [f__law_signs, b__law_signs, runB_ev]
  rw [fAdd_str (by decide +kernel)]
  have e : tx AL = ALs := (tx_eta ALs).symm
  rw [e]
  simp [ALs]
theorem al_at {i : Int} (h0 : 0 ≤ i) (h1 : i < 94) : ∃ c, atI AL i = some c ∧ c ∈ AL := by
  have e : i = ((i.toNat : Nat) : Int) := by omega
  have hk : i.toNat < 94 := by omega
  generalize i.toNat = k at e hk
  subst e
  have : ∀ k : Fin 94, ∃ c, atI AL ((k.val : Nat) : Int) = some c ∧ c ∈ AL := by
    intro k
    refine ⟨(atI AL ((k.val : Nat) : Int)).getD 0, ?_⟩
    revert k
    decide +kernel
  exact this ⟨k, hk⟩
theorem al_len : AL.length = 94 := by decide +kernel
/-! ### the law's numbers -/
/-! ### good signs -/
def okc (c : Nat) : Bool := decide (32 ≤ c) && (decide (c ≤ 126) && !decide (c = 37))
theorem al_ok {c : Nat} (h : c ∈ AL) : okc c = true ∧ c < 128 := by
  have : ∀ c ∈ AL, okc c = true ∧ c < 128 := by decide +kernel
  exact this c h
theorem chain_ev (c : Nat) (M : Mem) (r : Env') (x0 : D) (y : Option D) : c1_is_text [some x0, some (.str (tx [c]))] M = .ok (.bl (okc c)) M := by
  have e1 : Str.ofString " " = tx [32] := by rw [tx_lit]; rfl
  have e2 : Str.ofString "~" = tx [126] := by rw [tx_lit]; rfl
  have n1 : decide (c < 32) = !decide (32 ≤ c) := by
    by_cases h : c < 32
    · rw [decide_eq_true h, decide_eq_false (by omega)]; rfl
    · rw [decide_eq_false h, decide_eq_true (by omega)]; rfl
  have n2 : decide (126 < c) = !decide (c ≤ 126) := by
    by_cases h : 126 < c
    · rw [decide_eq_true h, decide_eq_false (by omega)]; rfl
    · rw [decide_eq_false h, decide_eq_true (by omega)]; rfl
  have n3 : decide ((c : Int) = 37) = decide (c = 37) := decide_eq_decide.mpr (by omega)
  unfold okc
  cases h1 : decide (32 ≤ c) with
  | false => simp [c1_is_text, e1, e2, strLt_one, n1, h1]
  | true =>
    cases h2 : decide (c ≤ 126) with
    | false => simp [c1_is_text, e1, e2, strLt_one, n1, n2, h1, h2]
    | true => simp [c1_is_text, e1, e2, strLt_one, n1, n2, h1, h2, n3]
theorem text_comp (M : Mem) (x0 : D) : ∀ (l : List Nat) (acc : List D), acc.length + l.length ≤ 100000 →
    compL anyM (gSlot 1) dYes c1_is_text [some x0, none] (l.map fun c => .str (tx [c])) acc M = .ok (acc ++ l.map fun c => .bl (okc c)) M
  | [], acc, _ => by simp
  | c :: l, acc, h => by
    rw [List.length_cons] at h
    have ih := text_comp M x0 l (acc ++ [.bl (okc c)]) (by simp; omega)
    simp only [List.map_cons, compL_consA, gSlot_ev, List.set_cons_succ, List.set_cons_zero, cmpK1_ok, dYes_ev, cmpK2_t]
    rw [chain_ev c M [] x0 none, cmpK3_ok (by omega), ih]
    simp
theorem is_text_tx (l : List Nat) (M : Mem) (h : l.length ≤ 100000) : f_is_text [.str (tx l)] M = .ok (.bl (l.all okc)) M := by
  have c := text_comp M (.str (tx l)) l [] (by simpa using h)
  rw [List.nil_append] at c
  have a := fAll_of (M := M) (blsOf_map (f := okc) l)
  simp only [f_is_text, b_is_text, runB_ev, List.map_cons, List.map_nil, List.length_cons, List.length_nil]
  simp [signs_tx, c, a]
/-! ### the sum -/
def wS : Nat → List Nat → Int
  | _, [] => 0
  | k, c :: l => ((c : Int) - 31) * ((k : Int) + 1) + wS (k + 1) l
theorem wS_app : ∀ (a b : List Nat) (k : Nat), wS k (a ++ b) = wS k a + wS (k + a.length) b
  | [], b, k => by simp [wS]
  | c :: a, b, k => by
    rw [List.cons_append, wS, wS, wS_app a b (k + 1), List.length_cons, show k + 1 + a.length = k + (a.length + 1) by omega]
    omega
theorem chk_loop (M : Mem) (x0 : Option D) : ∀ (l : List Nat) (n : Nat) (a : Int) (x2 x3 : Option D), n + l.length ≤ 100000 → ∃ y2 y3, forL anyM (gTupD 2 (gsCons (gSlot 2) (gsCons (gSlot 3) gsNil))) l1_check_of ((l.zipIdx n).map fun ci => .tup [.int (ci.2 : Nat), .str (tx [ci.1])]) [x0, some (.int a), x2, x3] M = .nx [x0, some (.int (a + wS n l)), y2, y3] M
  | [], n, a, x2, x3, _ => ⟨x2, x3, by simp [wS]⟩
  | c :: l, n, a, x2, x3, h => by
    rw [List.length_cons] at h
    obtain ⟨y2, y3, ih⟩ := chk_loop M x0 l (n + 1) (a + ((c : Int) - 31) * ((n : Int) + 1)) (some (.int (n : Nat))) (some (.str (tx [c]))) (by omega)
    refine ⟨y2, y3, ?_⟩
    have m : ∀ y : Int, fMulX (.int y) (.int ((n : Int) + 1)) M = .ok (.int (y * ((n : Int) + 1))) M := fun y => fMulX_r (by omega) (by omega)
    have ev : l1_check_of [x0, some (.int a), some (.int (n : Nat)), some (.str (tx [c]))] M = .nx [x0, some (.int (a + ((c : Int) - 31) * ((n : Int) + 1))), some (.int (n : Nat)), some (.str (tx [c]))] M := by
      simp [l1_check_of, dAug_ev, m]
    simp [ev, ih, wS, Int.add_assoc]
theorem digits2 (w : Int) (M : Mem) : f_digits [.int (w % 4093), .int 2] M = .ok (.str (tx (digL 2 (w % 4093)))) M := by
  have h : w % 4093 < 4093 := Int.emod_lt_of_pos _ (by decide)
  exact digits_ok _ _ M (.inr (.inl rfl)) (by omega) (Int.ediv_eq_zero_of_lt (by omega) (show w % 4093 < 4096 by omega))
theorem check_ok (l : List Nat) (M : Mem) (h : l.length ≤ 1000) (ho : l.all okc = true) : f_check_of [.str (tx l)] M = .ok (.str (tx (digL 2 (wS 0 l % 4093)))) M := by
  obtain ⟨y2, y3, q⟩ := chk_loop M (some (.str (tx l))) l 0 0 none none (by omega)
  rw [Int.zero_add] at q
  simp [f_check_of, b_check_of, runB_ev, is_text_tx l M (by omega), ho, pairs_tx, q, digits2]
end K10
set_option Elab.async false
set_option linter.all false
set_option maxRecDepth 100000
set_option maxHeartbeats 4000000
/-! K10: pages as data; what made tells. -/
namespace K10
open PySem PySem.Spec PyProof.Rows L2 LF
inductive Cell where
  | inn (t : List Nat) | out (a b : Int)
def Cell.toD : Cell → D
  | .inn t => .tup [.str "in", .str (tx t)]
  | .out a b => .tup [.str "out", .int a, .int b]
abbrev Row := List Nat × Cell
def rowD (r : Row) : D := .tup [.str (tx r.1), r.2.toD]
def keyD (k : List Nat) : D := .str (tx k)
inductive Pg where
  | head (a b c d : Int) | leaf (rows : List Row) | fork (keys : List (List Nat)) (kids : List Int) | rest (t : List Nat) (n : Int) | free (n : Int)
def Pg.toD : Pg → D
  | .head a b c d => .tup [.str "head", .int a, .int b, .int c, .int d]
  | .leaf rows => .tup [.str "leaf", .tup (rows.map rowD)]
  | .fork keys kids => .tup [.str "fork", .tup (keys.map keyD), .tup (kids.map .int)]
  | .rest t n => .tup [.str "rest", .str (tx t), .int n]
  | .free n => .tup [.str "free", .int n]
def NumOk (lo n : Int) : Prop := lo ≤ n ∧ n ≤ 4095
def TxtOk (t : List Nat) : Prop := ∀ c ∈ t, okc c = true
structure KeyOk (k : List Nat) : Prop where
  t : TxtOk k
  lo : 1 ≤ k.length
  hi : k.length ≤ 12
def CellOk : Cell → Prop
  | .inn t => TxtOk t ∧ t.length ≤ 63
  | .out a b => (1 ≤ a ∧ a ≤ 400) ∧ NumOk 1 b
structure Rising (ks : List (List Nat)) : Prop where
  many : ks.length ≤ 63
  key : ∀ k ∈ ks, KeyOk k
  lt : ∀ i a b, ks[i]? = some a → ks[i + 1]? = some b → a < b
def Good : Pg → Prop
  | .head a b c d => NumOk 0 a ∧ NumOk 0 b ∧ NumOk 0 c ∧ NumOk 0 d
  | .leaf rows => Rising (rows.map (·.1)) ∧ ∀ r ∈ rows, CellOk r.2
  | .fork keys kids => Rising keys ∧ (∀ n ∈ kids, NumOk 1 n) ∧ kids.length = keys.length + 1
  | .rest t n => TxtOk t ∧ 1 ≤ t.length ∧ t.length ≤ 400 ∧ NumOk 0 n
  | .free n => NumOk 0 n
theorem so_head : PyData.strOk (Str.ofString "head") = true := by decide +kernel
theorem so_leaf : PyData.strOk (Str.ofString "leaf") = true := by decide +kernel
theorem so_fork : PyData.strOk (Str.ofString "fork") = true := by decide +kernel
theorem so_rest : PyData.strOk (Str.ofString "rest") = true := by decide +kernel
theorem so_free : PyData.strOk (Str.ofString "free") = true := by decide +kernel
theorem so_in : PyData.strOk (Str.ofString "in") = true := by decide +kernel
theorem so_out : PyData.strOk (Str.ofString "out") = true := by decide +kernel
theorem bq_head_head : (Str.ofString "head" == Str.ofString "head") = true := by decide +kernel
theorem bq_head_leaf : (Str.ofString "head" == Str.ofString "leaf") = false := by decide +kernel
theorem bq_head_fork : (Str.ofString "head" == Str.ofString "fork") = false := by decide +kernel
theorem bq_head_rest : (Str.ofString "head" == Str.ofString "rest") = false := by decide +kernel
theorem bq_head_free : (Str.ofString "head" == Str.ofString "free") = false := by decide +kernel
theorem bq_leaf_head : (Str.ofString "leaf" == Str.ofString "head") = false := by decide +kernel
theorem bq_leaf_leaf : (Str.ofString "leaf" == Str.ofString "leaf") = true := by decide +kernel
theorem bq_leaf_fork : (Str.ofString "leaf" == Str.ofString "fork") = false := by decide +kernel
theorem bq_leaf_rest : (Str.ofString "leaf" == Str.ofString "rest") = false := by decide +kernel
theorem bq_leaf_free : (Str.ofString "leaf" == Str.ofString "free") = false := by decide +kernel
theorem bq_fork_head : (Str.ofString "fork" == Str.ofString "head") = false := by decide +kernel
theorem bq_fork_leaf : (Str.ofString "fork" == Str.ofString "leaf") = false := by decide +kernel
theorem bq_fork_fork : (Str.ofString "fork" == Str.ofString "fork") = true := by decide +kernel
theorem bq_fork_rest : (Str.ofString "fork" == Str.ofString "rest") = false := by decide +kernel
theorem bq_fork_free : (Str.ofString "fork" == Str.ofString "free") = false := by decide +kernel
theorem bq_rest_head : (Str.ofString "rest" == Str.ofString "head") = false := by decide +kernel
theorem bq_rest_leaf : (Str.ofString "rest" == Str.ofString "leaf") = false := by decide +kernel
theorem bq_rest_fork : (Str.ofString "rest" == Str.ofString "fork") = false := by decide +kernel
theorem bq_rest_rest : (Str.ofString "rest" == Str.ofString "rest") = true := by decide +kernel
theorem bq_rest_free : (Str.ofString "rest" == Str.ofString "free") = false := by decide +kernel
theorem bq_free_head : (Str.ofString "free" == Str.ofString "head") = false := by decide +kernel
theorem bq_free_leaf : (Str.ofString "free" == Str.ofString "leaf") = false := by decide +kernel
theorem bq_free_fork : (Str.ofString "free" == Str.ofString "fork") = false := by decide +kernel
theorem bq_free_rest : (Str.ofString "free" == Str.ofString "rest") = false := by decide +kernel
theorem bq_free_free : (Str.ofString "free" == Str.ofString "free") = true := by decide +kernel
theorem bq_in_in : (Str.ofString "in" == Str.ofString "in") = true := by decide +kernel
theorem bq_in_out : (Str.ofString "in" == Str.ofString "out") = false := by decide +kernel
theorem bq_out_in : (Str.ofString "out" == Str.ofString "in") = false := by decide +kernel
theorem bq_out_out : (Str.ofString "out" == Str.ofString "out") = true := by decide +kernel
theorem is_number_ok {lo n : Int} {M : Mem} (h : NumOk lo n) : f_is_number [.int n, .int lo] M = .ok (.bl true) M := by
  simp [f_is_number, b_is_number, runB_ev, is_whole_int, decide_eq_true h.1, decide_eq_true h.2]
theorem txt_all {t : List Nat} (h : TxtOk t) : t.all okc = true := List.all_eq_true.mpr h
theorem is_text_ok {t : List Nat} {M : Mem} (h : TxtOk t) (hl : t.length ≤ 100000) : f_is_text [.str (tx t)] M = .ok (.bl true) M := by rw [is_text_tx t M hl, txt_all h]
theorem is_key_ok {k : List Nat} {M : Mem} (h : KeyOk k) : f_is_key [.str (tx k)] M = .ok (.bl true) M := by
  have l := h.hi
  have h1 : (1 : Int) ≤ k.length := by have := h.lo; omega
  have h2 : (k.length : Int) ≤ 12 := by omega
  simp [f_is_key, b_is_key, runB_ev, is_text_ok (M := M) h.t (by omega), fLen_tx (l := k) (M := M) (by omega), decide_eq_true h1, decide_eq_true h2]
theorem is_value_ok {k : List Nat} {M : Mem} (h : TxtOk k) (l : k.length ≤ 400) : f_is_value [.str (tx k)] M = .ok (.bl true) M := by
  have h2 : (k.length : Int) ≤ 400 := by omega
  simp [f_is_value, b_is_value, runB_ev, is_text_ok (M := M) h (by omega), fLen_tx (l := k) (M := M) (by omega), decide_eq_true h2]
theorem is_cell_ok {c : Cell} {M : Mem} (h : CellOk c) : f_is_cell [c.toD] M = .ok (.bl true) M := by
  cases c with
  | inn t =>
    obtain ⟨h1, h2⟩ := h
    have h3 : (t.length : Int) ≤ 63 := by omega
    simp [f_is_cell, b_is_cell, runB_ev, Cell.toD, lit_eq so_in so_in bq_in_in, is_text_ok (M := M) h1 (by omega), fLen_tx (l := t) (M := M) (by omega), decide_eq_true h3]
  | out a b =>
    obtain ⟨⟨h1, h2⟩, h3⟩ := h
    have i2 : fIx (.tup [.str "out", .int a, .int b]) (.int 2) M = .ok (.int b) M := fIx_tup (L2.atI_nat (j := 2) rfl)
    simp [f_is_cell, b_is_cell, runB_ev, Cell.toD, lit_eq so_out so_in bq_out_in, lit_ne so_out so_out bq_out_out, is_whole_int, decide_eq_true h1, decide_eq_true h2, i2, is_number_ok h3]
theorem is_row_ok {r : Row} {M : Mem} (h1 : KeyOk r.1) (h2 : CellOk r.2) : f_is_row [rowD r] M = .ok (.bl true) M := by
  simp [f_is_row, b_is_row, runB_ev, rowD, is_key_ok (M := M) h1, is_cell_ok (M := M) h2]
theorem are_keys_ok {ks : List (List Nat)} {M : Mem} (h : Rising ks) : f_are_keys [.lst (ks.map keyD)] M = .ok (.bl true) M := by
  have hm : ¬ (63 : Int) < ks.length := by have := h.many; omega
  have k1 := compL_img (t := dYes) (de := c1_are_keys) (r := [some (.lst (ks.map keyD)), none, none]) (M := M) (dg := gSlot 1) (f := keyD) (g := fun _ => .bl true) ks [] (fun a ha => ⟨_, rfl, rfl, by
    simp [c1_are_keys, keyD, is_key_ok (M := M) (h.key a ha)]⟩) (by have := h.many; simp; omega)
  have e : irng 0 (ks.length - 1) = (List.range (ks.length - 1)).map fun i : Nat => .int (i : Int) := by
    unfold irng
    exact List.map_congr_left fun i _ => by simp
  have k2 := compL_img (t := dYes) (de := c2_are_keys) (r := [some (.lst (ks.map keyD)), none, none]) (M := M) (dg := gSlot 2) (f := fun i : Nat => .int (i : Int)) (g := fun _ => .bl true) (List.range (ks.length - 1)) [] (fun i hi => ⟨_, rfl, rfl, by
    have hi := List.mem_range.mp hi
    have a1 : atI (ks.map keyD) (i : Int) = some (keyD (ks[i]'(by omega))) := L2.atI_nat (by simp [List.getElem?_eq_getElem (show i < ks.length by omega)])
    have a2 : atI (ks.map keyD) ((i : Int) + 1) = some (keyD (ks[i + 1]'(by omega))) := by
      rw [show (i : Int) + 1 = ((i + 1 : Nat) : Int) by omega]
      exact L2.atI_nat (by simp [List.getElem?_eq_getElem (show i + 1 < ks.length by omega)])
    have lt := h.lt i _ _ (List.getElem?_eq_getElem (show i < ks.length by omega)) (List.getElem?_eq_getElem (show i + 1 < ks.length by omega))
    simp [c2_are_keys, fIx_lst a1, fIx_lst a2, keyD, strLt_tx, decide_eq_true lt]⟩) (by have := h.many; simp; omega)
  rw [List.nil_append] at k1 k2
  rw [← e] at k2
  have b1 : (-4611686018427387904 : Int) ≤ (ks.length : Int) - 1 := by omega
  have b2 : (ks.length : Int) - 1 < 4611686018427387904 := by have := h.many; omega
  simp [-dItL_ev, f_are_keys, b_are_keys, runB_ev, decide_eq_false hm, dItL_K, k1, all_true, itR1K_ok b1 b2, k2]
theorem has_word_ev {a b : Str} {ds : List D} {n : Int} {M : Mem} (ha : PyData.strOk a = true) (hb : PyData.strOk b = true) : f_has_word [.tup (.str a :: ds), .str b, .int n] M = .ok (.bl (decide (((ds.length : Int) + 1) = n) && (a == b))) M := by
  cases h : decide (((ds.length : Int) + 1) = n) with
  | true => simp [f_has_word, b_has_word, runB_ev, h, fEq_str ha hb]
  | false => simp [f_has_word, b_has_word, runB_ev, h]
/-- the object that made tells -/
def Pg.obj : Pg → MO
  | .head a b c d => .ins "Head" [("top", .int a), ("depth", .int b), ("amount", .int c), ("free", .int d)]
  | .leaf rows => .ins "Leaf" [("entries", .tup (rows.map rowD))]
  | .fork keys kids => .ins "Fork" [("parting", .tup (keys.map keyD)), ("kids", .tup (kids.map .int))]
  | .rest t n => .ins "Rest" [("text", .str (tx t)), ("behind", .int n)]
  | .free n => .ins "Free" [("behind", .int n)]
theorem last_at {M : Mem} {o : MO} : (M ++ [o])[M.length]? = some o := by simp
theorem set_last {M : Mem} {o p : MO} : (M ++ [o]).set M.length p = M ++ [p] := by simp
end K10
set_option Elab.async false
set_option linter.all false
set_option maxRecDepth 100000
set_option maxHeartbeats 4000000
/-! K10: made, the bodies. -/
namespace K10
open PySem PySem.Spec PyProof.Rows L2 LF
theorem okf {f : Str} {c : Str} (h : (itab.lookup c).any (·.contains f) = true) : True := trivial
theorem init_head {M : Mem} {a b c d : D} : f_Head___init__ [.obj M.length, a, b, c, d] (M ++ [.ins "Head" []]) = .ok .non (M ++ [.ins "Head" [("top", a), ("depth", b), ("amount", c), ("free", d)]]) := by
  have p1 := fun r => putAttr_last (r := r) (M := M) (d := a) (ok := okF itab "top") (f := "top") (c := "Head") (fs := []) rfl (by decide)
  have p2 := fun r => putAttr_last (r := r) (M := M) (d := b) (ok := okF itab "depth") (f := "depth") (c := "Head") (fs := putFD "top" a []) rfl (by exact (by decide : (1 : Nat) < 1000))
  have p3 := fun r => putAttr_last (r := r) (M := M) (d := c) (ok := okF itab "amount") (f := "amount") (c := "Head") (fs := putFD "depth" b (putFD "top" a [])) rfl (by exact (by decide : (2 : Nat) < 1000))
  have p4 := fun r => putAttr_last (r := r) (M := M) (d := d) (ok := okF itab "free") (f := "free") (c := "Head") (fs := putFD "amount" c (putFD "depth" b (putFD "top" a []))) rfl (by exact (by decide : (3 : Nat) < 1000))
  simp [f_Head___init__, b_Head___init__, runB_ev, p1, p2, p3, p4]
  rfl
theorem init_leaf {M : Mem} {a : D} : f_Leaf___init__ [.obj M.length, a] (M ++ [.ins "Leaf" []]) = .ok .non (M ++ [.ins "Leaf" [("entries", a)]]) := by
  have p1 := fun r => putAttr_last (r := r) (M := M) (d := a) (ok := okF itab "entries") (f := "entries") (c := "Leaf") (fs := []) rfl (by decide)
  simp [f_Leaf___init__, b_Leaf___init__, runB_ev, p1]
  rfl
theorem init_fork {M : Mem} {a b : D} : f_Fork___init__ [.obj M.length, a, b] (M ++ [.ins "Fork" []]) = .ok .non (M ++ [.ins "Fork" [("parting", a), ("kids", b)]]) := by
  have p1 := fun r => putAttr_last (r := r) (M := M) (d := a) (ok := okF itab "parting") (f := "parting") (c := "Fork") (fs := []) rfl (by decide)
  have p2 := fun r => putAttr_last (r := r) (M := M) (d := b) (ok := okF itab "kids") (f := "kids") (c := "Fork") (fs := putFD "parting" a []) rfl (by exact (by decide : (1 : Nat) < 1000))
  simp [f_Fork___init__, b_Fork___init__, runB_ev, p1, p2]
  rfl
theorem init_rest {M : Mem} {a b : D} : f_Rest___init__ [.obj M.length, a, b] (M ++ [.ins "Rest" []]) = .ok .non (M ++ [.ins "Rest" [("text", a), ("behind", b)]]) := by
  have p1 := fun r => putAttr_last (r := r) (M := M) (d := a) (ok := okF itab "text") (f := "text") (c := "Rest") (fs := []) rfl (by decide)
  have p2 := fun r => putAttr_last (r := r) (M := M) (d := b) (ok := okF itab "behind") (f := "behind") (c := "Rest") (fs := putFD "text" a []) rfl (by exact (by decide : (1 : Nat) < 1000))
  simp [f_Rest___init__, b_Rest___init__, runB_ev, p1, p2]
  rfl
theorem init_free {M : Mem} {a : D} : f_Free___init__ [.obj M.length, a] (M ++ [.ins "Free" []]) = .ok .non (M ++ [.ins "Free" [("behind", a)]]) := by
  have p1 := fun r => putAttr_last (r := r) (M := M) (d := a) (ok := okF itab "behind") (f := "behind") (c := "Free") (fs := []) rfl (by decide)
  simp [f_Free___init__, b_Free___init__, runB_ev, p1]
  rfl
/-! ### made -/
def Sized : Pg → Prop
  | .leaf rows => rows.length ≤ 63
  | .fork keys kids => keys.length ≤ 63 ∧ kids.length ≤ 64
  | _ => True
theorem made_head {M : Mem} {a b c d : Int} (h : Good (.head a b c d)) : f_made [(Pg.head a b c d).toD] M = .ok (.obj M.length) (M ++ [(Pg.head a b c d).obj]) := by
  obtain ⟨h1, h2, h3, h4⟩ := h
  have k := compL_img (t := dYes) (de := c1_made) (r := [some (Pg.head a b c d).toD, none, none, none]) (M := M) (dg := gSlot 1) (f := D.int) (g := fun _ => .bl true) [a, b, c, d] [] (fun n hn => ⟨_, rfl, rfl, by
    have hn : NumOk 0 n := by
      simp only [List.mem_cons, List.mem_nil_iff, or_false] at hn
      rcases hn with rfl | rfl | rfl | rfl <;> assumption
    simp [c1_made, is_number_ok (M := M) hn]⟩) (by simp)
  simp [Pg.toD] at k
  have al := all_true (l := [a, b, c, d]) (M := M)
  simp at al
  simp [f_made, b_made, runB_ev, Pg.toD, has_word_ev so_head so_head, bq_head_head, cutN_one, k, al, init_head, Pg.obj]
theorem made_leaf {M : Mem} {rows : List Row} (h : Good (.leaf rows)) : f_made [(Pg.leaf rows).toD] M = .ok (.obj M.length) (M ++ [(Pg.leaf rows).obj]) := by
  obtain ⟨h1, h2⟩ := h
  have hl : rows.length ≤ 63 := by have := h1.many; simpa using this
  have k1 := compL_img (t := dYes) (de := c2_made) (r := [some (Pg.leaf rows).toD, none, none, none]) (M := M) (dg := gSlot 2) (f := rowD) (g := fun _ => .bl true) rows [] (fun n hn => ⟨_, rfl, rfl, by
    simp [c2_made, is_row_ok (M := M) (h1.key n.1 (List.mem_map.mpr ⟨n, hn, rfl⟩)) (h2 n hn)]⟩) (by simp; omega)
  have k2 := compL_img (t := dYes) (de := c3_made) (r := [some (Pg.leaf rows).toD, none, none, none]) (M := M) (dg := gSlot 2) (f := rowD) (g := fun r => keyD r.1) rows [] (fun n hn => ⟨_, rfl, rfl, by
    simp [c3_made, rowD, keyD]⟩) (by simp; omega)
  have k3 := are_keys_ok (M := M) h1
  have e : (rows.map (·.1)).map keyD = rows.map fun r => keyD r.1 := by rw [List.map_map]; rfl
  rw [e] at k3
  rw [List.nil_append] at k1 k2
  simp only [Pg.toD] at k1 k2
  simp [f_made, b_made, runB_ev, Pg.toD, has_word_ev so_leaf so_head, has_word_ev so_leaf so_leaf, bq_leaf_head, bq_leaf_leaf, k1, all_true, k2, k3, init_leaf, Pg.obj]
theorem made_fork {M : Mem} {keys : List (List Nat)} {kids : List Int} (h : Good (.fork keys kids)) : f_made [(Pg.fork keys kids).toD] M = .ok (.obj M.length) (M ++ [(Pg.fork keys kids).obj]) := by
  obtain ⟨h1, h2, h3⟩ := h
  have hl := h1.many
  have k1 := compL_img (t := dYes) (de := c4_made) (r := [some (Pg.fork keys kids).toD, none, none, none]) (M := M) (dg := gSlot 3) (f := D.int) (g := fun _ => .bl true) kids [] (fun n hn => ⟨_, rfl, rfl, by
    simp [c4_made, is_number_ok (M := M) (h2 n hn)]⟩) (by simp; omega)
  have k3 := are_keys_ok (M := M) h1
  have nl : newL false (keys.map keyD) M = .ok (.lst (keys.map keyD)) M := newL_f (by simp; omega)
  have q : ((kids.length : Int) = (keys.length : Int) + 1) := by omega
  rw [List.nil_append] at k1
  simp only [Pg.toD] at k1
  simp [f_made, b_made, runB_ev, Pg.toD, has_word_ev so_fork so_head, has_word_ev so_fork so_leaf, has_word_ev so_fork so_fork, bq_fork_head, bq_fork_leaf, bq_fork_fork, k1, all_true, k3, nl, decide_eq_true q, init_fork, Pg.obj]
theorem made_rest {M : Mem} {t : List Nat} {n : Int} (h : Good (.rest t n)) : f_made [(Pg.rest t n).toD] M = .ok (.obj M.length) (M ++ [(Pg.rest t n).obj]) := by
  obtain ⟨h1, h2, h3, h4⟩ := h
  have so : PyData.strOk (tx t) = true := by
    rw [strOk_tx, List.all_eq_true]
    intro c hc
    have := h1 c hc
    unfold okc at this
    simp at this ⊢
    omega
  have ne : fNe (.str (tx t)) (.str (Str.ofString "")) M = .ok (.bl true) M := by
    rw [fNe_str so (by decide +kernel), tx_empty, tx_beq]
    cases t with
    | nil => simp at h2
    | cons => rfl
  simp [f_made, b_made, runB_ev, Pg.toD, has_word_ev so_rest so_head, has_word_ev so_rest so_leaf, has_word_ev so_rest so_fork, has_word_ev so_rest so_rest, bq_rest_head, bq_rest_leaf, bq_rest_fork, bq_rest_rest, is_value_ok (M := M) h1 h3, ne, is_number_ok h4, init_rest, Pg.obj]
theorem made_free {M : Mem} {n : Int} (h : Good (.free n)) : f_made [(Pg.free n).toD] M = .ok (.obj M.length) (M ++ [(Pg.free n).obj]) := by
  simp [f_made, b_made, runB_ev, Pg.toD, has_word_ev so_free so_head, has_word_ev so_free so_leaf, has_word_ev so_free so_fork, has_word_ev so_free so_rest, has_word_ev so_free so_free, bq_free_head, bq_free_leaf, bq_free_fork, bq_free_rest, bq_free_free, is_number_ok h, init_free, Pg.obj]
theorem made_ok {p : Pg} {M : Mem} (h : Good p) : f_made [p.toD] M = .ok (.obj M.length) (M ++ [p.obj]) := by
  cases p with
  | head a b c d => exact made_head h
  | leaf rows => exact made_leaf h
  | fork keys kids => exact made_fork h
  | rest t n => exact made_rest h
  | free n => exact made_free h
theorem need_page_ok {p : Pg} {M : Mem} (h : Good p) : f_need_page [p.toD] M = .ok (.obj M.length) (M ++ [p.obj]) := by
  simp [f_need_page, b_need_page, runB_ev, made_ok (M := M) h]
end K10
set_option Elab.async false
set_option linter.all false
set_option maxRecDepth 100000
set_option maxHeartbeats 4000000
/-! K10: the bodies, the program's and the law's. -/
namespace K10
open PySem PySem.Spec PyProof.Rows L2 LF
theorem dig1_len (n : Int) : (digL 1 n).length = 1 := rfl
theorem dig2_len (n : Int) : (digL 2 n).length = 2 := rfl
theorem dg1 {n : Int} {M : Mem} (h0 : 0 ≤ n) (h1 : n < 64) : f_digits [.int n, .int 1] M = .ok (.str (tx (digL 1 n))) M := digits_ok n 1 M (.inl rfl) h0 (Int.ediv_eq_zero_of_lt h0 (show n < 64 by omega))
theorem dg2 {n : Int} {M : Mem} (h0 : 0 ≤ n) (h1 : n < 4096) : f_digits [.int n, .int 2] M = .ok (.str (tx (digL 2 n))) M := digits_ok n 2 M (.inr (.inl rfl)) h0 (Int.ediv_eq_zero_of_lt h0 (show n < 4096 by omega))
def keyB (k : List Nat) : List Nat := digL 1 k.length ++ k
def cellB : Cell → List Nat
  | .inn t => 105 :: (digL 1 t.length ++ t)
  | .out a b => 111 :: (digL 2 a ++ digL 2 b)
def rowB (r : Row) : List Nat := keyB r.1 ++ cellB r.2
def bodyL : Pg → List Nat
  | .head a b c d => digL 2 a ++ (digL 2 b ++ (digL 2 c ++ digL 2 d))
  | .leaf rows => digL 1 rows.length ++ (rows.map rowB).flatten
  | .fork keys kids => digL 1 keys.length ++ ((keys.map keyB).flatten ++ (kids.map (digL 2)).flatten)
  | .rest t n => digL 2 n ++ t
  | .free n => digL 2 n
theorem keyB_len {k : List Nat} (h : KeyOk k) : (keyB k).length ≤ 13 := by
  have := h.hi
  simp [keyB, dig1_len]
  omega
theorem cellB_len {c : Cell} (h : CellOk c) : (cellB c).length ≤ 65 := by
  cases c with
  | inn t =>
    have := h.2
    simp [cellB, dig1_len]
    omega
  | out a b => simp [cellB, dig2_len]
theorem flat_le {α : Type} {f : α → List Nat} {m : Nat} : ∀ {l : List α}, (∀ a ∈ l, (f a).length ≤ m) → (l.map f).flatten.length ≤ m * l.length
  | [], _ => by simp
  | a :: l, h => by
    have h1 := h a List.mem_cons_self
    have h2 := flat_le (l := l) fun x hx => h x (List.mem_cons_of_mem _ hx)
    simp only [List.map_cons, List.flatten_cons, List.length_append, List.length_cons, Nat.mul_add]
    omega
theorem i_tx : Str.ofString "i" = tx [105] := by rw [tx_lit]; rfl
theorem o_tx : Str.ofString "o" = tx [111] := by rw [tx_lit]; rfl
theorem key_body_ok {k : List Nat} {M : Mem} (h : KeyOk k) : f_key_body [keyD k] M = .ok (.str (tx (keyB k))) M := by
  have h1 := h.hi
  simp [f_key_body, b_key_body, runB_ev, keyD, fLen_tx (l := k) (M := M) (by omega), dg1 (n := (k.length : Nat)) (M := M) (by omega) (by omega), fAdd_tx (a := digL 1 k.length) (b := k) (M := M) (by simp [dig1_len]; omega), keyB]
theorem cell_body_ok {c : Cell} {M : Mem} (h : CellOk c) : f_cell_body [c.toD] M = .ok (.str (tx (cellB c))) M := by
  cases c with
  | inn t =>
    have h1 := h.2
    have a1 := fAdd_tx (a := [105]) (b := digL 1 t.length) (M := M) (by simp [dig1_len])
    have a2 := fAdd_tx (a := [105] ++ digL 1 t.length) (b := t) (M := M) (by simp [dig1_len]; omega)
    simp only [List.cons_append, List.nil_append] at a1 a2
    simp [f_cell_body, b_cell_body, runB_ev, Cell.toD, lit_eq so_in so_in bq_in_in, fLen_tx (l := t) (M := M) (by omega), dg1 (n := (t.length : Nat)) (M := M) (by omega) (by omega), i_tx, a1, a2, cellB]
  | out a b =>
    obtain ⟨⟨h1, h2⟩, h3, h4⟩ := h
    have a1 := fAdd_tx (a := [111]) (b := digL 2 a) (M := M) (by simp [dig2_len])
    have a2 := fAdd_tx (a := [111] ++ digL 2 a) (b := digL 2 b) (M := M) (by simp [dig2_len])
    simp only [List.cons_append, List.nil_append] at a1 a2
    simp [f_cell_body, b_cell_body, runB_ev, Cell.toD, lit_eq so_out so_in bq_out_in, dg2 (n := a) (M := M) (by omega) (by omega), dg2 (n := b) (M := M) (by omega) (by omega), o_tx, a1, a2, cellB]
theorem body_head {M : Mem} {n : Nat} {a b c d : Int} (hM : M[n]? = some (Pg.head a b c d).obj) (h : Good (.head a b c d)) : f_Head_body [.obj n] M = .ok (.str (tx (bodyL (.head a b c d)))) M := by
  obtain ⟨h1, h2, h3, h4⟩ := h
  have g1 := fAttr_of (f := "top") (d := .int a) (ok := okF itab "top") hM rfl rfl
  have g2 := fAttr_of (f := "depth") (d := .int b) (ok := okF itab "depth") hM rfl rfl
  have g3 := fAttr_of (f := "amount") (d := .int c) (ok := okF itab "amount") hM rfl rfl
  have g4 := fAttr_of (f := "free") (d := .int d) (ok := okF itab "free") hM rfl rfl
  have k := compL_img (t := dYes) (de := c1_Head_body) (r := [some (.obj n), none]) (M := M) (dg := gSlot 1) (f := D.int) (g := fun n => .str (tx (digL 2 n))) [a, b, c, d] [] (fun n hn => ⟨_, rfl, rfl, by
    have hn : NumOk 0 n := by
      simp only [List.mem_cons, List.mem_nil_iff, or_false] at hn
      rcases hn with rfl | rfl | rfl | rfl <;> assumption
    simp [c1_Head_body, dg2 (M := M) hn.1 (by have := hn.2; omega)]⟩) (by simp)
  simp at k
  have j := mJoin_flat (f := digL 2) (l := [a, b, c, d]) (M := M) (by simp [dig2_len])
  simp at j
  simp [f_Head_body, b_Head_body, runB_ev, g1, g2, g3, g4, k, tx_empty, j, bodyL]
theorem body_leaf {M : Mem} {n : Nat} {rows : List Row} (hM : M[n]? = some (Pg.leaf rows).obj) (h : Good (.leaf rows)) : f_Leaf_body [.obj n] M = .ok (.str (tx (bodyL (.leaf rows)))) M := by
  obtain ⟨h1, h2⟩ := h
  have hl : rows.length ≤ 63 := by have := h1.many; simpa using this
  have kl : ∀ r ∈ rows, KeyOk r.1 := fun r hr => h1.key r.1 (List.mem_map.mpr ⟨r, hr, rfl⟩)
  have g1 := fAttr_of (f := "entries") (ok := okF itab "entries") (d := .tup (rows.map rowD)) hM rfl rfl
  have k := compL_img (t := dYes) (de := c1_Leaf_body) (r := [some (.obj n), none, none]) (M := M) (dg := gTupD 2 (gsCons (gSlot 1) (gsCons (gSlot 2) gsNil))) (f := rowD) (g := fun r => .str (tx (rowB r))) rows [] (fun r hr => ⟨_, rfl, rfl, by
    have e1 := keyB_len (kl r hr)
    have e2 := cellB_len (h2 r hr)
    have e3 := key_body_ok (M := M) (kl r hr)
    simp only [keyD] at e3
    simp [c1_Leaf_body, e3, cell_body_ok (M := M) (h2 r hr), fAdd_tx (a := keyB r.1) (b := cellB r.2) (M := M) (by omega), rowB]⟩) (by simp; omega)
  rw [List.nil_append] at k
  have fl : (rows.map rowB).flatten.length ≤ 78 * rows.length := flat_le fun r hr => by
    have e1 := keyB_len (kl r hr)
    have e2 := cellB_len (h2 r hr)
    simp [rowB]
    omega
  have j := mJoin_flat (f := rowB) (l := rows) (M := M) (by omega)
  have a1 := fAdd_tx (a := digL 1 rows.length) (b := (rows.map rowB).flatten) (M := M) (by rw [dig1_len]; omega)
  simp [-List.length_flatten, f_Leaf_body, b_Leaf_body, runB_ev, g1, dg1 (n := (rows.length : Nat)) (M := M) (by omega) (by omega), k, tx_empty, j, a1, bodyL]
theorem body_fork {M : Mem} {n : Nat} {keys : List (List Nat)} {kids : List Int} (hM : M[n]? = some (Pg.fork keys kids).obj) (h : Good (.fork keys kids)) : f_Fork_body [.obj n] M = .ok (.str (tx (bodyL (.fork keys kids)))) M := by
  obtain ⟨h1, h2, h3⟩ := h
  have hl := h1.many
  have g1 := fAttr_of (f := "parting") (ok := okF itab "parting") (d := .tup (keys.map keyD)) hM rfl rfl
  have g2 := fAttr_of (f := "kids") (ok := okF itab "kids") (d := .tup (kids.map .int)) hM rfl rfl
  have k := fun x => compL_img (t := dYes) (de := c1_Fork_body) (r := [some (.obj n), x, none, none]) (M := M) (dg := gSlot 2) (f := keyD) (g := fun r => .str (tx (keyB r))) keys [] (fun r hr => ⟨_, rfl, rfl, by
    simp [c1_Fork_body, key_body_ok (M := M) (h1.key r hr)]⟩) (by simp; omega)
  have k2 := fun x => compL_img (t := dYes) (de := c2_Fork_body) (r := [some (.obj n), x, none, none]) (M := M) (dg := gSlot 3) (f := D.int) (g := fun r => .str (tx (digL 2 r))) kids [] (fun r hr => ⟨_, rfl, rfl, by
    have hn := h2 r hr
    simp [c2_Fork_body, dg2 (M := M) (n := r) (by have := hn.1; omega) (by have := hn.2; omega)]⟩) (by simp; omega)
  simp only [List.nil_append] at k k2
  have fl : (keys.map keyB).flatten.length ≤ 13 * keys.length := flat_le fun r hr => keyB_len (h1.key r hr)
  have fl2 : (kids.map (digL 2)).flatten.length ≤ 2 * kids.length := flat_le fun r hr => Nat.le_refl _
  have j := mJoin_flat (f := keyB) (l := keys) (M := M) (by omega)
  have j2 := mJoin_flat (f := digL 2) (l := kids) (M := M) (by omega)
  have a1 := fAdd_tx (a := digL 1 keys.length) (b := (keys.map keyB).flatten) (M := M) (by rw [dig1_len]; omega)
  have a2 := fAdd_tx (a := digL 1 keys.length ++ (keys.map keyB).flatten) (b := (kids.map (digL 2)).flatten) (M := M) (by rw [List.length_append, dig1_len]; omega)
  rw [List.append_assoc] at a2
  simp [-List.length_flatten, f_Fork_body, b_Fork_body, runB_ev, g1, g2, dg1 (n := (keys.length : Nat)) (M := M) (by omega) (by omega), k, k2, tx_empty, j, j2, a1, a2, bodyL]
theorem body_rest {M : Mem} {n : Nat} {t : List Nat} {m : Int} (hM : M[n]? = some (Pg.rest t m).obj) (h : Good (.rest t m)) : f_Rest_body [.obj n] M = .ok (.str (tx (bodyL (.rest t m)))) M := by
  obtain ⟨h1, h2, h3, h4, h5⟩ := h
  have g1 := fAttr_of (f := "text") (ok := okF itab "text") (d := .str (tx t)) hM rfl rfl
  have g2 := fAttr_of (f := "behind") (ok := okF itab "behind") (d := .int m) hM rfl rfl
  have a1 := fAdd_tx (a := digL 2 m) (b := t) (M := M) (by rw [dig2_len]; omega)
  simp [f_Rest_body, b_Rest_body, runB_ev, g1, g2, dg2 (n := m) (M := M) (by omega) (by omega), a1, bodyL]
theorem body_free {M : Mem} {n : Nat} {m : Int} (hM : M[n]? = some (Pg.free m).obj) (h : Good (.free m)) : f_Free_body [.obj n] M = .ok (.str (tx (bodyL (.free m)))) M := by
  obtain ⟨h4, h5⟩ := h
  have g2 := fAttr_of (f := "behind") (ok := okF itab "behind") (d := .int m) hM rfl rfl
  simp [f_Free_body, b_Free_body, runB_ev, g2, dg2 (n := m) (M := M) (by omega) (by omega), bodyL]
theorem body_meth {M : Mem} {n : Nat} {p : Pg} {r : Env'} (hM : M[n]? = some p.obj) (h : Good p) : methK1 "body" mt_body (.ok (.obj n) M) dNil r = .ok (.str (tx (bodyL p))) M := by
  cases p with
  | head a b c d =>
    rw [methK1_of (F := f_Head_body) (k := 1) hM rfl rfl]
    simp [body_head hM h]
  | leaf rows =>
    rw [methK1_of (F := f_Leaf_body) (k := 1) hM rfl rfl]
    simp [body_leaf hM h]
  | fork keys kids =>
    rw [methK1_of (F := f_Fork_body) (k := 1) hM rfl rfl]
    simp [body_fork hM h]
  | rest t n =>
    rw [methK1_of (F := f_Rest_body) (k := 1) hM rfl rfl]
    simp [body_rest hM h]
  | free n =>
    rw [methK1_of (F := f_Free_body) (k := 1) hM rfl rfl]
    simp [body_free hM h]
theorem body_of_ok {p : Pg} {M : Mem} (h : Good p) : f_body_of [p.toD] M = .ok (.str (tx (bodyL p))) (M ++ [p.obj]) := by
  have b := fun r => body_meth (r := r) (n := M.length) (M := M ++ [p.obj]) (p := p) last_at h
  simp [f_body_of, b_body_of, runB_ev, need_page_ok (M := M) h, b]
end K10
set_option Elab.async false
set_option linter.all false
set_option maxRecDepth 100000
set_option maxHeartbeats 4000000
/-! K10: the texts, the refusals. -/
namespace K10
open PySem PySem.Spec PyProof.Rows L2 LF
def RowOk (r : Row) : Prop := KeyOk r.1 ∧ CellOk r.2
theorem rowB_len {r : Row} (h : RowOk r) : (rowB r).length ≤ 78 := by
  have e1 := keyB_len h.1
  have e2 := cellB_len h.2
  simp [rowB]
  omega
theorem mul_tx (c : Nat) (n : Int) : Txt.mul (tx [c]) n = tx (List.replicate n.toNat c) := TL.ext_tl (mul_one_list c n)
def letterN : Pg → Nat
  | .head .. => 104
  | .leaf .. => 108
  | .fork .. => 102
  | .rest .. => 114
  | .free .. => 101
def headL (p : Pg) : List Nat := letterN p :: (digL 2 (bodyL p).length ++ bodyL p)
def padL (p : Pg) (sz : Nat) : List Nat := headL p ++ List.replicate (sz - 2 - (headL p).length) 48
def textL (p : Pg) (sz : Nat) : List Nat := padL p sz ++ digL 2 (wS 0 (padL p sz) % 4093)
theorem headL_len (p : Pg) : (headL p).length = (bodyL p).length + 3 := by simp [headL, dig2_len]; omega
structure Fit (p : Pg) (sz : Nat) : Prop where
  lo : 64 ≤ sz
  hi : sz ≤ 200
  room : (bodyL p).length + 5 ≤ sz
theorem padL_len {p : Pg} {sz : Nat} (h : Fit p sz) : (padL p sz).length = sz - 2 := by
  have h1 := h.room
  have h2 := headL_len p
  simp [padL, h2]
  omega
theorem textL_len {p : Pg} {sz : Nat} (h : Fit p sz) : (textL p sz).length = sz := by
  have h1 := padL_len h
  have h2 := h.lo
  simp [textL, h1, dig2_len]
  omega
theorem sgN_ok (n : Int) : okc (sgN (n % 64)) = true := by
  have h := (sg_mem (i := n % 64) (by omega) (by omega)).1
  have : ∀ c ∈ SL, okc c = true := by decide +kernel
  exact this _ h
theorem dig_ok (m n : Int) : TxtOk (digL m n) := by
  intro c hc
  unfold digL at hc
  split at hc
  · simp at hc
    subst hc
    exact sgN_ok n
  · split at hc <;> simp at hc
    · rcases hc with rfl | rfl <;> exact sgN_ok _
    · rcases hc with rfl | rfl | rfl <;> exact sgN_ok _
theorem TxtOk.app {a b : List Nat} (h1 : TxtOk a) (h2 : TxtOk b) : TxtOk (a ++ b) := fun c hc => by
  rcases List.mem_append.mp hc with h | h
  · exact h1 c h
  · exact h2 c h
theorem TxtOk.cons {c : Nat} {b : List Nat} (h1 : okc c = true) (h2 : TxtOk b) : TxtOk (c :: b) := fun d hd => by
  rcases List.mem_cons.mp hd with rfl | h
  · exact h1
  · exact h2 d h
theorem TxtOk.flat {α : Type} {f : α → List Nat} {l : List α} (h : ∀ a ∈ l, TxtOk (f a)) : TxtOk (l.map f).flatten := fun c hc => by
  obtain ⟨x, hx, hcx⟩ := List.mem_flatten.mp hc
  obtain ⟨a, ha, rfl⟩ := List.mem_map.mp hx
  exact h a ha c hcx
theorem keyB_ok {k : List Nat} (h : KeyOk k) : TxtOk (keyB k) := (dig_ok 1 _).app h.t
theorem cellB_ok {c : Cell} (h : CellOk c) : TxtOk (cellB c) := by
  cases c with
  | inn t => exact TxtOk.cons rfl ((dig_ok 1 _).app h.1)
  | out a b => exact TxtOk.cons rfl ((dig_ok 2 _).app (dig_ok 2 _))
theorem bodyL_ok {p : Pg} (h : Good p) : TxtOk (bodyL p) := by
  cases p with
  | head a b c d => exact (dig_ok 2 _).app ((dig_ok 2 _).app ((dig_ok 2 _).app (dig_ok 2 _)))
  | leaf rows => exact (dig_ok 1 _).app (TxtOk.flat fun r hr => (keyB_ok (h.1.key r.1 (List.mem_map.mpr ⟨r, hr, rfl⟩))).app (cellB_ok (h.2 r hr)))
  | fork keys kids => exact (dig_ok 1 _).app ((TxtOk.flat fun r hr => keyB_ok (h.1.key r hr)).app (TxtOk.flat fun r hr => dig_ok 2 _))
  | rest t n => exact (dig_ok 2 _).app h.1
  | free n => exact dig_ok 2 _
theorem padL_ok {p : Pg} {sz : Nat} (h : Good p) : TxtOk (padL p sz) := by
  refine TxtOk.app (TxtOk.cons ?_ ((dig_ok 2 _).app (bodyL_ok h))) fun c hc => ?_
  · cases p <;> rfl
  · rw [List.eq_of_mem_replicate hc]
    rfl
theorem okc_al {c : Nat} (h : okc c = true) : c ∈ AL := by
  have hk : c < 127 := by
    unfold okc at h
    simp at h
    omega
  have : ∀ k : Fin 127, okc k.val = true → k.val ∈ AL := by decide +kernel
  exact this ⟨c, hk⟩ h
/-! ### the program's -/
theorem letter_meth {M : Mem} {n : Nat} {p : Pg} {r : Env'} (hM : M[n]? = some p.obj) : methK1 "letter" mt_letter (.ok (.obj n) M) dNil r = .ok (.str (tx [letterN p])) M := by
  cases p with
  | head a b c d =>
    rw [methK1_of (F := f_Head_letter) (k := 1) hM rfl rfl]
    have e : Str.ofString "h" = tx [104] := by rw [tx_lit]; rfl
    simp [f_Head_letter, b_Head_letter, runB_ev, e, letterN]
  | leaf rows =>
    rw [methK1_of (F := f_Leaf_letter) (k := 1) hM rfl rfl]
    have e : Str.ofString "l" = tx [108] := by rw [tx_lit]; rfl
    simp [f_Leaf_letter, b_Leaf_letter, runB_ev, e, letterN]
  | fork keys kids =>
    rw [methK1_of (F := f_Fork_letter) (k := 1) hM rfl rfl]
    have e : Str.ofString "f" = tx [102] := by rw [tx_lit]; rfl
    simp [f_Fork_letter, b_Fork_letter, runB_ev, e, letterN]
  | rest t n =>
    rw [methK1_of (F := f_Rest_letter) (k := 1) hM rfl rfl]
    have e : Str.ofString "r" = tx [114] := by rw [tx_lit]; rfl
    simp [f_Rest_letter, b_Rest_letter, runB_ev, e, letterN]
  | free n =>
    rw [methK1_of (F := f_Free_letter) (k := 1) hM rfl rfl]
    have e : Str.ofString "e" = tx [101] := by rw [tx_lit]; rfl
    simp [f_Free_letter, b_Free_letter, runB_ev, e, letterN]
theorem need_size_ok {sz : Nat} {M : Mem} (h0 : 64 ≤ sz) (h1 : sz ≤ 200) : f_need_size [.int (sz : Nat)] M = .ok .non M := by
  have a1 : (64 : Int) ≤ (sz : Nat) := by omega
  have a2 : ((sz : Nat) : Int) ≤ 200 := by omega
  have e : f_is_size [.int (sz : Nat)] M = .ok (.bl true) M := by simp [f_is_size, b_is_size, runB_ev, is_whole_int, decide_eq_true a1, decide_eq_true a2]
  simp [f_need_size, b_need_size, runB_ev, e]
theorem zero_tx : Str.ofString "0" = tx [48] := by rw [tx_lit]; rfl
theorem bodyL_len {p : Pg} (h : Good p) : (bodyL p).length ≤ 6000 := by
  cases p with
  | head a b c d => simp [bodyL, dig2_len]
  | leaf rows =>
    have hl : rows.length ≤ 63 := by have := h.1.many; simpa using this
    have fl : (rows.map rowB).flatten.length ≤ 78 * rows.length := flat_le fun r hr => rowB_len ⟨h.1.key r.1 (List.mem_map.mpr ⟨r, hr, rfl⟩), h.2 r hr⟩
    rw [bodyL, List.length_append, dig1_len]
    omega
  | fork keys kids =>
    have hl := h.1.many
    have h3 := h.2.2
    have fl : (keys.map keyB).flatten.length ≤ 13 * keys.length := flat_le fun r hr => keyB_len (h.1.key r hr)
    have fl2 : (kids.map (digL 2)).flatten.length ≤ 2 * kids.length := flat_le fun r hr => Nat.le_refl _
    rw [bodyL, List.length_append, List.length_append, dig1_len]
    omega
  | rest t n =>
    have := h.2.2.1
    simp [bodyL, dig2_len]
    omega
  | free n => simp [bodyL, dig2_len]
theorem page_text_ok {p : Pg} {sz : Nat} {M : Mem} (h : Good p) (f : Fit p sz) : f_page_text [p.toD, .int (sz : Nat)] M = .ok (.str (tx (textL p sz))) (M ++ [p.obj]) := by
  obtain ⟨f1, f2, f3⟩ := f
  have b := fun r => body_meth (r := r) (n := M.length) (M := M ++ [p.obj]) (p := p) last_at h
  have lt := fun r => letter_meth (r := r) (n := M.length) (M := M ++ [p.obj]) (p := p) last_at
  have hg : ¬ ((sz : Int) - 5 < (bodyL p).length) := by omega
  have a1 := fAdd_tx (M := M ++ [p.obj]) (a := [letterN p]) (b := digL 2 (bodyL p).length) (by simp [dig2_len])
  have a2 := fAdd_tx (M := M ++ [p.obj]) (a := [letterN p] ++ digL 2 (bodyL p).length) (b := bodyL p) (by simp [dig2_len]; omega)
  simp only [List.cons_append, List.nil_append] at a1 a2
  have hl := headL_len p
  have a3 := fLen_tx (M := M ++ [p.obj]) (l := headL p) (by omega)
  have e : ((sz : Int) - 2 - (headL p).length).toNat = sz - 2 - (headL p).length := by omega
  have a4 := fRep_str (M := M ++ [p.obj]) (ar := false) (s := tx [48]) (j := (sz : Int) - 2 - (headL p).length) (by omega) (by omega) (by rw [tx_len, e]; simp; omega)
  rw [mul_tx, e] at a4
  have a5 := fAdd_tx (M := M ++ [p.obj]) (a := headL p) (b := List.replicate (sz - 2 - (headL p).length) 48) (by simp; omega)
  have pl := padL_len ⟨f1, f2, f3⟩
  have a6 := check_ok (padL p sz) (M ++ [p.obj]) (by omega) (List.all_eq_true.mpr (padL_ok h))
  have a7 := fAdd_tx (M := M ++ [p.obj]) (a := padL p sz) (b := digL 2 (wS 0 (padL p sz) % 4093)) (by rw [dig2_len]; omega)
  have e0 : letterN p :: (digL 2 (bodyL p).length ++ bodyL p) = headL p := rfl
  have e1 : headL p ++ List.replicate (sz - 2 - (headL p).length) 48 = padL p sz := rfl
  rw [e0] at a2
  rw [e1] at a5
  simp [f_page_text, b_page_text, runB_ev, need_page_ok (M := M) h, need_size_ok f1 f2, b, lt, fLen_tx (M := M ++ [p.obj]) (l := bodyL p) (by omega), decide_eq_false hg, dg2 (n := ((bodyL p).length : Nat)) (M := M ++ [p.obj]) (by omega) (by omega), a1, a2, a3, zero_tx, a4, a5, a6, a7, textL]
theorem page_text_long {p : Pg} {sz : Nat} {M : Mem} (h : Good p) (h0 : 64 ≤ sz) (h1 : sz ≤ 200) (h2 : sz < (bodyL p).length + 5) : f_page_text [p.toD, .int (sz : Nat)] M = .ex ⟨"BadPage", ["number"], [.non]⟩ (M ++ [p.obj]) := by
  have b := fun r => body_meth (r := r) (n := M.length) (M := M ++ [p.obj]) (p := p) last_at h
  have hb := bodyL_len h
  have hg : ((sz : Int) - 5 < (bodyL p).length) := by omega
  simp [f_page_text, b_page_text, runB_ev, need_page_ok (M := M) h, need_size_ok h0 h1, b, fLen_tx (M := M ++ [p.obj]) (l := bodyL p) (by omega), decide_eq_true hg]
/-! ### the law's -/
end K10
set_option Elab.async false
set_option linter.all false
set_option maxRecDepth 100000
set_option maxHeartbeats 4000000
/-! K10: texts are read: signs, figures, keys, cells. -/
namespace K10
open PySem PySem.Spec PyProof.Rows L2 LF
/-! ### numbers -/
theorem find_sgn {i : Int} (h0 : 0 ≤ i) (h1 : i < 64) : Txt.find c_SIGNS (tx [sgN i]) = i := by
  have h := sg_mem h0 h1
  rw [c_tx, find_tx, if_pos h.1, h.2]
theorem num1 {n : Int} {M : Mem} (h0 : 0 ≤ n) (h1 : n < 64) : f_number_of [.str (tx (digL 1 n))] M = .ok (.int n) M := by
  have e : n % 64 = n := by omega
  have f := find_sgn h0 h1
  have o : Builtin.bitOr 0 n = n := by have := or_six (a := 0) (b := n) (by omega) h0 h1; simpa using this
  have ln := fLen_tx (l := [sgN n]) (M := M) (by simp)
  simp only [List.length_cons, List.length_nil] at ln
  simp [f_number_of, b_number_of, l1_number_of, runB_ev, digL, e, ln, signs_tx, f, decide_eq_false (show ¬ n < 0 by omega), fShl_int, o]
theorem num2 {n : Int} {M : Mem} (h0 : 0 ≤ n) (h1 : n < 4096) : f_number_of [.str (tx (digL 2 n))] M = .ok (.int n) M := by
  have f1 := find_sgn (i := n / 64 % 64) (by omega) (by omega)
  have f2 := find_sgn (i := n % 64) (by omega) (by omega)
  have o1 : Builtin.bitOr 0 (n / 64 % 64) = n / 64 % 64 := by have := or_six (a := 0) (b := n / 64 % 64) (by omega) (by omega) (by omega); simpa using this
  have o2 : Builtin.bitOr (n / 64 % 64 * 64) (n % 64) = n := by rw [or_six (by omega) (by omega) (by omega)]; omega
  have ln := fLen_tx (l := [sgN (n / 64 % 64), sgN (n % 64)]) (M := M) (by simp)
  simp only [List.length_cons, List.length_nil] at ln
  have s1 := fShl_int (M := M) (i := n / 64 % 64) (j := 6) (by omega) (by omega) (by omega) (by omega)
  simp at s1
  simp [f_number_of, b_number_of, l1_number_of, runB_ev, digL, ln, signs_tx, f1, f2, decide_eq_false (show ¬ n / 64 % 64 < 0 by omega), decide_eq_false (show ¬ n % 64 < 0 by omega), fShl_int, s1, o1, o2]
/-! ### the parts -/
def PO (l : List Nat) (i : Nat) : MO := .ins "Parts" [("text", .str (tx l)), ("place", .int (i : Nat))]
def Has (l : List Nat) (i : Nat) (w : List Nat) : Prop := ∃ s, l.drop i = w ++ s
theorem Has.left {l : List Nat} {i : Nat} {a b : List Nat} (h : Has l i (a ++ b)) : Has l i a := by
  obtain ⟨s, e⟩ := h
  exact ⟨b ++ s, by rw [e, List.append_assoc]⟩
theorem Has.right {l : List Nat} {i : Nat} {a b : List Nat} (h : Has l i (a ++ b)) : Has l (i + a.length) b := by
  obtain ⟨s, e⟩ := h
  refine ⟨s, ?_⟩
  rw [← List.drop_drop, e, List.append_assoc, List.drop_left]
theorem Has.len {l : List Nat} {i : Nat} {w : List Nat} (h : Has l i w) : w = [] ∨ i + w.length ≤ l.length := by
  obtain ⟨s, e⟩ := h
  have := congrArg List.length e
  simp at this
  cases w with
  | nil => exact .inl rfl
  | cons => right; simp at this ⊢; omega
theorem Has.cut {l : List Nat} {i : Nat} {w : List Nat} (h : Has l i w) (hi : i + w.length ≤ l.length) : cutN l (some (i : Int)) (some ((i : Int) + (w.length : Int))) = w := by
  obtain ⟨s, e⟩ := h
  unfold cutN
  rw [show (i : Int) + (w.length : Int) = ((i + w.length : Nat) : Int) by omega, HT.sIx_nat, HT.sIx_nat, Nat.min_eq_left hi, Nat.min_eq_left (show i ≤ l.length by omega), e, Nat.add_sub_cancel_left]
  simp
theorem signs_ok {M : Mem} {n i : Nat} {l w : List Nat} (hM : M[n]? = some (PO l i)) (h : Has l i w) (hi : i + w.length ≤ l.length) (hl : l.length ≤ 1000) : f_Parts_signs [.obj n, .int (w.length : Nat)] M = .ok (.str (tx w)) (M.set n (PO l (i + w.length))) := by
  have g1 := fAttr_of (f := "text") (d := .str (tx l)) (ok := okF itab "text") hM rfl rfl
  have g2 := fAttr_of (f := "place") (d := .int (i : Nat)) (ok := okF itab "place") hM rfl rfl
  have sl := fSl_tx (M := M) (l := l) (lo := some (i : Int)) (hi := some ((i : Int) + (w.length : Int))) (by omega)
  rw [h.cut hi] at sl
  have pa := fun r => putAttr_of (r := r) (f := "place") (d := .int ((i : Int) + (w.length : Int))) (ok := okF itab "place") hM rfl (by exact (by decide : (2 : Nat) < 1000))
  have pe : MO.ins "Parts" (putFD "place" (.int ((i : Int) + (w.length : Int))) [("text", .str (tx l)), ("place", .int (i : Nat))]) = PO l (i + w.length) := by
    have : putFD "place" (.int ((i : Int) + (w.length : Int))) ([("text", .str (tx l)), ("place", .int (i : Nat))] : List (Str × D)) = ([("text", .str (tx l)), ("place", .int ((i : Int) + (w.length : Int)))] : List (Str × D)) := rfl
    rw [this]
    unfold PO
    rw [show (i : Int) + (w.length : Int) = ((i + w.length : Nat) : Int) by omega]
  rw [pe] at pa
  simp [f_Parts_signs, b_Parts_signs, runB_ev, g1, g2, sl, fLen_tx (l := w) (M := M) (by omega), pa]
/-- the memory while the text is read -/
abbrev S (M : Mem) (n : Nat) (l : List Nat) (i : Nat) : Mem := M.set n (PO l i)
section
variable {M : Mem} {n i : Nat} {l w : List Nat} {r : Env'}
theorem S_at (hn : n < M.length) : (S M n l i)[n]? = some (PO l i) := List.getElem?_set_self hn
theorem signs_S (hn : n < M.length) (h : Has l i w) (hi : i + w.length ≤ l.length) (hl : l.length ≤ 1000) {m : Int} (hm : m = (w.length : Nat)) : methK1 "signs" mt_signs (.ok (.obj n) (S M n l i)) (dCons (dC (.int m)) dNil) r = .ok (.str (tx w)) (S M n l (i + w.length)) := by
  rw [methK1_of (F := f_Parts_signs) (k := 2) (S_at hn) rfl rfl]
  subst hm
  have := signs_ok (S_at (i := i) (l := l) hn) h hi hl
  simp [this]
/-- figure(1), figure(2) -/
theorem fig_S (hn : n < M.length) {m : Int} {x : Int} (hm : m = 1 ∨ m = 2) (h0 : 0 ≤ x) (h1 : x < 2 ^ (6 * m.toNat)) (h : Has l i (digL m x)) (hi : i + m.toNat ≤ l.length) (hl : l.length ≤ 1000) : methK1 "figure" mt_figure (.ok (.obj n) (S M n l i)) (dCons (dC (.int m)) dNil) r = .ok (.int x) (S M n l (i + m.toNat)) := by
  rw [methK1_of (F := f_Parts_figure) (k := 2) (S_at hn) rfl rfl]
  rcases hm with rfl | rfl
  · have s := signs_S (r := [some (.obj n), some (.int 1), none]) (M := M) (n := n) (i := i) (l := l) (w := digL 1 x) hn h (by rw [dig1_len]; exact hi) hl (m := 1) rfl
    rw [dig1_len] at s
    have nn := num1 (n := x) (M := S M n l (i + 1)) h0 (by simpa using h1)
    simp [f_Parts_figure, b_Parts_figure, runB_ev]
    rw [methK1_of (F := f_Parts_signs) (k := 2) (S_at hn) rfl rfl] at s ⊢
    simp at s ⊢
    rw [s]
    simp [nn]
  · have s := signs_S (r := [some (.obj n), some (.int 2), none]) (M := M) (n := n) (i := i) (l := l) (w := digL 2 x) hn h (by rw [dig2_len]; exact hi) hl (m := 2) rfl
    rw [dig2_len] at s
    have nn := num2 (n := x) (M := S M n l (i + 2)) h0 (by simpa using h1)
    simp [f_Parts_figure, b_Parts_figure, runB_ev]
    rw [methK1_of (F := f_Parts_signs) (k := 2) (S_at hn) rfl rfl] at s ⊢
    simp at s ⊢
    rw [s]
    simp [nn]
end
end K10
set_option Elab.async false
set_option linter.all false
set_option maxRecDepth 100000
set_option maxHeartbeats 4000000
/-! K10: keys, cells, shapes are read. -/
namespace K10
open PySem PySem.Spec PyProof.Rows L2 LF
section
variable {N : Mem} {n i : Nat} {l : List Nat} {da : DA} {r : Env'}
theorem mk_signs (h : N[n]? = some (PO l i)) : methK1 "signs" mt_signs (.ok (.obj n) N) da r = methK2 f_Parts_signs 2 (.obj n) (da r N) := methK1_of h rfl rfl
theorem mk_figure (h : N[n]? = some (PO l i)) : methK1 "figure" mt_figure (.ok (.obj n) N) da r = methK2 f_Parts_figure 2 (.obj n) (da r N) := methK1_of h rfl rfl
theorem mk_others (h : N[n]? = some (PO l i)) : methK1 "others" mt_others (.ok (.obj n) N) da r = methK2 f_Parts_others 1 (.obj n) (da r N) := methK1_of h rfl rfl
end
section
variable {M : Mem} {n i : Nat} {l w : List Nat}
theorem fs_S (hn : n < M.length) (hl : l.length ≤ 1000) (h : Has l i w) (hi : i + w.length ≤ l.length) : f_Parts_signs [.obj n, .int (w.length : Nat)] (S M n l i) = .ok (.str (tx w)) (S M n l (i + w.length)) := by
  rw [signs_ok (S_at hn) h hi hl]
  simp
theorem ff1_S (hn : n < M.length) (hl : l.length ≤ 1000) {x : Int} (h0 : 0 ≤ x) (h1 : x < 64) (h : Has l i (digL 1 x)) (hi : i + 1 ≤ l.length) : f_Parts_figure [.obj n, .int 1] (S M n l i) = .ok (.int x) (S M n l (i + 1)) := by
  have s : f_Parts_signs [.obj n, .int 1] (S M n l i) = .ok (.str (tx (digL 1 x))) (S M n l (i + 1)) := fs_S (w := digL 1 x) hn hl h (by rw [dig1_len]; exact hi)
  have nn := num1 (n := x) (M := S M n l (i + 1)) h0 h1
  have g0 := S_at (l := l) (i := i) hn
  generalize S M n l i = N0 at *
  generalize S M n l (i + 1) = N1 at *
  simp [f_Parts_figure, b_Parts_figure, runB_ev, mk_signs g0, s, nn]
theorem ff2_S (hn : n < M.length) (hl : l.length ≤ 1000) {x : Int} (h0 : 0 ≤ x) (h1 : x < 4096) (h : Has l i (digL 2 x)) (hi : i + 2 ≤ l.length) : f_Parts_figure [.obj n, .int 2] (S M n l i) = .ok (.int x) (S M n l (i + 2)) := by
  have s : f_Parts_signs [.obj n, .int 2] (S M n l i) = .ok (.str (tx (digL 2 x))) (S M n l (i + 2)) := fs_S (w := digL 2 x) hn hl h (by rw [dig2_len]; exact hi)
  have nn := num2 (n := x) (M := S M n l (i + 2)) h0 h1
  have g0 := S_at (l := l) (i := i) hn
  generalize S M n l i = N0 at *
  generalize S M n l (i + 2) = N1 at *
  simp [f_Parts_figure, b_Parts_figure, runB_ev, mk_signs g0, s, nn]
theorem key_in_ok (hn : n < M.length) (hl : l.length ≤ 1000) {k : List Nat} (hk : KeyOk k) (h : Has l i (keyB k)) (hi : i + (keyB k).length ≤ l.length) : f_key_in [.obj n] (S M n l i) = .ok (keyD k) (S M n l (i + (keyB k).length)) := by
  have e : (keyB k).length = 1 + k.length := by simp [keyB, dig1_len]
  rw [e] at hi ⊢
  have fg := ff1_S (x := (k.length : Nat)) hn hl (by omega) (by have := hk.hi; omega) h.left (by omega)
  have h2 : Has l (i + 1) k := h.right
  have sg := fs_S hn hl h2 (by omega)
  rw [show i + 1 + k.length = i + (1 + k.length) by omega] at sg
  have g0 := S_at (l := l) (i := i) hn
  have g1 := S_at (l := l) (i := i + 1) hn
  generalize S M n l i = N0 at *
  generalize S M n l (i + 1) = N1 at *
  generalize S M n l (i + (1 + k.length)) = N2 at *
  simp [f_key_in, b_key_in, runB_ev, mk_signs g0, mk_signs g1, mk_figure g0, fg, sg, keyD]
theorem so_i : PyData.strOk (Str.ofString "i") = true := by decide +kernel
theorem so_o : PyData.strOk (Str.ofString "o") = true := by decide +kernel
theorem cell_in_ok (hn : n < M.length) (hl : l.length ≤ 1000) {c : Cell} (hc : CellOk c) (h : Has l i (cellB c)) (hi : i + (cellB c).length ≤ l.length) : f_cell_in [.obj n] (S M n l i) = .ok c.toD (S M n l (i + (cellB c).length)) := by
  cases c with
  | inn t =>
    have e : (cellB (.inn t)).length = 2 + t.length := by simp [cellB, dig1_len]; omega
    rw [e] at hi ⊢
    have h : Has l i ([105] ++ (digL 1 t.length ++ t)) := h
    have s0 : f_Parts_signs [.obj n, .int 1] (S M n l i) = .ok (.str (tx [105])) (S M n l (i + 1)) := fs_S (w := [105]) hn hl h.left (by simp; omega)
    have h1 : Has l (i + 1) (digL 1 t.length ++ t) := h.right
    have fg := ff1_S (x := (t.length : Nat)) hn hl (by omega) (by have := hc.2; omega) h1.left (by omega)
    have h2 : Has l (i + 1 + 1) t := h1.right
    have sg := fs_S hn hl h2 (by omega)
    rw [show i + 1 + 1 + t.length = i + (2 + t.length) by omega] at sg
    have g0 := S_at (l := l) (i := i) hn
    have g1 := S_at (l := l) (i := i + 1) hn
    have g2 := S_at (l := l) (i := i + 1 + 1) hn
    have q : fEq (.str (tx [105])) (.str (Str.ofString "i")) (S M n l (i + 1)) = .ok (.bl true) (S M n l (i + 1)) := by
      rw [i_tx]
      exact fEq_same (by rw [lay_str, ← i_tx]; exact so_i)
    generalize S M n l i = N0 at *
    generalize S M n l (i + 1 + 1) = N2 at *
    generalize S M n l (i + 1) = N1 at *
    generalize S M n l (i + (2 + t.length)) = N3 at *
    simp [f_cell_in, b_cell_in, runB_ev, mk_signs g0, mk_signs g1, mk_signs g2, mk_figure g1, s0, q, fg, sg, Cell.toD]
  | out a b =>
    obtain ⟨⟨a0, a1⟩, b0, b1⟩ := hc
    have e : (cellB (.out a b)).length = 5 := by simp [cellB, dig2_len]
    rw [e] at hi ⊢
    have h : Has l i ([111] ++ (digL 2 a ++ digL 2 b)) := h
    have s0 : f_Parts_signs [.obj n, .int 1] (S M n l i) = .ok (.str (tx [111])) (S M n l (i + 1)) := fs_S (w := [111]) hn hl h.left (by simp; omega)
    have h1 : Has l (i + 1) (digL 2 a ++ digL 2 b) := h.right
    have fg := ff2_S (x := a) hn hl (by omega) (by omega) h1.left (by omega)
    have h2 : Has l (i + 1 + 2) (digL 2 b) := h1.right
    have fg2 := ff2_S (x := b) hn hl (by omega) (by omega) h2 (by omega)
    rw [show i + 1 + 2 + 2 = i + 5 by omega] at fg2
    have g0 := S_at (l := l) (i := i) hn
    have g1 := S_at (l := l) (i := i + 1) hn
    have g2 := S_at (l := l) (i := i + 1 + 2) hn
    have q : fEq (.str (tx [111])) (.str (Str.ofString "i")) (S M n l (i + 1)) = .ok (.bl false) (S M n l (i + 1)) := by
      rw [← o_tx]
      exact lit_eq so_o so_i (by decide +kernel)
    generalize S M n l i = N0 at *
    generalize S M n l (i + 1 + 2) = N2 at *
    generalize S M n l (i + 1) = N1 at *
    generalize S M n l (i + 5) = N3 at *
    simp [f_cell_in, b_cell_in, runB_ev, mk_signs g0, mk_figure g1, mk_figure g2, s0, q, fg, fg2, Cell.toD]
/-! ### rows of them -/
theorem rows_read (hn : n < M.length) (hl : l.length ≤ 1000) {x0 x2 x3 : Option D} : ∀ (rows : List Row) (ds acc : List D) (i : Nat), (∀ r ∈ rows, RowOk r) → ds.length = rows.length → Has l i ((rows.map rowB).flatten) → i + (rows.map rowB).flatten.length ≤ l.length → acc.length + rows.length ≤ 100000 →
    compL anyM (gSlot 4) dYes c2_shape_in [x0, some (.obj n), x2, x3, none] ds acc (S M n l i) = .ok (acc ++ rows.map rowD) (S M n l (i + (rows.map rowB).flatten.length))
  | [], [], acc, i, _, _, _, _, _ => by simp
  | [], _ :: _, _, _, _, e, _, _, _ => by simp at e
  | _ :: _, [], _, _, _, e, _, _, _ => by simp at e
  | r :: rows, d :: ds, acc, i, hr, e, h, hi, ha => by
    obtain ⟨k1, k2⟩ := hr r List.mem_cons_self
    simp only [List.map_cons, List.flatten_cons, List.length_cons, List.length_append, rowB] at h hi e ha ⊢
    have hA : Has l i (keyB r.1) := h.left.left
    have hB : Has l (i + (keyB r.1).length) (cellB r.2) := h.left.right
    have ki := key_in_ok hn hl k1 hA (by omega)
    have ci := cell_in_ok hn hl k2 hB (by omega)
    have hC := h.right
    rw [List.length_append] at hC
    have ih := rows_read hn hl (x0 := x0) (x2 := x2) (x3 := x3) rows ds (acc ++ [rowD r]) (i + ((keyB r.1).length + (cellB r.2).length)) (fun x hx => hr x (List.mem_cons_of_mem _ hx)) (by omega) hC (by omega) (by simp; omega)
    rw [show i + (keyB r.1).length + (cellB r.2).length = i + ((keyB r.1).length + (cellB r.2).length) by omega] at ci
    have ev : c2_shape_in [x0, some (.obj n), x2, x3, some d] (S M n l i) = .ok (rowD r) (S M n l (i + ((keyB r.1).length + (cellB r.2).length))) := by
      simp only [keyD] at ki
      generalize S M n l (i + (keyB r.1).length) = N1 at *
      simp [c2_shape_in, ki, ci, rowD]
    rw [compL_consA, gSlot_ev, cmpK1_ok, dYes_ev, cmpK2_t]
    simp only [List.set_cons_succ, List.set_cons_zero]
    rw [ev, cmpK3_ok (by omega), ih]
    rw [show i + ((keyB r.1).length + (cellB r.2).length) + (List.map rowB rows).flatten.length = i + ((keyB r.1).length + (cellB r.2).length + (List.map rowB rows).flatten.length) by omega]
    simp
theorem keys_read (hn : n < M.length) (hl : l.length ≤ 1000) {x0 x2 x3 : Option D} : ∀ (keys : List (List Nat)) (ds acc : List D) (i : Nat), (∀ k ∈ keys, KeyOk k) → ds.length = keys.length → Has l i ((keys.map keyB).flatten) → i + (keys.map keyB).flatten.length ≤ l.length → acc.length + keys.length ≤ 100000 →
    compL anyM (gSlot 4) dYes c3_shape_in [x0, some (.obj n), x2, x3, none] ds acc (S M n l i) = .ok (acc ++ keys.map keyD) (S M n l (i + (keys.map keyB).flatten.length))
  | [], [], acc, i, _, _, _, _, _ => by simp
  | [], _ :: _, _, _, _, e, _, _, _ => by simp at e
  | _ :: _, [], _, _, _, e, _, _, _ => by simp at e
  | k :: keys, d :: ds, acc, i, hr, e, h, hi, ha => by
    have k1 := hr k List.mem_cons_self
    simp only [List.map_cons, List.flatten_cons, List.length_cons, List.length_append] at h hi e ha ⊢
    have ki := key_in_ok hn hl k1 h.left (by omega)
    have ih := keys_read hn hl (x0 := x0) (x2 := x2) (x3 := x3) keys ds (acc ++ [keyD k]) (i + (keyB k).length) (fun x hx => hr x (List.mem_cons_of_mem _ hx)) (by omega) h.right (by omega) (by simp; omega)
    have ev : c3_shape_in [x0, some (.obj n), x2, x3, some d] (S M n l i) = .ok (keyD k) (S M n l (i + (keyB k).length)) := by
      generalize S M n l (i + (keyB k).length) = N1 at *
      simp [c3_shape_in, ki]
    rw [compL_consA, gSlot_ev, cmpK1_ok, dYes_ev, cmpK2_t]
    simp only [List.set_cons_succ, List.set_cons_zero]
    rw [ev, cmpK3_ok (by omega), ih]
    rw [show i + (keyB k).length + (List.map keyB keys).flatten.length = i + ((keyB k).length + (List.map keyB keys).flatten.length) by omega]
    simp
theorem nums_read {de : DE} {r : Env'} (hd : ∀ (x : Int) (i : Nat), 0 ≤ x → x < 4096 → Has l i (digL 2 x) → i + 2 ≤ l.length → ∀ d, de (r.set 4 (some d)) (S M n l i) = .ok (.int x) (S M n l (i + 2))) : ∀ (kids : List Int) (ds acc : List D) (i : Nat), (∀ k ∈ kids, 0 ≤ k ∧ k < 4096) → ds.length = kids.length → Has l i ((kids.map (digL 2)).flatten) → i + 2 * kids.length ≤ l.length → acc.length + kids.length ≤ 100000 →
    compL anyM (gSlot 4) dYes de r ds acc (S M n l i) = .ok (acc ++ kids.map .int) (S M n l (i + 2 * kids.length))
  | [], [], acc, i, _, _, _, _, _ => by simp
  | [], _ :: _, _, _, _, e, _, _, _ => by simp at e
  | _ :: _, [], _, _, _, e, _, _, _ => by simp at e
  | k :: kids, d :: ds, acc, i, hr, e, h, hi, ha => by
    obtain ⟨k0, k1⟩ := hr k List.mem_cons_self
    simp only [List.map_cons, List.flatten_cons, List.length_cons, List.length_append] at h hi e ha ⊢
    have ih := nums_read hd kids ds (acc ++ [.int k]) (i + 2) (fun x hx => hr x (List.mem_cons_of_mem _ hx)) (by omega) h.right (by omega) (by simp; omega)
    rw [compL_consA, gSlot_ev, cmpK1_ok, dYes_ev, cmpK2_t, hd k i k0 k1 h.left (by omega) d, cmpK3_ok (by omega), ih]
    rw [show i + 2 + 2 * kids.length = i + 2 * (kids.length + 1) by omega]
    simp
end
end K10
set_option Elab.async false
set_option linter.all false
set_option maxRecDepth 100000
set_option maxHeartbeats 4000000
/-! K10: shapes are read. -/
namespace K10
open PySem PySem.Spec PyProof.Rows L2 LF
theorem itR1K_nat {n : Nat} {M : Mem} (h : n ≤ 100000) : itR1K (.ok (.int (n : Nat)) M) = .ok ⟨irng 0 n, anyM⟩ M := by
  have e := itR1K_ok (M := M) (j := (n : Int)) (by omega) (by omega)
  rw [Int.toNat_natCast] at e
  exact e
theorem dItR1_nat {da : DE} {r : Env'} {n : Nat} {M M1 : Mem} (h : da r M = .ok (.int (n : Nat)) M1) (hn : n ≤ 100000) : dItR1 da r M = .ok ⟨irng 0 n, anyM⟩ M1 := by
  rw [dItR1_ev, h, itR1K_nat hn]
theorem flatK_len (kids : List Int) : (kids.map (digL 2)).flatten.length = 2 * kids.length := by
  induction kids with
  | nil => rfl
  | cons n kids ih =>
    simp only [List.map_cons, List.flatten_cons, List.length_append, dig2_len, ih, List.length_cons]
    omega
theorem one_eq {a : Nat} {s : Str} {c : Nat} {M : Mem} (e : s = tx [c]) (ha : a < 1114112) (hc : c < 1114112) : fEq (.str (tx [a])) (.str s) M = .ok (.bl (decide (a = c))) M := by
  rw [e, fEq_str (by rw [strOk_tx]; simpa using ha) (by rw [strOk_tx]; simpa using hc), tx_beq]
  congr 2
  by_cases h : a = c
  · subst h; simp
  · rw [decide_eq_false h]; simp [h]
theorem h_tx : Str.ofString "h" = tx [104] := by rw [tx_lit]; rfl
theorem l_tx : Str.ofString "l" = tx [108] := by rw [tx_lit]; rfl
theorem f_tx : Str.ofString "f" = tx [102] := by rw [tx_lit]; rfl
theorem r_tx : Str.ofString "r" = tx [114] := by rw [tx_lit]; rfl
section
variable {M : Mem} {n i : Nat} {l w : List Nat}
theorem others_S (hn : n < M.length) (hl : l.length ≤ 1000) (h : Has l i w) (hi : i + w.length = l.length) : f_Parts_others [.obj n] (S M n l i) = .ok (.str (tx w)) (S M n l l.length) := by
  have s := fs_S hn hl h (by omega)
  rw [hi] at s
  have g0 := S_at (l := l) (i := i) hn
  have a1 := fAttr_of (f := "text") (d := .str (tx l)) (ok := okF itab "text") g0 rfl rfl
  have a2 := fAttr_of (f := "place") (d := .int (i : Nat)) (ok := okF itab "place") g0 rfl rfl
  have e : (l.length : Int) - (i : Int) = (w.length : Int) := by omega
  generalize S M n l i = N0 at *
  generalize S M n l l.length = N1 at *
  simp [f_Parts_others, b_Parts_others, runB_ev, mk_signs g0, a1, a2, fLen_tx (l := l) (M := N0) (by omega), e, s]
theorem S_app (hn : n < M.length) {x : MO} : S (M ++ [x]) n l i = S M n l i ++ [x] := List.set_append_left _ _ hn
theorem fork_A {T0 T1 T2 : Mem} {n i : Nat} {l : List Nat} {KT : D} {L : Int} {ds ks : List D} {x0 : Option D} (g0 : T0[n]? = some (PO l i)) (q : f_Parts_figure [.obj n, .int 1] T0 = .ok (.int L) T1) (hr : itR1K (.ok (.int L) T1) = .ok ⟨ds, anyM⟩ T1) (q2 : compL anyM (gSlot 4) dYes c3_shape_in [x0, some (.obj n), none, none, none] ds [] T1 = .ok ks T2) (ft : fTupOf [.lst ks] T2 = .ok KT T2) :
    (dAsg (dCB fTupOf (dCons (dComp (dItR1 (dMeth "figure" mt_figure (dVar 1) (dCons (dC (.int 1)) dNil))) (gSlot 4) dYes c3_shape_in [4]) dNil)) (gSlot 2)) [x0, some (.obj n), none, none, none] T0 = .nx [x0, some (.obj n), some KT, none, none] T2 := by
  simp [-itR1K_ok, -fTupOf_lst, mk_figure g0, q, hr, q2, ft]
theorem fork_B {T2 T3 : Mem} {n : Nat} {KT K2 : D} {L : Int} {ds ks : List D} {x0 : Option D} (fl : fLen [KT] T2 = .ok (.int L) T2) (hr : itR1K (.ok (.int (L + 1)) T2) = .ok ⟨ds, anyM⟩ T2) (q2 : compL anyM (gSlot 4) dYes c4_shape_in [x0, some (.obj n), some KT, none, none] ds [] T2 = .ok ks T3) (ft : fTupOf [.lst ks] T3 = .ok K2 T3) :
    (dRet (dTup (dCons (dC (.str "fork")) (dCons (dVar 2) (dCons (dCB fTupOf (dCons (dComp (dItR1 (dBin fAdd (dCB fLen (dCons (dVar 2) dNil)) (dC (.int 1)))) (gSlot 4) dYes c4_shape_in [4]) dNil)) dNil))))) [x0, some (.obj n), some KT, none, none] T2 = .rt (.tup [.str "fork", KT, K2]) T3 := by
  simp [-itR1K_ok, -fTupOf_lst, fl, hr, q2, ft]
theorem fork_C {T0 T2 T3 : Mem} {n : Nat} {KT K2 : D} (e0 : ∀ N, fEq (.str (tx [102])) (.str (Str.ofString "h")) N = .ok (.bl false) N) (e1 : ∀ N, fEq (.str (tx [102])) (.str (Str.ofString "l")) N = .ok (.bl false) N) (e2 : ∀ N, fEq (.str (tx [102])) (.str (Str.ofString "f")) N = .ok (.bl true) N)
    (sA : (dAsg (dCB fTupOf (dCons (dComp (dItR1 (dMeth "figure" mt_figure (dVar 1) (dCons (dC (.int 1)) dNil))) (gSlot 4) dYes c3_shape_in [4]) dNil)) (gSlot 2)) [some (.str (tx [102])), some (.obj n), none, none, none] T0 = .nx [some (.str (tx [102])), some (.obj n), some KT, none, none] T2)
    (sB : (dRet (dTup (dCons (dC (.str "fork")) (dCons (dVar 2) (dCons (dCB fTupOf (dCons (dComp (dItR1 (dBin fAdd (dCB fLen (dCons (dVar 2) dNil)) (dC (.int 1)))) (gSlot 4) dYes c4_shape_in [4]) dNil)) dNil))))) [some (.str (tx [102])), some (.obj n), some KT, none, none] T2 = .rt (.tup [.str "fork", KT, K2]) T3) : f_shape_in [.str (tx [102]), .obj n] T0 = .ok (.tup [.str "fork", KT, K2]) T3 := by
  simp only [f_shape_in, runB_ev, b_shape_in]
  generalize (dAsg (dCB fTupOf (dCons (dComp (dItR1 (dMeth "figure" mt_figure (dVar 1) (dCons (dC (.int 1)) dNil))) (gSlot 4) dYes c3_shape_in [4]) dNil)) (gSlot 2)) = A at sA ⊢
  generalize (dRet (dTup (dCons (dC (.str "fork")) (dCons (dVar 2) (dCons (dCB fTupOf (dCons (dComp (dItR1 (dBin fAdd (dCB fLen (dCons (dVar 2) dNil)) (dC (.int 1)))) (gSlot 4) dYes c4_shape_in [4]) dNil)) dNil))))) = B at sB ⊢
  simp [e0, e1, e2, sA, sB]
theorem shape_head (hn : n < M.length) {a b c d : Int} (h : Good (.head a b c d)) : ∃ j X, f_shape_in [.str (tx [letterN (.head a b c d)]), .obj n] (S M n (bodyL (.head a b c d)) 0) = .ok (Pg.head a b c d).toD (S M n (bodyL (.head a b c d)) j ++ X) := by
  have hb : bodyL (.head a b c d) = (([a, b, c, d].map (digL 2)).flatten) := by simp [bodyL]
  rw [hb]
  generalize hl : (([a, b, c, d].map (digL 2)).flatten) = l
  have ll : l.length = 8 := by rw [← hl]; simp [dig2_len]
  have hn1 : n < (M ++ [MO.lst [.str "head"]]).length := by simp; omega
  have k := nums_read (M := M ++ [.lst [.str "head"]]) (n := n) (l := l) (de := c1_shape_in) (r := [some (.str (tx [104])), some (.obj n), none, none, none]) (fun x i x0 x1 hh hi d => by
    have q := ff2_S (M := M ++ [.lst [.str "head"]]) hn1 (by omega) x0 x1 hh hi
    have g0 := S_at (M := M ++ [.lst [.str "head"]]) (l := l) (i := i) hn1
    generalize S (M ++ [.lst [.str "head"]]) n l i = N0 at *
    simp [c1_shape_in, mk_figure g0, q]) [a, b, c, d] (irng 0 4) [] 0 (fun x hx => by
      obtain ⟨h1, h2, h3, h4⟩ := h
      simp only [List.mem_cons, List.mem_nil_iff, or_false] at hx
      rcases hx with rfl | rfl | rfl | rfl
      · exact ⟨h1.1, by have := h1.2; omega⟩
      · exact ⟨h2.1, by have := h2.2; omega⟩
      · exact ⟨h3.1, by have := h3.2; omega⟩
      · exact ⟨h4.1, by have := h4.2; omega⟩) rfl ⟨[], by rw [hl]; simp⟩ (by simp [ll]) (by simp)
  rw [S_app hn, S_app hn] at k
  simp only [List.nil_append, List.map_cons, List.map_nil] at k
  have hr : itR1K (.ok (.int 4) (S M n l 0 ++ [.lst [.str "head"]])) = .ok ⟨irng 0 4, anyM⟩ (S M n l 0 ++ [.lst [.str "head"]]) := rfl
  refine ⟨8, [.lst [.str "head"]] ++ [.lst [.int a, .int b, .int c, .int d]], ?_⟩
  rw [← List.append_assoc]
  have e0 := fun N => one_eq (a := 104) (M := N) h_tx (by decide) (by decide)
  have LS : (S M n l 0).length = M.length := by simp
  have LS8 : (S M n l 8).length = M.length := by simp
  have k : compL anyM (gSlot 4) dYes c1_shape_in [some (.str (tx [104])), some (.obj n), none, none, none] (irng 0 4) [] (S M n l 0 ++ [.lst [.str "head"]]) = .ok [.int a, .int b, .int c, .int d] (S M n l 8 ++ [.lst [.str "head"]]) := k
  generalize hT : S M n l 8 = T8 at *
  generalize S M n l 0 = T0 at *
  have q1 : (T8 ++ [MO.lst [.str "head"]] ++ [.lst [.int a, .int b, .int c, .int d]])[T0.length]? = some (.lst [.str "head"]) := by
    rw [LS, ← LS8]
    simp
  have q2 : (T8 ++ [MO.lst [.str "head"]] ++ [.lst [.int a, .int b, .int c, .int d]])[(T8 ++ [MO.lst [.str "head"]]).length]? = some (.lst [.int a, .int b, .int c, .int d]) := last_at
  have fc := fCat_obj (ar := false) q1 q2
  simp only [List.cons_append, List.nil_append] at fc
  rw [newL_f (by simp)] at fc
  have la : lstAK (.ok [.str "head"] T0) = .ok (.obj T0.length) (T0 ++ [.lst [.str "head"]]) := lstAK_ok (by simp)
  have ca : compAK2 (.ok [.int a, .int b, .int c, .int d] (T8 ++ [.lst [.str "head"]])) = .ok (.obj (T8 ++ [MO.lst [.str "head"]]).length) (T8 ++ [.lst [.str "head"]] ++ [.lst [.int a, .int b, .int c, .int d]]) := rfl
  generalize (T8 ++ [MO.lst [.str "head"]]).length = i8 at *
  generalize T8 ++ [MO.lst [.str "head"]] ++ [.lst [.int a, .int b, .int c, .int d]] = U at *
  simp [-itR1K_ok, -lstAK_ok, f_shape_in, b_shape_in, runB_ev, letterN, e0, la, hr, k, ca, fc, Pg.toD]
theorem shape_free (hn : n < M.length) {m : Int} (h : Good (.free m)) : ∃ j X, f_shape_in [.str (tx [letterN (.free m)]), .obj n] (S M n (bodyL (.free m)) 0) = .ok (Pg.free m).toD (S M n (bodyL (.free m)) j ++ X) := by
  have q := ff2_S (l := bodyL (.free m)) (i := 0) (x := m) hn (by simp [bodyL, dig2_len]) h.1 (by have := h.2; omega) ⟨[], by simp [bodyL]⟩ (by simp [bodyL, dig2_len])
  refine ⟨0 + 2, [], ?_⟩
  rw [List.append_nil]
  have g0 := S_at (l := bodyL (.free m)) (i := 0) hn
  have e0 := fun N => one_eq (a := 101) (M := N) h_tx (by decide) (by decide)
  have e1 := fun N => one_eq (a := 101) (M := N) l_tx (by decide) (by decide)
  have e2 := fun N => one_eq (a := 101) (M := N) f_tx (by decide) (by decide)
  have e3 := fun N => one_eq (a := 101) (M := N) r_tx (by decide) (by decide)
  generalize S M n (bodyL (.free m)) 0 = T0 at *
  generalize S M n (bodyL (.free m)) (0 + 2) = T2 at *
  simp [f_shape_in, b_shape_in, runB_ev, letterN, e0, e1, e2, e3, mk_figure g0, q, Pg.toD]
theorem shape_rest (hn : n < M.length) {t : List Nat} {m : Int} (h : Good (.rest t m)) : ∃ j X, f_shape_in [.str (tx [letterN (.rest t m)]), .obj n] (S M n (bodyL (.rest t m)) 0) = .ok (Pg.rest t m).toD (S M n (bodyL (.rest t m)) j ++ X) := by
  obtain ⟨h1, h2, h3, h4, h5⟩ := h
  have bl : (bodyL (.rest t m)).length = 2 + t.length := by simp [bodyL, dig2_len]
  have h0 : Has (bodyL (.rest t m)) 0 (digL 2 m ++ t) := ⟨[], by simp [bodyL]⟩
  have q := ff2_S (l := bodyL (.rest t m)) (i := 0) (x := m) hn (by omega) h4 (by omega) h0.left (by omega)
  have q2 := others_S (l := bodyL (.rest t m)) (i := 0 + 2) (w := t) hn (by omega) h0.right (by omega)
  refine ⟨(bodyL (.rest t m)).length, [], ?_⟩
  rw [List.append_nil]
  have g0 := S_at (l := bodyL (.rest t m)) (i := 0) hn
  have g2 := S_at (l := bodyL (.rest t m)) (i := 0 + 2) hn
  have e0 := fun N => one_eq (a := 114) (M := N) h_tx (by decide) (by decide)
  have e1 := fun N => one_eq (a := 114) (M := N) l_tx (by decide) (by decide)
  have e2 := fun N => one_eq (a := 114) (M := N) f_tx (by decide) (by decide)
  have e3 := fun N => one_eq (a := 114) (M := N) r_tx (by decide) (by decide)
  generalize S M n (bodyL (.rest t m)) 0 = T0 at *
  generalize S M n (bodyL (.rest t m)) (0 + 2) = T2 at *
  generalize S M n (bodyL (.rest t m)) (bodyL (.rest t m)).length = T3 at *
  simp [f_shape_in, b_shape_in, runB_ev, letterN, e0, e1, e2, e3, mk_figure g0, mk_others g2, q, q2, Pg.toD]
theorem shape_leaf (hn : n < M.length) {rows : List Row} (h : Good (.leaf rows)) (hl : (bodyL (.leaf rows)).length ≤ 1000) : ∃ j X, f_shape_in [.str (tx [letterN (.leaf rows)]), .obj n] (S M n (bodyL (.leaf rows)) 0) = .ok (Pg.leaf rows).toD (S M n (bodyL (.leaf rows)) j ++ X) := by
  obtain ⟨h1, h2⟩ := h
  have rl : rows.length ≤ 63 := by have := h1.many; simpa using this
  have kl : ∀ r ∈ rows, RowOk r := fun r hr => ⟨h1.key r.1 (List.mem_map.mpr ⟨r, hr, rfl⟩), h2 r hr⟩
  have bl : (bodyL (.leaf rows)).length = 1 + (rows.map rowB).flatten.length := by rw [bodyL, List.length_append, dig1_len]
  have h0 : Has (bodyL (.leaf rows)) 0 (digL 1 rows.length ++ (rows.map rowB).flatten) := ⟨[], by simp [bodyL]⟩
  obtain ⟨L, hL⟩ : ∃ L : Int, (rows.length : Int) = L := ⟨_, rfl⟩
  rw [hL] at h0
  have q := ff1_S (l := bodyL (.leaf rows)) (i := 0) (x := L) hn hl (by omega) (by omega) h0.left (by omega)
  have hR : Has (bodyL (.leaf rows)) (0 + 1) ((rows.map rowB).flatten) := h0.right
  have q2 := rows_read (l := bodyL (.leaf rows)) (x0 := some (.str (tx [108]))) (x2 := none) (x3 := none) hn hl rows (irng 0 L.toNat) [] (0 + 1) kl (by simp [irng]; omega) hR (by omega) (by simp; omega)
  rw [List.nil_append] at q2
  have hr := itR1K_ok (M := S M n (bodyL (.leaf rows)) (0 + 1)) (j := L) (by omega) (by omega)
  refine ⟨0 + 1 + (rows.map rowB).flatten.length, [], ?_⟩
  rw [List.append_nil]
  have g0 := S_at (l := bodyL (.leaf rows)) (i := 0) hn
  have e0 := fun N => one_eq (a := 108) (M := N) h_tx (by decide) (by decide)
  have e1 := fun N => one_eq (a := 108) (M := N) l_tx (by decide) (by decide)
  generalize S M n (bodyL (.leaf rows)) 0 = T0 at *
  generalize S M n (bodyL (.leaf rows)) (0 + 1 + (rows.map rowB).flatten.length) = T2 at *
  generalize S M n (bodyL (.leaf rows)) (0 + 1) = T1 at *
  have ft : fTupOf [.lst (rows.map rowD)] T2 = .ok (.tup (rows.map rowD)) T2 := fTupOf_lst (by simp; omega)
  simp [-itR1K_ok, -fTupOf_lst, f_shape_in, b_shape_in, runB_ev, letterN, e0, e1, mk_figure g0, q, hr, q2, ft, Pg.toD]
theorem shape_fork (hn : n < M.length) {keys : List (List Nat)} {kids : List Int} (h : Good (.fork keys kids)) (hl : (bodyL (.fork keys kids)).length ≤ 1000) : ∃ j X, f_shape_in [.str (tx [letterN (.fork keys kids)]), .obj n] (S M n (bodyL (.fork keys kids)) 0) = .ok (Pg.fork keys kids).toD (S M n (bodyL (.fork keys kids)) j ++ X) := by
  obtain ⟨h1, h2, h3⟩ := h
  have rl := h1.many
  have bl : (bodyL (.fork keys kids)).length = 1 + ((keys.map keyB).flatten.length + 2 * kids.length) := by
    have := flatK_len kids
    rw [bodyL, List.length_append, List.length_append, dig1_len, this]
  have h0 : Has (bodyL (.fork keys kids)) 0 (digL 1 keys.length ++ ((keys.map keyB).flatten ++ (kids.map (digL 2)).flatten)) := ⟨[], by simp [bodyL]⟩
  obtain ⟨L, hL⟩ : ∃ L : Int, (keys.length : Int) = L := ⟨_, rfl⟩
  rw [hL] at h0
  generalize hB : bodyL (.fork keys kids) = l at *
  have q := ff1_S (l := l) (i := 0) (x := L) hn hl (by omega) (by omega) h0.left (by omega)
  have hR : Has l (0 + 1) ((keys.map keyB).flatten ++ (kids.map (digL 2)).flatten) := h0.right
  have q2 := keys_read (l := l) (x0 := some (.str (tx [102]))) (x2 := none) (x3 := none) hn hl keys (irng 0 L.toNat) [] (0 + 1) h1.key (by simp [irng]; omega) hR.left (by omega) (by simp; omega)
  rw [List.nil_append] at q2
  have q3 := nums_read (M := M) (n := n) (l := l) (de := c4_shape_in) (r := [some (.str (tx [102])), some (.obj n), some (.tup (keys.map keyD)), none, none]) (fun x i x0 x1 hh hi d => by
    have q := ff2_S hn hl x0 x1 hh hi
    have g0 := S_at (M := M) (l := l) (i := i) hn
    generalize S M n l i = N0 at *
    simp [c4_shape_in, mk_figure g0, q]) kids (irng 0 (L + 1).toNat) [] (0 + 1 + (keys.map keyB).flatten.length) (fun x hx => ⟨by have := (h2 x hx).1; omega, by have := (h2 x hx).2; omega⟩) (by simp [irng]; omega) hR.right (by omega) (by simp; omega)
  rw [List.nil_append] at q3
  have hr := itR1K_ok (M := S M n l (0 + 1)) (j := L) (by omega) (by omega)
  have hr2 := itR1K_ok (M := S M n l (0 + 1 + (keys.map keyB).flatten.length)) (j := L + 1) (by omega) (by omega)
  refine ⟨0 + 1 + (keys.map keyB).flatten.length + 2 * kids.length, [], ?_⟩
  rw [List.append_nil]
  have g0 := S_at (l := l) (i := 0) hn
  have e0 := fun N => one_eq (a := 102) (M := N) h_tx (by decide) (by decide)
  have e1 := fun N => one_eq (a := 102) (M := N) l_tx (by decide) (by decide)
  have e2 := fun N => one_eq (a := 102) (M := N) f_tx (by decide) (by decide)
  generalize S M n l 0 = T0 at *
  generalize S M n l (0 + 1 + (keys.map keyB).flatten.length + 2 * kids.length) = T3 at *
  generalize S M n l (0 + 1 + (keys.map keyB).flatten.length) = T2 at *
  generalize S M n l (0 + 1) = T1 at *
  have ft : fTupOf [.lst (keys.map keyD)] T2 = .ok (.tup (keys.map keyD)) T2 := fTupOf_lst (by simp; omega)
  have ft2 : fTupOf [.lst (kids.map .int)] T3 = .ok (.tup (kids.map .int)) T3 := fTupOf_lst (by simp; omega)
  have fl : fLen [.tup (keys.map keyD)] T2 = .ok (.int L) T2 := by rw [fLen_tup, List.length_map, hL]
  rw [show (Pg.fork keys kids).toD = .tup [.str "fork", .tup (keys.map keyD), .tup (kids.map .int)] from rfl]
  generalize D.tup (keys.map keyD) = KT at ft fl q3 ⊢
  exact fork_C (fun N => by rw [e0 N]; rfl) (fun N => by rw [e1 N]; rfl) (fun N => by rw [e2 N]; rfl) (fork_A g0 q hr q2 ft) (fork_B fl hr2 q3 ft2)
theorem shape_ok (hn : n < M.length) {p : Pg} (h : Good p) (hl : (bodyL p).length ≤ 1000) : ∃ j X, f_shape_in [.str (tx [letterN p]), .obj n] (S M n (bodyL p) 0) = .ok p.toD (S M n (bodyL p) j ++ X) := by
  cases p with
  | head a b c d => exact shape_head hn h
  | leaf rows => exact shape_leaf hn h hl
  | fork keys kids => exact shape_fork hn h hl
  | rest t m => exact shape_rest hn h
  | free m => exact shape_free hn h
end
end K10
set_option Elab.async false
set_option linter.all false
set_option maxRecDepth 100000
set_option maxHeartbeats 4000000
/-! K10: page_of. -/
namespace K10
open PySem PySem.Spec PyProof.Rows L2 LF
theorem cut_tail {α : Type} {a b : List α} (h : b.length = 2) : cutN (a ++ b) (some (-2)) none = b := by
  have e : HT.sIx (a ++ b).length 0 (some (-2)) = a.length := by
    unfold HT.sIx
    simp [h]
    omega
  unfold cutN
  rw [e, HT.sIx_none, List.drop_left]
  exact List.take_of_length_le (by simp)
theorem cut_head {α : Type} {a b : List α} (h : b.length = 2) : cutN (a ++ b) none (some (-2)) = a := by
  have e : HT.sIx (a ++ b).length (a ++ b).length (some (-2)) = a.length := by
    unfold HT.sIx
    simp [h]
    omega
  unfold cutN
  rw [e, HT.sIx_none, List.drop_zero, Nat.sub_zero, List.take_left]
theorem txt_so {l : List Nat} (h : TxtOk l) : PyData.strOk (tx l) = true := by
  rw [strOk_tx, List.all_eq_true]
  intro c hc
  have := h c hc
  unfold okc at this
  simp at this ⊢
  omega
theorem textL_ok {p : Pg} {sz : Nat} (h : Good p) : TxtOk (textL p sz) := (padL_ok h).app (dig_ok 2 _)
theorem is_size_ok {sz : Nat} {M : Mem} (h0 : 64 ≤ sz) (h1 : sz ≤ 200) : f_is_size [.int (sz : Nat)] M = .ok (.bl true) M := by
  have a1 : (64 : Int) ≤ (sz : Nat) := by omega
  have a2 : ((sz : Nat) : Int) ≤ 200 := by omega
  simp [f_is_size, b_is_size, runB_ev, is_whole_int, decide_eq_true a1, decide_eq_true a2]
theorem init_parts {M : Mem} {l : List Nat} : f_Parts___init__ [.obj M.length, .str (tx l)] (M ++ [.ins "Parts" []]) = .ok .non (M ++ [PO l 0]) := by
  have p1 := fun r => putAttr_last (r := r) (M := M) (d := .str (tx l)) (ok := okF itab "text") (f := "text") (c := "Parts") (fs := []) rfl (by decide)
  have p2 := fun r => putAttr_last (r := r) (M := M) (d := .int 0) (ok := okF itab "place") (f := "place") (c := "Parts") (fs := putFD "text" (.str (tx l)) []) rfl (by exact (by decide : (1 : Nat) < 1000))
  simp [f_Parts___init__, b_Parts___init__, runB_ev, p1, p2]
  rfl
theorem is_page_ok {p : Pg} {M : Mem} (h : Good p) : f_is_page [p.toD] M = .ok (.bl true) (M ++ [p.obj]) := by
  simp [f_is_page, b_is_page, runB_ev, made_ok (M := M) h]
theorem text_parts (p : Pg) (sz : Nat) : textL p sz = [letterN p] ++ (digL 2 (bodyL p).length ++ (bodyL p ++ (List.replicate (sz - 2 - (headL p).length) 48 ++ digL 2 (wS 0 (padL p sz) % 4093)))) := by
  simp [textL, padL, headL]
theorem page_of_ok {p : Pg} {sz : Nat} {M : Mem} (h : Good p) (f : Fit p sz) : ∃ X, f_page_of [.str (tx (textL p sz))] M = .ok p.toD (M ++ X) := by
  obtain ⟨f1, f2, f3⟩ := id f
  have tl := textL_len f
  have tp := text_parts p sz
  have pl := padL_len f
  have hH : Has (textL p sz) 0 ([letterN p] ++ (digL 2 (bodyL p).length ++ (bodyL p ++ (List.replicate (sz - 2 - (headL p).length) 48 ++ digL 2 (wS 0 (padL p sz) % 4093))))) := ⟨[], by rw [List.append_nil]; exact tp⟩
  have h1 : Has (textL p sz) 1 (digL 2 (bodyL p).length) := hH.right.left
  have h3 : Has (textL p sz) 3 (bodyL p) := hH.right.right.left
  have c1 : cutN (textL p sz) (some 1) (some 3) = digL 2 (bodyL p).length := h1.cut (by rw [dig2_len]; omega)
  have c3 : cutN (textL p sz) (some 3) (some (3 + ((bodyL p).length : Int))) = bodyL p := h3.cut (by omega)
  have ct : cutN (textL p sz) (some (-2)) none = digL 2 (wS 0 (padL p sz) % 4093) := cut_tail (a := padL p sz) (dig2_len _)
  have ch : cutN (textL p sz) none (some (-2)) = padL p sz := cut_head (a := padL p sz) (dig2_len _)
  have at0 : atI (textL p sz) 0 = some (letterN p) := by
    rw [tp]
    exact L2.atI_nat (j := 0) rfl
  have e1 := is_text_ok (M := M) (textL_ok (sz := sz) h) (by omega)
  have nt := fun M => fNe_same (M := M) (x := .str (tx (textL p sz))) (by rw [lay_str]; exact txt_so (textL_ok h))
  have nd := fun M => fNe_same (M := M) (x := .str (tx (digL 2 (wS 0 (padL p sz) % 4093)))) (by rw [lay_str]; exact txt_so (dig_ok 2 _))
  have i0 := fun M => fIx_tx (M := M) (l := textL p sz) (i := 0) (by omega) at0
  have fl := fun M => fLen_tx (M := M) (l := textL p sz) (by omega)
  have s1 := fun M => fSl_tx (M := M) (l := textL p sz) (lo := some 1) (hi := some 3) (by omega)
  have s3 := fun M => fSl_tx (M := M) (l := textL p sz) (lo := some 3) (hi := some (3 + ((bodyL p).length : Int))) (by omega)
  have st := fun M => fSl_tx (M := M) (l := textL p sz) (lo := some (-2)) (hi := none) (by omega)
  have sh := fun M => fSl_tx (M := M) (l := textL p sz) (lo := none) (hi := some (-2)) (by omega)
  simp only [c1, c3, ct, ch, tl] at s1 s3 st sh fl
  have ck := check_ok (padL p sz) M (by omega) (List.all_eq_true.mpr (padL_ok h))
  have sz1 := is_size_ok (M := M) f1 f2
  have n2 := num2 (n := ((bodyL p).length : Nat)) (M := M) (by omega) (by omega)
  obtain ⟨j, X, hs⟩ := shape_ok (M := M ++ [PO (bodyL p) 0]) (n := M.length) (by simp) h (by omega)
  have S0 : S (M ++ [PO (bodyL p) 0]) M.length (bodyL p) 0 = M ++ [PO (bodyL p) 0] := set_last
  have Sj : S (M ++ [PO (bodyL p) 0]) M.length (bodyL p) j = M ++ [PO (bodyL p) j] := set_last
  rw [S0, Sj] at hs
  have ip := init_parts (M := M) (l := bodyL p)
  have pg := is_page_ok (M := (M ++ [PO (bodyL p) j]) ++ X) h
  have bo := body_of_ok (M := ((M ++ [PO (bodyL p) j]) ++ X) ++ [p.obj]) h
  have pt := page_text_ok (M := (((M ++ [PO (bodyL p) j]) ++ X) ++ [p.obj]) ++ [p.obj]) h f
  have fb := fun M => fLen_tx (M := M) (l := bodyL p) (by omega)
  have hg : ¬ ((sz : Int) - 5 < (bodyL p).length) := by omega
  refine ⟨[PO (bodyL p) j] ++ X ++ [p.obj] ++ [p.obj] ++ [p.obj], ?_⟩
  rw [show M ++ ([PO (bodyL p) j] ++ X ++ [p.obj] ++ [p.obj] ++ [p.obj]) = ((((M ++ [PO (bodyL p) j]) ++ X) ++ [p.obj]) ++ [p.obj]) ++ [p.obj] by simp]
  generalize ((((M ++ [PO (bodyL p) j]) ++ X) ++ [p.obj]) ++ [p.obj]) ++ [p.obj] = M4 at *
  generalize (((M ++ [PO (bodyL p) j]) ++ X) ++ [p.obj]) ++ [p.obj] = M3 at *
  generalize ((M ++ [PO (bodyL p) j]) ++ X) ++ [p.obj] = M2 at *
  generalize (M ++ [PO (bodyL p) j]) ++ X = M1 at *
  simp [f_page_of, b_page_of, runB_ev, e1, fl, sz1, st, sh, ck, nd, s1, n2, i0, s3, ip, hs, pg, bo, fb, decide_eq_false hg, pt, nt]
theorem layL_of {n : Nat} : ∀ {ds : List D}, (∀ d ∈ ds, D.lay n d = true) → D.layL n ds = true
  | [], _ => layL_nil
  | d :: ds, h => by rw [layL_cons, h d List.mem_cons_self, layL_of fun x hx => h x (List.mem_cons_of_mem _ hx)]; rfl
theorem lay_page {p : Pg} (h : Good p) : D.lay 64 p.toD = true := by
  cases p with
  | head a b c d =>
    refine layL_of fun x hx => ?_
    simp only [List.mem_cons, List.mem_nil_iff, or_false] at hx
    rcases hx with rfl | rfl | rfl | rfl | rfl
    · rw [lay_str]; exact so_head
    all_goals exact lay_int
  | free n =>
    refine layL_of fun x hx => ?_
    simp only [List.mem_cons, List.mem_nil_iff, or_false] at hx
    rcases hx with rfl | rfl
    · rw [lay_str]; exact so_free
    · exact lay_int
  | rest t n =>
    refine layL_of fun x hx => ?_
    simp only [List.mem_cons, List.mem_nil_iff, or_false] at hx
    rcases hx with rfl | rfl | rfl
    · rw [lay_str]; exact so_rest
    · rw [lay_str]; exact txt_so h.1
    · exact lay_int
  | fork keys kids =>
    refine layL_of fun x hx => ?_
    simp only [List.mem_cons, List.mem_nil_iff, or_false] at hx
    rcases hx with rfl | rfl | rfl
    · rw [lay_str]; exact so_fork
    · refine layL_of fun x hx => ?_
      obtain ⟨k, hk, rfl⟩ := List.mem_map.mp hx
      rw [keyD, lay_str]
      exact txt_so (h.1.key k hk).t
    · refine layL_of fun x hx => ?_
      obtain ⟨k, _, rfl⟩ := List.mem_map.mp hx
      exact lay_int
  | leaf rows =>
    refine layL_of fun x hx => ?_
    simp only [List.mem_cons, List.mem_nil_iff, or_false] at hx
    rcases hx with rfl | rfl
    · rw [lay_str]; exact so_leaf
    · refine layL_of fun x hx => ?_
      obtain ⟨⟨k, c⟩, hr, rfl⟩ := List.mem_map.mp hx
      have hk := (h.1.key k (List.mem_map.mpr ⟨(k, c), hr, rfl⟩)).t
      have hc := h.2 (k, c) hr
      refine layL_of fun x hx => ?_
      simp only [List.mem_cons, List.mem_nil_iff, or_false] at hx
      rcases hx with rfl | rfl
      · rw [lay_str]; exact txt_so hk
      · cases c with
        | inn t =>
          refine layL_of fun x hx => ?_
          simp only [List.mem_cons, List.mem_nil_iff, or_false] at hx
          rcases hx with rfl | rfl
          · rw [lay_str]; exact so_in
          · rw [lay_str]; exact txt_so hc.1
        | out a b =>
          refine layL_of fun x hx => ?_
          simp only [List.mem_cons, List.mem_nil_iff, or_false] at hx
          rcases hx with rfl | rfl | rfl
          · rw [lay_str]; exact so_out
          all_goals exact lay_int
end K10
set_option Elab.async false
set_option linter.all false
set_option maxRecDepth 100000
set_option maxHeartbeats 4000000
/-! K10: the tape, what the law draws. -/
namespace K10
open PySem PySem.Spec PyProof.Rows L2 LF
def TP (ns : List Int) (k s : Int) : MO := .dic [(.inr "script", .lst (ns.map .int)), (.inr "at", .int k), (.inr "seed", .int s)]
def Tp (ns : List Int) (M : Mem) : Prop := ∃ k s, 0 ≤ k ∧ M[0]? = some (TP ns k s)
/-- the tape went on, things came; what stood stands -/
structure Ext (ns : List Int) (M M' : Mem) : Prop where
  tp : Tp ns M'
  len : M.length ≤ M'.length
  get : ∀ i, 0 < i → i < M.length → M'[i]? = M[i]?
theorem Ext.refl {ns : List Int} {M : Mem} (h : Tp ns M) : Ext ns M M := ⟨h, Nat.le_refl _, fun _ _ _ => rfl⟩
theorem Ext.trans {ns : List Int} {M M1 M2 : Mem} (a : Ext ns M M1) (b : Ext ns M1 M2) : Ext ns M M2 :=
  ⟨b.tp, Nat.le_trans a.len b.len, fun i h1 h2 => (b.get i h1 (Nat.lt_of_lt_of_le h2 a.len)).trans (a.get i h1 h2)⟩
theorem Ext.at {ns : List Int} {M M' : Mem} (a : Ext ns M M') {i : Nat} {o : MO} (h0 : 0 < i) (h : M[i]? = some o) : M'[i]? = some o := (a.get i h0 (List.getElem?_eq_some_iff.mp h).1).trans h
theorem Tp.app {ns : List Int} {M X : Mem} (h : Tp ns M) : Tp ns (M ++ X) := by
  obtain ⟨k, s, h0, h1⟩ := h
  exact ⟨k, s, h0, by rw [List.getElem?_append_left (List.getElem?_eq_some_iff.mp h1).1]; exact h1⟩
theorem Ext.app {ns : List Int} {M X : Mem} (h : Tp ns M) : Ext ns M (M ++ X) := ⟨h.app, by simp, fun i _ hi => List.getElem?_append_left hi⟩
theorem Ext.set0 {ns : List Int} {M : Mem} {k s k' s' : Int} (h : M[0]? = some (TP ns k s)) (h0 : 0 ≤ k') : Ext ns M (M.set 0 (TP ns k' s')) :=
  ⟨⟨k', s', h0, List.getElem?_set_self (List.getElem?_eq_some_iff.mp h).1⟩, by simp, fun i hi _ => List.getElem?_set_ne (by omega)⟩
theorem draw {ns : List Int} {M : Mem} (h : Tp ns M) {m : Int} (hm : 0 < m) : ∃ n M', f__law_draw [.obj 0, .int m] M = .ok (.int n) M' ∧ 0 ≤ n ∧ n < m ∧ Ext ns M M' := by
  obtain ⟨k, s, h0, h1⟩ := h
  have hl : 0 < M.length := (List.getElem?_eq_some_iff.mp h1).1
  have go : ∀ c s' : Int, s' = ((s + c) * 48271 + 11) % 2147483647 → ∀ x, x = Out.ok (D.int (s' / 11 % m)) ((M.set 0 (TP ns (k + 1) s)).set 0 (TP ns (k + 1) s')) → ∃ n M', x = .ok (.int n) M' ∧ 0 ≤ n ∧ n < m ∧ Ext ns M M' := fun c s' e x ex =>
    ⟨_, _, ex, Int.emod_nonneg _ (by omega), Int.emod_lt_of_pos _ hm, by rw [List.set_set]; exact Ext.set0 h1 (by omega)⟩
  have a1 : ∀ z, fDGet (.obj 0) (.str "at") M = z ↔ Out.ok (.int k) M = z := fun z => by rw [fDGet_of (k := .inr "at") rfl h1 rfl]
  have g1 : fDGet (.obj 0) (.str "at") M = .ok (.int k) M := fDGet_of (k := .inr "at") rfl h1 rfl
  have g2 : fDGet (.obj 0) (.str "script") M = .ok (.lst (ns.map .int)) M := fDGet_of (k := .inr "script") rfl h1 rfl
  have p1 : ∀ r, putAt (.obj 0) (.str "at") (.int (k + 1)) r M = .nx r (M.set 0 (TP ns (k + 1) s)) := fun r => putAt_of (k := .inr "at") (kvs := [(.inr "script", .lst (ns.map .int)), (.inr "at", .int k), (.inr "seed", .int s)]) rfl h1 (by simp)
  have h2 : (M.set 0 (TP ns (k + 1) s))[0]? = some (TP ns (k + 1) s) := List.getElem?_set_self hl
  have m2 : ∀ (y : Int) (M : Mem), fMulX (.int y) (.int 48271) M = .ok (.int (y * 48271)) M := fun y M => fMulX_r (by omega) (by omega)
  have fin : ∀ c s' : Int, s' = ((s + c) * 48271 + 11) % 2147483647 → ∀ M1 : Mem, M1 = M.set 0 (TP ns (k + 1) s) → fDGet (.obj 0) (.str "seed") M1 = .ok (.int s) M1 ∧ (∀ r, putAt (.obj 0) (.str "seed") (.int s') r M1 = .nx r (M1.set 0 (TP ns (k + 1) s'))) ∧ fDGet (.obj 0) (.str "seed") (M1.set 0 (TP ns (k + 1) s')) = .ok (.int s') (M1.set 0 (TP ns (k + 1) s')) := by
    rintro c s' e M1 rfl
    refine ⟨fDGet_of (k := .inr "seed") rfl h2 rfl, fun r => putAt_of (k := .inr "seed") (kvs := [(.inr "script", .lst (ns.map .int)), (.inr "at", .int (k + 1)), (.inr "seed", .int s)]) rfl h2 (by simp), fDGet_of (k := .inr "seed") rfl (List.getElem?_set_self (by simpa using hl)) rfl⟩
  by_cases hk : k < ns.length
  · obtain ⟨j, rfl⟩ : ∃ j : Nat, k = j := ⟨k.toNat, by omega⟩
    have hj : j < ns.length := by omega
    have a : atI (ns.map D.int) (j : Int) = some (.int (ns[j]'hj)) := L2.atI_nat (by simp [hj])
    obtain ⟨s', e⟩ : ∃ s' : Int, s' = ((s + ns[j]) * 48271 + 11) % 2147483647 := ⟨_, rfl⟩
    obtain ⟨f1, f2, f3⟩ := fin _ s' e _ rfl
    refine go _ s' e _ ?_
    generalize M.set 0 (TP ns ((j : Int) + 1) s) = M1 at *
    simp [f__law_draw, b__law_draw, runB_ev, g1, g2, p1, m2, hj, fIx_lst a, f1, f2, f3, ← e, fMod_int hm]
  · obtain ⟨s', e⟩ : ∃ s' : Int, s' = ((s + 0) * 48271 + 11) % 2147483647 := ⟨_, rfl⟩
    obtain ⟨f1, f2, f3⟩ := fin _ s' e _ rfl
    refine go _ s' e _ ?_
    rw [Int.add_zero] at e
    generalize M.set 0 (TP ns (k + 1) s) = M1 at *
    simp [f__law_draw, b__law_draw, runB_ev, g1, g2, p1, m2, decide_eq_false hk, f1, f2, f3, ← e, fMod_int hm]
/-! ### texts -/
def sgA (i : Int) : Nat := (atI AL (i % 94)).getD 0
theorem sgA_at (i : Int) : atI AL (i % 94) = some (sgA i) ∧ sgA i ∈ AL := by
  obtain ⟨c, h1, h2⟩ := al_at (i := i % 94) (by omega) (by omega)
  unfold sgA
  rw [h1]
  exact ⟨rfl, h2⟩
def rngI (n : Nat) : List Int := (List.range n).map fun i : Nat => (i : Int)
theorem irng_I (n : Nat) : irng 0 n = (rngI n).map .int := by
  unfold irng rngI
  rw [List.map_map]
  exact List.map_congr_left fun i _ => by simp
def txA (a b : Int) (n : Nat) : List Nat := (rngI n).map fun k => sgA (a + k * b)
theorem txA_len {a b : Int} {n : Nat} : (txA a b n).length = n := by simp [txA, rngI]
theorem txA_mem {a b : Int} {n : Nat} : ∀ c ∈ txA a b n, c ∈ AL := fun c hc => by
  obtain ⟨k, _, rfl⟩ := List.mem_map.mp hc
  exact (sgA_at _).2
theorem text_comp2 {a b : Int} {n : Nat} {M : Mem} (hb : 0 ≤ b) (hb2 : b < 1000) (hn : n ≤ 1000) {x0 x1 : Option D} :
    compL anyM (gSlot 4) dYes c1__law_text [x0, x1, some (.int a), some (.int b), none] (irng 0 n) [] M = .ok ((txA a b n).map fun c => .str (tx [c])) M := by
  rw [irng_I]
  have q := compL_same (chk := anyM) (dg := gSlot 4) (t := dYes) (de := c1__law_text) (r := [x0, x1, some (.int a), some (.int b), none]) (M := M) (f := D.int) (g := fun k => .str (tx [sgA (a + k * b)])) rfl (rngI n) [] (fun k _ => by
    refine ⟨_, rfl, rfl, ?_⟩
    have m1 : fMulX (.int k) (.int b) M = .ok (.int (k * b)) M := fMulX_r (by omega) (by omega)
    have f := fIx_tx (M := M) (l := AL) (by rw [al_len]; omega) (sgA_at (a + k * b)).1
    simp [c1__law_text, lsigns, m1, fMod_int (show (0 : Int) < 94 by omega), f]) (by simp [rngI]; omega)
  rw [q]
  simp [txA]
theorem text_ok {ns : List Int} {M : Mem} (h : Tp ns M) {sz : Int} (h0 : 0 ≤ sz) (h1 : sz < 1000) : ∃ l M', l.length = sz.toNat ∧ (∀ c ∈ l, c ∈ AL) ∧ f__law_text [.obj 0, .int sz] M = .ok (.str (tx l)) M' ∧ Ext ns M M' := by
  obtain ⟨a, M1, e1, a0, a1, E1⟩ := draw h (m := 94) (by omega)
  obtain ⟨b, M2, e2, b0, b1, E2⟩ := draw E1.tp (m := 93) (by omega)
  refine ⟨txA a (1 + b) sz.toNat, M2, txA_len, txA_mem, ?_, E1.trans E2⟩
  have q := text_comp2 (a := a) (b := 1 + b) (n := sz.toNat) (M := M2) (by omega) (by omega) (by omega) (x0 := some (.obj 0)) (x1 := some (.int sz))
  have hl : (txA a (1 + b) sz.toNat).length ≤ 100000 := by rw [txA_len]; omega
  simp [f__law_text, b__law_text, runB_ev, e1, e2, itR1K_ok (show (-4611686018427387904 : Int) ≤ sz by omega) (show sz < 4611686018427387904 by omega), q, tx_empty, mJoin_tx hl]
/-! ### keys -/
structure Ris (ks : List (List Nat)) : Prop where
  key : ∀ k ∈ ks, KeyOk k
  lt : ks.Pairwise (· < ·)
theorem Ris.rising {ks : List (List Nat)} (h : Ris ks) (l : ks.length ≤ 63) : Rising ks := by
  refine ⟨l, h.key, fun i a b ha hb => ?_⟩
  obtain ⟨h1, rfl⟩ := List.getElem?_eq_some_iff.mp ha
  obtain ⟨h2, rfl⟩ := List.getElem?_eq_some_iff.mp hb
  exact List.pairwise_iff_getElem.mp h.lt i (i + 1) h1 h2 (by omega)
theorem al_txt {l : List Nat} (h : ∀ c ∈ l, c ∈ AL) : TxtOk l := fun c hc => (al_ok (h c hc)).1
theorem pre_lt {b : List Nat} (hb : b ≠ []) : ∀ a : List Nat, a < a ++ b
  | [] => by
    cases b with
    | nil => exact absurd rfl hb
    | cons x r => exact List.nil_lt_cons x r
  | x :: a => by
    rw [List.cons_append, List.cons_lt_cons_iff]
    exact .inr ⟨rfl, pre_lt hb a⟩
theorem take_lt {l : List Nat} {i j : Nat} (h : i < j) (hj : j ≤ l.length) : l.take i < l.take j := by
  have e : l.take j = l.take i ++ (l.take j).drop i := by
    have q := (List.take_append_drop i (l.take j)).symm
    rw [List.take_take, Nat.min_eq_left (by omega)] at q
    exact q
  rw [e]
  refine pre_lt (fun z => ?_) _
  have := congrArg List.length z
  simp at this
  omega
theorem strsOf_tx : ∀ l : List (List Nat), strsOf (l.map keyD) = some (l.map tx)
  | [] => rfl
  | k :: l => by
    have ih := strsOf_tx l
    simp only [List.map_cons, keyD, strsOf] at ih ⊢
    rw [ih]
    rfl
theorem sortSet_ok {l : List (List Nat)} (h : l.length < 64) (M : Mem) : ∃ ss : List (List Nat), fSortSet false (.lst (l.map keyD)) M = .ok (.lst (ss.map keyD)) M ∧ ss.Pairwise (· < ·) ∧ (∀ x ∈ ss, x ∈ l) ∧ ss.length ≤ l.length := by
  have nd := onceS_nd (l.map tx) [] List.nodup_nil
  have le := onceS_len (l.map tx) []
  have mm : ∀ z ∈ onceS [] (l.map tx), z ∈ l.map tx := fun z hz => ((onceS_mem (l.map tx) []).mp hz).resolve_left (by simp)
  generalize ho : onceS [] (l.map tx) = os at nd le mm
  simp only [List.length_nil, Nat.zero_add, List.length_map] at le
  have eo : os = (os.map fun s => s.cps.toList).map tx := by
    rw [List.map_map]
    conv => lhs; rw [← List.map_id os]
    exact List.map_congr_left fun s _ => tx_eta s
  have nk : (os.map fun s => s.cps.toList).Nodup := by
    rw [eo] at nd
    exact List.Pairwise.of_map tx (fun a b q e => q (congrArg tx e)) nd
  obtain ⟨ss, e1, e2, e3⟩ := sort_lt nk
  rw [← eo] at e1
  refine ⟨ss, ?_, e3, fun x hx => ?_, by rw [e2.length_eq, List.length_map]; exact le⟩
  · unfold fSortSet
    dsimp only [lstOf, Option.bind_some]
    rw [strsOf_tx]
    dsimp only
    rw [List.length_map, show Nat.blt l.length 64 = true from Nat.ble_eq_true_of_le h]
    dsimp only
    rw [ho, e1]
    unfold newL
    rw [show lineB (List.map D.str (List.map tx ss)).length = true from lineB_of (by rw [List.length_map, List.length_map, e2.length_eq, List.length_map]; omega)]
    dsimp only
    rw [List.map_map]
    rfl
  · have q := e2.mem_iff.mp hx
    obtain ⟨s, hs, rfl⟩ := List.mem_map.mp q
    obtain ⟨k, hk, e⟩ := List.mem_map.mp (mm s hs)
    rw [← e]
    exact hk
theorem keys_comp1 {base : List Nat} (hb : base.length = 12) {m : Nat} (hm : m < 10) {M : Mem} {x0 x1 x3 x4 x5 x7 : Option D} :
    compL anyM (gSlot 6) dYes c1__law_keys [x0, x1, some (.str (tx base)), x3, x4, x5, none, x7] (irng 0 m) [] M = .ok (((List.range m).map fun i => base.take (i + 1)).map keyD) M := by
  have e : irng 0 m = (List.range m).map fun i : Nat => D.int i := by
    unfold irng
    exact List.map_congr_left fun i _ => by simp
  rw [e]
  have q := compL_same (chk := anyM) (dg := gSlot 6) (t := dYes) (de := c1__law_keys) (r := [x0, x1, some (.str (tx base)), x3, x4, x5, none, x7]) (M := M) (f := fun i : Nat => D.int i) (g := fun i => keyD (base.take (i + 1))) rfl (List.range m) [] (fun k hk => by
    refine ⟨_, rfl, rfl, ?_⟩
    have := List.mem_range.mp hk
    have q1 := fSl_tx (M := M) (l := base) (lo := none) (hi := some ((k : Int) + 1)) (by omega)
    rw [show (k : Int) + 1 = ((k + 1 : Nat) : Int) by omega, cutN_to (by omega)] at q1
    rw [show ((k + 1 : Nat) : Int) = (k : Int) + 1 by omega] at q1
    simp [c1__law_keys, q1, keyD]) (by simp; omega)
  rw [q]
  simp
theorem keys_comp2 {base tail sg : List Nat} {at_ sz : Nat} (hb : base.length = 12) (ha : at_ < 12) (ht : tail.length ≤ 12) (hq : ∀ M, fSl (.str (tx base)) (some ((at_ : Int) + 1)) (some (sz : Int)) M = .ok (.str (tx tail)) M) (hs : sg.length ≤ 94) {M : Mem} {x0 x1 x5 x6 : Option D} :
    compL anyM (gSlot 7) dYes c2__law_keys [x0, x1, some (.str (tx base)), some (.int (at_ : Nat)), some (.int (sz : Nat)), x5, x6, none] (sg.map fun c => .str (tx [c])) [] M = .ok ((sg.map fun c => base.take at_ ++ [c] ++ tail).map keyD) M := by
  have q := compL_same (chk := anyM) (dg := gSlot 7) (t := dYes) (de := c2__law_keys) (r := [x0, x1, some (.str (tx base)), some (.int (at_ : Nat)), some (.int (sz : Nat)), x5, x6, none]) (M := M) (f := fun c => .str (tx [c])) (g := fun c => keyD (base.take at_ ++ [c] ++ tail)) rfl sg [] (fun c _ => by
    refine ⟨_, rfl, rfl, ?_⟩
    have q1 := fSl_tx (M := M) (l := base) (lo := none) (hi := some (at_ : Int)) (by omega)
    rw [cutN_to (by omega)] at q1
    have q3 := fAdd_tx (M := M) (a := base.take at_) (b := [c]) (by simp; omega)
    have q4 := fAdd_tx (M := M) (a := base.take at_ ++ [c]) (b := tail) (by simp; omega)
    simp only [c2__law_keys]
    simp [q1, hq M, q3, keyD]
    simpa using q4) (by simp; omega)
  rw [q]
  simp
theorem keys_ok {ns : List Int} {M : Mem} (h : Tp ns M) {many : Int} (h0 : 0 ≤ many) (h1 : many < 10) : ∃ ks M', Ris ks ∧ ks.length ≤ 10 ∧ f__law_keys [.obj 0, .int many] M = .ok (.lst (ks.map keyD)) M' ∧ Ext ns M M' := by
  obtain ⟨m, rfl⟩ : ∃ m : Nat, many = m := ⟨many.toNat, by omega⟩
  obtain ⟨base, M1, b1, b2, e1, E1⟩ := text_ok h (sz := 12) (by omega) (by omega)
  obtain ⟨z, M2, e2, z0, z1, E2⟩ := draw E1.tp (m := 3) (by omega)
  have b1 : base.length = 12 := b1
  by_cases hz : z = 0
  · subst hz
    refine ⟨(List.range m).map fun i => base.take (i + 1), M2, ⟨fun k hk => ?_, ?_⟩, by simp; omega, ?_, E1.trans E2⟩
    · obtain ⟨i, hi, rfl⟩ := List.mem_map.mp hk
      have := List.mem_range.mp hi
      exact ⟨al_txt fun c hc => b2 c (List.mem_of_mem_take hc), by simp; omega, by simp; omega⟩
    · rw [List.pairwise_map]
      refine List.pairwise_iff_getElem.mpr fun i j hi hj hij => ?_
      simp only [List.length_range] at hi hj
      simp only [List.getElem_range]
      exact take_lt (by omega) (by omega)
    · have q := keys_comp1 b1 (m := m) (by omega) (M := M2) (x0 := some (.obj 0)) (x1 := some (.int m)) (x3 := none) (x4 := none) (x5 := none) (x7 := none)
      obtain ⟨L, hL⟩ : ∃ L : Int, (m : Int) = L := ⟨_, rfl⟩
      have r1 := itR1K_ok (M := M2) (j := L) (by omega) (by omega)
      rw [show L.toNat = m by omega] at r1
      rw [hL] at q ⊢
      generalize irng 0 m = ds at *
      simp [-itR1K_ok, f__law_keys, b__law_keys, runB_ev, e1, e2, r1, q]
  · obtain ⟨a, M3, e3, a0, a1, E3⟩ := draw E2.tp (m := 12) (by omega)
    obtain ⟨b, M4, e4, c0, c1, E4⟩ := draw E3.tp (m := 13 - a) (by omega)
    obtain ⟨sg, M5, s1, s2, e5, E5⟩ := text_ok E4.tp (sz := 94) (by omega) (by omega)
    obtain ⟨n, rfl⟩ : ∃ n : Nat, a = n := ⟨a.toNat, by omega⟩
    obtain ⟨t, rfl⟩ : ∃ t : Nat, b = t := ⟨b.toNat, by omega⟩
    have s1 : sg.length = 94 := s1
    have qs := fSl_tx (M := M5) (l := sg) (lo := none) (hi := some (m : Int)) (by omega)
    rw [cutN_to (by omega)] at qs
    have qt : ∀ M, fSl (.str (tx base)) (some ((n : Int) + 1)) (some ((n + t : Nat) : Int)) M = .ok (.str (tx (cutN base (some ((n : Int) + 1)) (some ((n + t : Nat) : Int))))) M := fun M => fSl_tx (by omega)
    have tl : (cutN base (some ((n : Int) + 1)) (some ((n + t : Nat) : Int))).length ≤ t - 1 := by
      unfold cutN
      rw [show (n : Int) + 1 = ((n + 1 : Nat) : Int) by omega, HT.sIx_nat, HT.sIx_nat]
      simp
      omega
    have tm : ∀ c ∈ cutN base (some ((n : Int) + 1)) (some ((n + t : Nat) : Int)), c ∈ AL := fun c hc => by
      unfold cutN at hc
      exact b2 c (List.mem_of_mem_drop (List.mem_of_mem_take hc))
    generalize cutN base (some ((n : Int) + 1)) (some ((n + t : Nat) : Int)) = tail at *
    have q := keys_comp2 b1 (at_ := n) (sz := n + t) (tail := tail) (sg := sg.take m) (by omega) (by omega) qt (by simp; omega) (M := M5) (x0 := some (.obj 0)) (x1 := some (.int m)) (x5 := some (.str (tx (sg.take m)))) (x6 := none)
    obtain ⟨ss, f1, f2, f3, f4⟩ := sortSet_ok (l := (sg.take m).map fun c => base.take n ++ [c] ++ tail) (by simp; omega) M5
    refine ⟨ss, M5, ⟨fun k hk => ?_, f2⟩, by simp at f4; omega, ?_, (((E1.trans E2).trans E3).trans E4).trans E5⟩
    · obtain ⟨c, hc, rfl⟩ := List.mem_map.mp (f3 k hk)
      refine ⟨al_txt fun x hx => ?_, by simp; omega, by simp; omega⟩
      rcases List.mem_append.mp hx with hx | hx
      · rcases List.mem_append.mp hx with hx | hx
        · exact b2 x (List.mem_of_mem_take hx)
        · rw [List.mem_singleton.mp hx]; exact s2 c (List.mem_of_mem_take hc)
      · exact tm x hx
    · rw [show ((n + t : Nat) : Int) = (n : Int) + (t : Int) by omega] at q
      generalize ((sg.take m).map fun c => base.take n ++ [c] ++ tail).map keyD = ks at *
      generalize sg.take m = sgm at *
      simp [f__law_keys, b__law_keys, runB_ev, e1, e2, e3, e4, e5, hz, qs, signs_tx, q, f1]
end K10
set_option Elab.async false
set_option linter.all false
set_option maxRecDepth 100000
set_option maxHeartbeats 4000000
/-! K10: the law's pages. -/
namespace K10
open PySem PySem.Spec PyProof.Rows L2 LF
def wayP : Pg → List (List Nat)
  | .leaf rows => rows.map (·.1)
  | .fork keys _ => keys
  | _ => []
/-- leaves and forks with keys out of a row -/
def PgI (ks : List (List Nat)) : Pg → Prop
  | .leaf rows => (rows.map (·.1)).Sublist ks ∧ ∀ r ∈ rows, CellOk r.2
  | .fork keys kids => keys.Sublist ks ∧ kids.length = keys.length + 1 ∧ ∀ n ∈ kids, NumOk 1 n
  | _ => False
theorem PgI.good {ks : List (List Nat)} (R : Ris ks) (hl : ks.length ≤ 10) : ∀ {p : Pg}, PgI ks p → Good p
  | .leaf rows, h => by
    refine ⟨Ris.rising ⟨fun k hk => R.key k (h.1.subset hk), R.lt.sublist h.1⟩ ?_, h.2⟩
    have := h.1.length_le
    omega
  | .fork keys kids, h => by
    refine ⟨Ris.rising ⟨fun k hk => R.key k (h.1.subset hk), R.lt.sublist h.1⟩ ?_, h.2.2, h.2.1⟩
    have := h.1.length_le
    omega
theorem longer_ok {ns : List Int} {M : Mem} (h : Tp ns M) {ks : List (List Nat)} {k : List Nat} (hl : ks.length ≤ 10) {p : Pg} (hp : PgI ks p) {sz : Nat} (z0 : 64 ≤ sz) (z1 : sz ≤ 200) :
    ∃ p' M', f__law_longer [.obj 0, p.toD, keyD k, .int (sz : Nat), .int 60] M = .ok p'.toD M' ∧ PgI (ks ++ [k]) p' ∧ Ext ns M M' := by
  cases p with
  | leaf rows =>
    obtain ⟨h1, h2⟩ := hp
    have rl : rows.length ≤ 10 := by have := h1.length_le; simp at this; omega
    obtain ⟨a, M1, e1, a0, a1, E1⟩ := draw h (m := 400) (by omega)
    obtain ⟨b, M2, e2, b0, b1, E2⟩ := draw E1.tp (m := 60) (by omega)
    obtain ⟨c, M3, e3, c0, c1, E3⟩ := draw E2.tp (m := 3) (by omega)
    have fin : ∀ (cell : Cell) (M' : Mem), CellOk cell → Ext ns M M' → f__law_longer [.obj 0, (Pg.leaf rows).toD, keyD k, .int (sz : Nat), .int 60] M = .ok (Pg.leaf (rows ++ [(k, cell)])).toD M' → ∃ p' M', f__law_longer [.obj 0, (Pg.leaf rows).toD, keyD k, .int (sz : Nat), .int 60] M = .ok p'.toD M' ∧ PgI (ks ++ [k]) p' ∧ Ext ns M M' := fun cell M' hc E e =>
      ⟨_, M', e, ⟨by simpa using h1.append_right [k], fun r hr => by
        rcases List.mem_append.mp hr with hr | hr
        · exact h2 r hr
        · rw [List.mem_singleton.mp hr]; exact hc⟩, E⟩
    by_cases hc : 0 < c
    · obtain ⟨d, M4, e4, d0, d1, E4⟩ := draw E3.tp (m := (sz : Int) / 8 + 1) (by omega)
      obtain ⟨l, M5, l1, l2, e5, E5⟩ := text_ok E4.tp (sz := d) (by omega) (by omega)
      refine fin (.inn l) M5 ⟨al_txt l2, by omega⟩ ((((E1.trans E2).trans E3).trans E4).trans E5) ?_
      have q := fCat_tup (M := M5) (ar := false) (ds := rows.map rowD) (es := [.tup [keyD k, .tup [.str "in", .str (tx l)]]]) (by simp; omega)
      simp only [keyD] at q
      simp [f__law_longer, b__law_longer, runB_ev, Pg.toD, lit_eq so_leaf so_fork bq_leaf_fork, e1, e2, e3, hc, e4, e5, q, rowD, Cell.toD, keyD]
    · refine fin (.out (1 + a) (1 + b)) M3 ⟨⟨by omega, by omega⟩, ⟨by omega, by omega⟩⟩ ((E1.trans E2).trans E3) ?_
      have q := fCat_tup (M := M3) (ar := false) (ds := rows.map rowD) (es := [.tup [keyD k, .tup [.str "out", .int (1 + a), .int (1 + b)]]]) (by simp; omega)
      simp only [keyD] at q
      simp [f__law_longer, b__law_longer, runB_ev, Pg.toD, lit_eq so_leaf so_fork bq_leaf_fork, e1, e2, e3, decide_eq_false hc, q, rowD, Cell.toD, keyD]
  | fork keys kids =>
    obtain ⟨h1, h2, h3⟩ := hp
    have rl : keys.length ≤ 10 := by have := h1.length_le; omega
    obtain ⟨b, M2, e2, b0, b1, E2⟩ := draw h (m := 60) (by omega)
    refine ⟨.fork (keys ++ [k]) (kids ++ [1 + b]), M2, ?_, ⟨h1.append_right [k], by simp; omega, fun n hn => ?_⟩, E2⟩
    · have q1 := fCat_tup (M := M) (ar := false) (ds := keys.map keyD) (es := [keyD k]) (by simp; omega)
      have q2 := fCat_tup (M := M2) (ar := false) (ds := kids.map D.int) (es := [.int (1 + b)]) (by simp; omega)
      simp [f__law_longer, b__law_longer, runB_ev, Pg.toD, lit_eq so_fork so_fork bq_fork_fork, e2, q1, q2]
    · rcases List.mem_append.mp hn with hn | hn
      · exact h3 n hn
      · rw [List.mem_singleton.mp hn]; exact ⟨by omega, by omega⟩
  | _ => exact hp.elim
theorem body_room {p : Pg} {sz : Nat} (h : Good p) (z0 : 64 ≤ sz) (z1 : sz ≤ 200) (q : ((bodyL p).length : Int) ≤ (sz : Int) - 5) : Fit p sz := ⟨z0, z1, by omega⟩
theorem page_loop {ns : List Int} {ks : List (List Nat)} (R : Ris ks) (hl : ks.length ≤ 10) {sz : Nat} (z0 : 64 ≤ sz) (z1 : sz ≤ 200) {x3 x4 x5 x9 : Option D} : ∀ (suf pre : List (List Nat)) (p : Pg) (M : Mem) (x7 x8 : Option D), pre ++ suf = ks → Tp ns M → PgI pre p → Fit p sz →
    ∃ p' M' y7 y8, forL anyM (gSlot 7) l2__law_page (suf.map keyD) [some (.obj 0), some (.int (sz : Nat)), some (.int 60), x3, x4, x5, some p.toD, x7, x8, x9] M = .nx [some (.obj 0), some (.int (sz : Nat)), some (.int 60), x3, x4, x5, some p'.toD, y7, y8, x9] M' ∧ PgI ks p' ∧ Fit p' sz ∧ Ext ns M M'
  | [], pre, p, M, x7, x8, e, h, hp, f => by
    rw [List.append_nil] at e
    subst e
    exact ⟨p, M, x7, x8, by simp, hp, f, Ext.refl h⟩
  | k :: suf, pre, p, M, x7, x8, e, h, hp, f => by
    have e2 : (pre ++ [k]) ++ suf = ks := by rw [← e]; simp
    have sub : (pre ++ [k]).Sublist ks := by rw [← e2]; exact List.sublist_append_left _ _
    have pl : (pre ++ [k]).length ≤ 10 := Nat.le_trans sub.length_le hl
    have R2 : Ris (pre ++ [k]) := ⟨fun x hx => R.key x (sub.subset hx), R.lt.sublist sub⟩
    obtain ⟨q, M1, e3, hq, E1⟩ := longer_ok h (k := k) (ks := pre) (by simp at pl; omega) hp z0 z1
    have gq := hq.good R2 pl
    have eb := body_of_ok (M := M1) gq
    have bl := bodyL_len gq
    have lf := fLen_tx (l := bodyL q) (M := M1 ++ [q.obj]) (by omega)
    have E2 : Ext ns M (M1 ++ [q.obj]) := E1.trans (Ext.app E1.tp)
    have hs : ∀ {p : Pg}, PgI pre p → PgI (pre ++ [k]) p := fun {p} hp => by
      cases p with
      | leaf rows => exact ⟨hp.1.trans (List.sublist_append_left _ _), hp.2⟩
      | fork keys kids => exact ⟨hp.1.trans (List.sublist_append_left _ _), hp.2⟩
      | _ => exact hp.elim
    by_cases c : ((bodyL q).length : Int) ≤ (sz : Int) - 5
    · obtain ⟨p', M', y7, y8, e4, i1, i2, E3⟩ := page_loop R hl z0 z1 (x3 := x3) (x4 := x4) (x5 := x5) (x9 := x9) suf (pre ++ [k]) q (M1 ++ [q.obj]) (some (keyD k)) (some q.toD) e2 E2.tp hq (body_room gq z0 z1 c)
      refine ⟨p', M', y7, y8, ?_, i1, i2, E2.trans E3⟩
      have st : l2__law_page [some (.obj 0), some (.int (sz : Nat)), some (.int 60), x3, x4, x5, some p.toD, some (keyD k), x8, x9] M = .nx [some (.obj 0), some (.int (sz : Nat)), some (.int 60), x3, x4, x5, some q.toD, some (keyD k), some q.toD, x9] (M1 ++ [q.obj]) := by
        simp [l2__law_page, e3, eb, lf, c]
      simp [st, e4]
    · obtain ⟨p', M', y7, y8, e4, i1, i2, E3⟩ := page_loop R hl z0 z1 (x3 := x3) (x4 := x4) (x5 := x5) (x9 := x9) suf (pre ++ [k]) p (M1 ++ [q.obj]) (some (keyD k)) (some q.toD) e2 E2.tp (hs hp) f
      refine ⟨p', M', y7, y8, ?_, i1, i2, E2.trans E3⟩
      have st : l2__law_page [some (.obj 0), some (.int (sz : Nat)), some (.int 60), x3, x4, x5, some p.toD, some (keyD k), x8, x9] M = .nx [some (.obj 0), some (.int (sz : Nat)), some (.int 60), x3, x4, x5, some p.toD, some (keyD k), some q.toD, x9] (M1 ++ [q.obj]) := by
        simp [l2__law_page, e3, eb, lf, decide_eq_false c]
      simp [st, e4]
theorem page_ok {ns : List Int} {M : Mem} (h : Tp ns M) {sz : Nat} (z0 : 64 ≤ sz) (z1 : sz ≤ 200) : ∃ p M', f__law_page [.obj 0, .int (sz : Nat), .int 60] M = .ok p.toD M' ∧ Good p ∧ Fit p sz ∧ Ext ns M M' := by
  obtain ⟨w, M1, e1, w0, w1, E1⟩ := draw h (m := 6) (by omega)
  by_cases c0 : w = 0
  · subst c0
    obtain ⟨a, A, ea, a0, a1, Ea⟩ := draw E1.tp (m := 61) (by omega)
    obtain ⟨b, B, eb, b0, b1, Eb⟩ := draw Ea.tp (m := 61) (by omega)
    obtain ⟨c, C, ec, c0, c1, Ec⟩ := draw Eb.tp (m := 61) (by omega)
    obtain ⟨d, D', ed, d0, d1, Ed⟩ := draw Ec.tp (m := 61) (by omega)
    refine ⟨.head a b c d, D', ?_, ⟨⟨a0, by omega⟩, ⟨b0, by omega⟩, ⟨c0, by omega⟩, ⟨d0, by omega⟩⟩, ⟨z0, z1, by simp [bodyL, dig2_len]; omega⟩, (((E1.trans Ea).trans Eb).trans Ec).trans Ed⟩
    have e4 : irng 0 4 = [.int 0, .int 1, .int 2, .int 3] := rfl
    have i0 : fIx (.lst [.int a, .int b, .int c, .int d]) (.int 0) D' = .ok (.int a) D' := fIx_lst (L2.atI_nat (j := 0) rfl)
    have i1 : fIx (.lst [.int a, .int b, .int c, .int d]) (.int 1) D' = .ok (.int b) D' := fIx_lst (L2.atI_nat (j := 1) rfl)
    have i2 : fIx (.lst [.int a, .int b, .int c, .int d]) (.int 2) D' = .ok (.int c) D' := fIx_lst (L2.atI_nat (j := 2) rfl)
    have i3 : fIx (.lst [.int a, .int b, .int c, .int d]) (.int 3) D' = .ok (.int d) D' := fIx_lst (L2.atI_nat (j := 3) rfl)
    simp [f__law_page, b__law_page, runB_ev, e1, e4, compL_consA, c1__law_page, ea, eb, ec, ed, i0, i1, i2, i3, Pg.toD]
  · by_cases c1 : w = 1
    · subst c1
      obtain ⟨a, A, ea, a0, a1, Ea⟩ := draw E1.tp (m := 61) (by omega)
      refine ⟨.free a, A, ?_, ⟨a0, by omega⟩, ⟨z0, z1, by simp [bodyL, dig2_len]; omega⟩, E1.trans Ea⟩
      simp [f__law_page, b__law_page, runB_ev, e1, ea, Pg.toD]
    · by_cases c2 : w = 2
      · subst c2
        obtain ⟨a, A, ea, a0, a1, Ea⟩ := draw E1.tp (m := (sz : Int) - 7) (by omega)
        obtain ⟨b, B, eb, b0, b1, Eb⟩ := draw Ea.tp (m := 3) (by omega)
        obtain ⟨n, ⟨n0, n1⟩, en⟩ := ix_ints (P := fun z => 1 ≤ z ∧ z ≤ (sz : Int) - 7) (ns := [1 + a, (sz : Int) - 7, 1]) (i := b) (by omega) (by simp; omega) (fun z hz => by
          simp only [List.mem_cons, List.mem_nil_iff, or_false] at hz
          rcases hz with rfl | rfl | rfl <;> omega)
        simp only [List.map_cons, List.map_nil] at en
        obtain ⟨t, C, t1, t2, et, Et⟩ := text_ok Eb.tp (sz := n) (by omega) (by omega)
        obtain ⟨d, D', ed, d0, d1, Ed⟩ := draw Et.tp (m := 61) (by omega)
        refine ⟨.rest t d, D', ?_, ⟨al_txt t2, by omega, by omega, d0, by omega⟩, ⟨z0, z1, by simp [bodyL, dig2_len]; omega⟩, (((E1.trans Ea).trans Eb).trans Et).trans Ed⟩
        simp [f__law_page, b__law_page, runB_ev, e1, ea, eb, en, et, ed, Pg.toD]
      · by_cases c3 : w = 3
        · subst c3
          obtain ⟨a, A, ea, a0, a1, Ea⟩ := draw E1.tp (m := 60) (by omega)
          obtain ⟨b, B, eb, b0, b1, Eb⟩ := draw Ea.tp (m := 10) (by omega)
          obtain ⟨ks, C, R, kl, ek, Ek⟩ := keys_ok Eb.tp b0 b1
          obtain ⟨p, D', y7, y8, el, i1, i2, El⟩ := page_loop R kl z0 z1 (x3 := some (.int 3)) (x4 := none) (x5 := none) (x9 := none) ks [] (.fork [] [1 + a]) C none none rfl Ek.tp ⟨List.nil_sublist _, rfl, fun n hn => by rw [List.mem_singleton.mp hn]; exact ⟨by omega, by omega⟩⟩ ⟨z0, z1, by simp [bodyL, dig2_len, dig1_len]; omega⟩
          refine ⟨p, D', ?_, i1.good R kl, i2, (((E1.trans Ea).trans Eb).trans Ek).trans El⟩
          rw [show (Pg.fork [] [1 + a]).toD = .tup [.str "fork", .tup [], .tup [.int (1 + a)]] from rfl] at el
          simp [-dItL_ev, dItL_K, f__law_page, b__law_page, runB_ev, e1, ea, eb, ek, el]
        · obtain ⟨b, B, eb, b0, b1, Eb⟩ := draw E1.tp (m := 10) (by omega)
          obtain ⟨ks, C, R, kl, ek, Ek⟩ := keys_ok Eb.tp b0 b1
          obtain ⟨p, D', y7, y8, el, i1, i2, El⟩ := page_loop R kl z0 z1 (x3 := some (.int w)) (x4 := none) (x5 := none) (x9 := none) ks [] (.leaf []) C none none rfl Ek.tp ⟨List.nil_sublist _, fun r hr => by simp at hr⟩ ⟨z0, z1, by simp [bodyL, dig1_len]; omega⟩
          refine ⟨p, D', ?_, i1.good R kl, i2, ((E1.trans Eb).trans Ek).trans El⟩
          rw [show (Pg.leaf []).toD = .tup [.str "leaf", .tup []] from rfl] at el
          simp [-dItL_ev, dItL_K, f__law_page, b__law_page, runB_ev, e1, c0, c1, c2, c3, eb, ek, el]
theorem size_ok {ns : List Int} {M : Mem} (h : Tp ns M) : ∃ sz : Nat, ∃ M', 64 ≤ sz ∧ sz ≤ 200 ∧ f__law_size [.obj 0] M = .ok (.int (sz : Nat)) M' ∧ Ext ns M M' := by
  obtain ⟨a, A, ea, a0, a1, Ea⟩ := draw h (m := 137) (by omega)
  obtain ⟨b, B, eb, b0, b1, Eb⟩ := draw Ea.tp (m := 20) (by omega)
  obtain ⟨c, C, ec, c0, c1, Ec⟩ := draw Eb.tp (m := 4) (by omega)
  obtain ⟨n, ⟨n0, n1⟩, en⟩ := ix_ints (P := fun z => 64 ≤ z ∧ z ≤ 200) (ns := [64, 200, 64 + a, 64 + b]) (i := c) (by omega) (by simp; omega) (fun z hz => by
    simp only [List.mem_cons, List.mem_nil_iff, or_false] at hz
    rcases hz with rfl | rfl | rfl | rfl <;> omega)
  simp only [List.map_cons, List.map_nil] at en
  obtain ⟨s, rfl⟩ : ∃ s : Nat, n = s := ⟨n.toNat, by omega⟩
  refine ⟨s, C, by omega, by omega, ?_, (Ea.trans Eb).trans Ec⟩
  simp [f__law_size, b__law_size, runB_ev, ea, eb, ec, en]
end K10
set_option Elab.async false
set_option linter.all false
set_option maxRecDepth 100000
set_option maxHeartbeats 4000000
/-! K10: a disk. -/
namespace K10
open PySem PySem.Spec PyProof.Rows L2 LF
theorem Ext.fr {ns : List Int} {M M' : Mem} (h : Ext ns M M') : Fr [0] M M' := ⟨h.len, fun j hj n => h.get j (by simp at n; omega) hj⟩
def DO (sz ti li : Nat) (b : Int) : MO := .ins "Disk" [("size", .int (sz : Nat)), ("texts", .obj ti), ("lines", .obj li), ("begun", .int b), ("due", .non), ("cut", .int 0), ("on", .bl true)]
theorem init_disk {M : Mem} {sz : Nat} (z0 : 64 ≤ sz) (z1 : sz ≤ 200) : f_Disk___init__ [.obj M.length, .int (sz : Nat)] (M ++ [.ins "Disk" []]) = .ok .non (M ++ [DO sz (M.length + 1) (M.length + 2) 0, .lst [], .lst []]) := by
  have z := is_size_ok (M := M ++ [.ins "Disk" []]) z0 z1
  have p1 := fun r => putAttr_at (r := r) (M := M) (d := .int (sz : Nat)) (ok := okF itab "size") (f := "size") (c := "Disk") (fs := []) (X := []) rfl (by decide)
  have p2 := fun r => putAttr_at (r := r) (M := M) (d := .obj (M.length + 1)) (ok := okF itab "texts") (f := "texts") (c := "Disk") (fs := putFD "size" (.int (sz : Nat)) []) (X := [.lst []]) rfl (by exact (by decide : (1 : Nat) < 1000))
  have p3 := fun r => putAttr_at (r := r) (M := M) (d := .obj (M.length + 2)) (ok := okF itab "lines") (f := "lines") (c := "Disk") (fs := putFD "texts" (.obj (M.length + 1)) (putFD "size" (.int (sz : Nat)) [])) (X := [.lst [], .lst []]) rfl (by exact (by decide : (2 : Nat) < 1000))
  have p4 := fun r => putAttr_at (r := r) (M := M) (d := .int 0) (ok := okF itab "begun") (f := "begun") (c := "Disk") (fs := putFD "lines" (.obj (M.length + 2)) (putFD "texts" (.obj (M.length + 1)) (putFD "size" (.int (sz : Nat)) []))) (X := [.lst [], .lst []]) rfl (by exact (by decide : (3 : Nat) < 1000))
  have p5 := fun r => putAttr_at (r := r) (M := M) (d := .non) (ok := okF itab "due") (f := "due") (c := "Disk") (fs := putFD "begun" (.int 0) (putFD "lines" (.obj (M.length + 2)) (putFD "texts" (.obj (M.length + 1)) (putFD "size" (.int (sz : Nat)) [])))) (X := [.lst [], .lst []]) rfl (by exact (by decide : (4 : Nat) < 1000))
  have p6 := fun r => putAttr_at (r := r) (M := M) (d := .int 0) (ok := okF itab "cut") (f := "cut") (c := "Disk") (fs := putFD "due" .non (putFD "begun" (.int 0) (putFD "lines" (.obj (M.length + 2)) (putFD "texts" (.obj (M.length + 1)) (putFD "size" (.int (sz : Nat)) []))))) (X := [.lst [], .lst []]) rfl (by exact (by decide : (5 : Nat) < 1000))
  have p7 := fun r => putAttr_at (r := r) (M := M) (d := .bl true) (ok := okF itab "on") (f := "on") (c := "Disk") (fs := putFD "cut" (.int 0) (putFD "due" .non (putFD "begun" (.int 0) (putFD "lines" (.obj (M.length + 2)) (putFD "texts" (.obj (M.length + 1)) (putFD "size" (.int (sz : Nat)) [])))))) (X := [.lst [], .lst []]) rfl (by exact (by decide : (6 : Nat) < 1000))
  simp [f_Disk___init__, b_Disk___init__, runB_ev, z, p1, p2, p3, p4, p5, p6, p7]
  rfl
def tD (sz : Nat) (T : List Pg) : List D := T.map fun p => .str (tx (textL p sz))
section
variable {M : Mem} {i ti li sz : Nat} {b : Int} {T : List Pg}
theorem begin_one (h : M[i]? = some (DO sz ti li b)) : f_Disk_begin_one [.obj i] M = .ok .non (M.set i (DO sz ti li (b + 1))) := by
  have a1 : fAttr (okF itab "on") "on" (.obj i) M = .ok (.bl true) M := fAttr_of h rfl rfl
  have a2 : fAttr (okF itab "begun") "begun" (.obj i) M = .ok (.int b) M := fAttr_of h rfl rfl
  have p : ∀ r, putAttr (okF itab "begun") "begun" (.obj i) (.int (b + 1)) r M = .nx r (M.set i (DO sz ti li (b + 1))) := fun r => putAttr_of h rfl (by exact (by decide : (7 : Nat) < 1000))
  have a3 : fAttr (okF itab "due") "due" (.obj i) (M.set i (DO sz ti li (b + 1))) = .ok .non (M.set i (DO sz ti li (b + 1))) := fAttr_of (at_set h) rfl rfl
  generalize M.set i (DO sz ti li (b + 1)) = M1 at *
  have a4 : fIsN true .non .non M1 = .ok (.bl false) M1 := rfl
  simp [f_Disk_begin_one, b_Disk_begin_one, runB_ev, a1, a2, p, a3, a4]
theorem end_one (h : M[i]? = some (DO sz ti li b)) : f_Disk_end_one [.obj i] M = .ok .non M := by
  have a1 : fAttr (okF itab "on") "on" (.obj i) M = .ok (.bl true) M := fAttr_of h rfl rfl
  simp [f_Disk_end_one, b_Disk_end_one, runB_ev, a1]
theorem part_of (h : M[i]? = some (DO sz ti li b)) (x y : D) : f_Disk_part_of [.obj i, x, y] M = .ok x M := by
  have a1 : fAttr (okF itab "on") "on" (.obj i) M = .ok (.bl true) M := fAttr_of h rfl rfl
  simp [f_Disk_part_of, b_Disk_part_of, runB_ev, a1]
theorem pages_ok (h : M[i]? = some (DO sz ti li b)) (ht : M[ti]? = some (.lst (tD sz T))) (hl : T.length ≤ 1000) : f_Disk_pages [.obj i] M = .ok (.lst (tD sz T)) M := by
  have a1 : fAttr (okF itab "texts") "texts" (.obj i) M = .ok (.obj ti) M := fAttr_of h rfl rfl
  have a2 : fListOf false [.obj ti] M = .ok (.lst (tD sz T)) M := by rw [fListOf_obj ht, newL_f (by simp [tD]; omega)]
  simp [f_Disk_pages, b_Disk_pages, runB_ev, a1, a2]
theorem rows_ok (h : M[i]? = some (DO sz ti li b)) (ht : M[li]? = some (.lst [])) : f_Disk_rows [.obj i] M = .ok (.lst []) M := by
  have a1 : fAttr (okF itab "lines") "lines" (.obj i) M = .ok (.obj li) M := fAttr_of h rfl rfl
  have a2 : fListOf false [.obj li] M = .ok (.lst []) M := by rw [fListOf_obj ht, newL_f (by simp)]
  simp [f_Disk_rows, b_Disk_rows, runB_ev, a1, a2]
theorem writes_ok (h : M[i]? = some (DO sz ti li b)) : f_Disk_writes [.obj i] M = .ok (.int b) M := by
  have a1 : fAttr (okF itab "begun") "begun" (.obj i) M = .ok (.int b) M := fAttr_of h rfl rfl
  simp [f_Disk_writes, b_Disk_writes, runB_ev, a1]
/-- a page's number n gets another one, or it comes behind all -/
def setP (T : List Pg) (n : Nat) (p : Pg) : List Pg := T.take n ++ p :: T.drop (n + 1)
theorem setP_len {T : List Pg} {n : Nat} {p : Pg} (h : n ≤ T.length) : (setP T n p).length = max T.length (n + 1) := by
  simp [setP]
  omega
theorem tD_set {T : List Pg} {n : Nat} {p : Pg} (h : n < T.length) : (tD sz T).set n (.str (tx (textL p sz))) = tD sz (setP T n p) := by
  rw [List.set_eq_take_append_cons_drop, if_pos (by simpa [tD] using h)]
  simp [tD, setP, List.map_take, List.map_drop]
theorem tD_end {T : List Pg} {p : Pg} {x : D} : ((tD sz T) ++ [x]).set T.length (.str (tx (textL p sz))) = tD sz (setP T T.length p) := by
  have e : (tD sz T).length = T.length := by simp [tD]
  rw [List.set_append_right _ _ (by omega), e, Nat.sub_self]
  simp [tD, setP]
theorem write_A {M M1 M2 M4 : Mem} {N L S : Int} {t : Str} {pg d : D} (w1 : f_is_whole [.int N] M = .ok (.bl true) M) (a1 : fAttr (okF itab "texts") "texts" (.obj i) M = .ok (.obj ti) M) (l1 : fLen [.obj ti] M = .ok (.int L) M) (h0 : 0 ≤ N) (hn : N ≤ L) (t1 : f_is_text [.str t] M = .ok (.bl true) M) (l2 : fLen [.str t] M = .ok (.int S) M) (a2 : fAttr (okF itab "size") "size" (.obj i) M = .ok (.int S) M)
    (e1 : f_page_of [.str t] M = .ok pg M1) (b1 : ∀ r, methK1 "begin_one" mt_begin_one (.ok (.obj i) M1) dNil r = .ok .non M2) (g2 : fAttr (okF itab "texts") "texts" (.obj i) M2 = .ok (.obj ti) M2) (l3 : fLen [.obj ti] M2 = .ok (.int L) M2) (c : ¬ N = L) (g1 : fIx (.obj ti) (.int N) M2 = .ok d M2)
    (g4 : ∀ da r, methK1 "part_of" mt_part_of (.ok (.obj i) M2) da r = methK2 f_Disk_part_of 3 (.obj i) (da r M2)) (g3 : ∀ x y, f_Disk_part_of [.obj i, x, y] M2 = .ok x M2) (g5 : ∀ r, setAt (.obj ti) (.int N) (.str t) r M2 = .ok r M4) (g6 : ∀ r, methK1 "end_one" mt_end_one (.ok (.obj i) M4) dNil r = .ok .non M4) : f_Disk_write [.obj i, .int N, .str t] M = .ok .non M4 := by
  simp [f_Disk_write, b_Disk_write, runB_ev, w1, a1, l1, h0, hn, t1, l2, a2, e1, b1, g2, l3, decide_eq_false c, g1, g3, g4, g5, g6]
theorem write_B {M M1 M2 M3 M4 : Mem} {N S : Int} {t bl : Str} {pg d : D} (w1 : f_is_whole [.int N] M = .ok (.bl true) M) (a1 : fAttr (okF itab "texts") "texts" (.obj i) M = .ok (.obj ti) M) (l1 : fLen [.obj ti] M = .ok (.int N) M) (h0 : 0 ≤ N) (t1 : f_is_text [.str t] M = .ok (.bl true) M) (l2 : fLen [.str t] M = .ok (.int S) M) (a2 : fAttr (okF itab "size") "size" (.obj i) M = .ok (.int S) M)
    (e1 : f_page_of [.str t] M = .ok pg M1) (b1 : ∀ r, methK1 "begin_one" mt_begin_one (.ok (.obj i) M1) dNil r = .ok .non M2) (a3 : fAttr (okF itab "texts") "texts" (.obj i) M2 = .ok (.obj ti) M2) (l3 : fLen [.obj ti] M2 = .ok (.int N) M2) (a5 : fAttr (okF itab "size") "size" (.obj i) M2 = .ok (.int S) M2) (a6 : fRep false (.str " ") (.int S) M2 = .ok (.str bl) M2)
    (a7 : ∀ (de : DE) r, appK1 (.ok (.obj ti) M2) de r = appK2 (.obj ti) (de r M2)) (ap : appAt (.obj ti) (.str bl) M2 = .ok .non M3) (g2 : fAttr (okF itab "texts") "texts" (.obj i) M3 = .ok (.obj ti) M3) (g1 : fIx (.obj ti) (.int N) M3 = .ok d M3)
    (g4 : ∀ da r, methK1 "part_of" mt_part_of (.ok (.obj i) M3) da r = methK2 f_Disk_part_of 3 (.obj i) (da r M3)) (g3 : ∀ x y, f_Disk_part_of [.obj i, x, y] M3 = .ok x M3) (g5 : ∀ r, setAt (.obj ti) (.int N) (.str t) r M3 = .ok r M4) (g6 : ∀ r, methK1 "end_one" mt_end_one (.ok (.obj i) M4) dNil r = .ok .non M4) : f_Disk_write [.obj i, .int N, .str t] M = .ok .non M4 := by
  simp [f_Disk_write, b_Disk_write, runB_ev, w1, a1, l1, h0, t1, l2, a2, e1, b1, a3, l3, a5, a6, a7, ap, g2, g1, g3, g4, g5, g6]
theorem write_ok (h : M[i]? = some (DO sz ti li b)) (ht : M[ti]? = some (.lst (tD sz T))) (hit : i ≠ ti) (hl : T.length ≤ 1000) {n : Nat} (hn : n ≤ T.length) {p : Pg} (hp : Good p) (f : Fit p sz) :
    ∃ M', f_Disk_write [.obj i, .int (n : Nat), .str (tx (textL p sz))] M = .ok .non M' ∧ M'[i]? = some (DO sz ti li (b + 1)) ∧ M'[ti]? = some (.lst (tD sz (setP T n p))) ∧ Fr [i, ti] M M' := by
  have tl : (tD sz T).length = T.length := by simp [tD]
  have w1 := is_whole_int n M
  have a1 : fAttr (okF itab "texts") "texts" (.obj i) M = .ok (.obj ti) M := fAttr_of h rfl rfl
  have l1 : fLen [.obj ti] M = .ok (.int (T.length : Nat)) M := by rw [fLen_obj ht, tl]
  have t1 := is_text_ok (M := M) (textL_ok (sz := sz) hp) (by rw [textL_len f]; have := f.hi; omega)
  have l2 := fLen_tx (M := M) (l := textL p sz) (by rw [textL_len f]; have := f.hi; omega)
  rw [textL_len f] at l2
  have a2 : fAttr (okF itab "size") "size" (.obj i) M = .ok (.int (sz : Nat)) M := fAttr_of h rfl rfl
  obtain ⟨X, e1⟩ := page_of_ok (M := M) hp f
  have h1 : (M ++ X)[i]? = some (DO sz ti li b) := at_app h
  have ht1 : (M ++ X)[ti]? = some (.lst (tD sz T)) := at_app ht
  have F1 : Fr [i, ti] M (M ++ X) := Fr.app
  generalize M ++ X = M1 at *
  have b1 : ∀ r, methK1 "begin_one" mt_begin_one (.ok (.obj i) M1) dNil r = .ok .non (M1.set i (DO sz ti li (b + 1))) := fun r => meth0 h1 rfl rfl (begin_one h1)
  have h2 : (M1.set i (DO sz ti li (b + 1)))[i]? = some (DO sz ti li (b + 1)) := at_set h1
  have ht2 : (M1.set i (DO sz ti li (b + 1)))[ti]? = some (.lst (tD sz T)) := at_ne ht1 hit
  have F2 : Fr [i, ti] M (M1.set i (DO sz ti li (b + 1))) := F1.trans (Fr.set (by simp))
  generalize M1.set i (DO sz ti li (b + 1)) = M2 at *
  have a3 : fAttr (okF itab "texts") "texts" (.obj i) M2 = .ok (.obj ti) M2 := fAttr_of h2 rfl rfl
  have l3 : fLen [.obj ti] M2 = .ok (.int (T.length : Nat)) M2 := by rw [fLen_obj ht2, tl]
  have fin : ∀ (M3 : Mem) (ds : List D), M3[i]? = some (DO sz ti li (b + 1)) → M3[ti]? = some (.lst ds) → n < ds.length → ds.set n (.str (tx (textL p sz))) = tD sz (setP T n p) → Fr [i, ti] M M3 →
      (∃ d, fIx (.obj ti) (.int (n : Nat)) M3 = .ok d M3) ∧ fAttr (okF itab "texts") "texts" (.obj i) M3 = .ok (.obj ti) M3 ∧ (∀ x y, f_Disk_part_of [.obj i, x, y] M3 = .ok x M3) ∧ (∀ da r, methK1 "part_of" mt_part_of (.ok (.obj i) M3) da r = methK2 f_Disk_part_of 3 (.obj i) (da r M3)) ∧
      (∀ r, setAt (.obj ti) (.int (n : Nat)) (.str (tx (textL p sz))) r M3 = .ok r (M3.set ti (.lst (tD sz (setP T n p))))) ∧ (∀ r, methK1 "end_one" mt_end_one (.ok (.obj i) (M3.set ti (.lst (tD sz (setP T n p))))) dNil r = .ok .non (M3.set ti (.lst (tD sz (setP T n p))))) ∧
      (M3.set ti (.lst (tD sz (setP T n p))))[i]? = some (DO sz ti li (b + 1)) ∧ (M3.set ti (.lst (tD sz (setP T n p))))[ti]? = some (.lst (tD sz (setP T n p))) ∧ Fr [i, ti] M (M3.set ti (.lst (tD sz (setP T n p)))) := fun M3 ds q1 q2 q3 q4 q5 => by
    have q6 : (M3.set ti (.lst (tD sz (setP T n p))))[i]? = some (DO sz ti li (b + 1)) := at_ne q1 (Ne.symm hit)
    exact ⟨⟨ds[n], fIx_obj q2 (L2.atI_nat (List.getElem?_eq_getElem q3))⟩, fAttr_of q1 rfl rfl, part_of q1, fun da r => methK1_of q1 rfl rfl, fun r => by rw [setAt_of q2 q3, q4], fun r => meth0 q6 rfl rfl (end_one q6), q6, at_set q2, q5.trans (Fr.set (by simp))⟩
  by_cases c : n = T.length
  · subst c
    have a5 : fAttr (okF itab "size") "size" (.obj i) M2 = .ok (.int (sz : Nat)) M2 := fAttr_of h2 rfl rfl
    have zr := f.hi
    have a6 := fRep_str (M := M2) (ar := false) (s := " ") (j := (sz : Nat)) (by omega) (by omega) (by simp [show (Str.ofString " ").length = 1 from rfl]; omega)
    generalize Txt.mul " " (sz : Nat) = bl at a6
    have ap := appAt_of (y := .str bl) ht2 (by rw [tl]; omega)
    have h3 : (M2.set ti (.lst (tD sz T ++ [.str bl])))[i]? = some (DO sz ti li (b + 1)) := at_ne h2 (Ne.symm hit)
    obtain ⟨⟨d, g1⟩, g2, g3, g4, g5, g6, g7, g8, g9⟩ := fin _ _ h3 (at_set ht2) (by simp [tl]) tD_end (F2.trans (Fr.set (by simp)))
    exact ⟨_, write_B w1 a1 l1 (by omega) t1 l2 a2 e1 b1 a3 l3 a5 a6 (fun de r => appK1_of ht2) ap g2 g1 g4 g3 g5 g6, g7, g8, g9⟩
  · have cz : ¬ ((n : Int) = (T.length : Int)) := by omega
    obtain ⟨⟨d, g1⟩, g2, g3, g4, g5, g6, g7, g8, g9⟩ := fin M2 _ h2 ht2 (by rw [tl]; omega) (tD_set (by omega)) F2
    exact ⟨_, write_A w1 a1 l1 (by omega) (by omega) t1 l2 a2 e1 b1 g2 l3 cz g1 g4 g3 g5 g6, g7, g8, g9⟩
end
end K10
set_option Elab.async false
set_option linter.all false
set_option maxRecDepth 100000
set_option maxHeartbeats 4000000
/-! K10: a shelf. -/
namespace K10
open PySem PySem.Spec PyProof.Rows L2 LF
/-! ### dicts by numbers -/
abbrev NP := List (Nat × Pg)
def thD (L : NP) : List (Key × D) := L.map fun x => (.inl (x.1 : Int), x.2.toD)
def alD (A : List Nat) : List (Key × D) := A.map fun n : Nat => (.inl (n : Int), .bl true)
def lk (L : NP) (n : Nat) : Option Pg := (L.find? fun x => decide (x.1 = n)).map (·.2)
def rem (L : NP) (n : Nat) : NP := L.filter fun x => decide (x.1 ≠ n)
def ks (L : NP) : List Nat := L.map (·.1)
theorem inl_iff {a b : Nat} : (Sum.inl (a : Int) : Key) = .inl (b : Int) ↔ a = b := by
  constructor
  · intro h
    have := Sum.inl.inj h
    omega
  · rintro rfl; rfl
theorem look_th (L : NP) (n : Nat) : lookD (thD L) (.inl (n : Int)) = (lk L n).map Pg.toD := by
  unfold lookD thD lk
  induction L with
  | nil => rfl
  | cons x L ih =>
    rw [List.map_cons, List.find?_cons, List.find?_cons]
    by_cases h : x.1 = n
    · rw [decide_eq_true (inl_iff.mpr h), decide_eq_true h]; rfl
    · rw [decide_eq_false (fun z => h (inl_iff.mp z)), decide_eq_false h]; exact ih
theorem look_al (A : List Nat) (n : Nat) : (lookD (alD A) (.inl (n : Int))).isSome = decide (n ∈ A) ∧ (n ∈ A → lookD (alD A) (.inl (n : Int)) = some (.bl true)) := by
  unfold lookD alD
  induction A with
  | nil => exact ⟨rfl, fun h => by simp at h⟩
  | cons a A ih =>
    rw [List.map_cons, List.find?_cons]
    by_cases h : a = n
    · rw [decide_eq_true (inl_iff.mpr h)]
      exact ⟨by simp [h], fun _ => rfl⟩
    · rw [decide_eq_false (fun z => h (inl_iff.mp z))]
      refine ⟨?_, fun hm => ih.2 (by simpa [Ne.symm h] using hm)⟩
      rw [ih.1]
      simp [Ne.symm h]
theorem drop_th (L : NP) (n : Nat) : dropD (thD L) (.inl (n : Int)) = thD (rem L n) := by
  unfold dropD thD rem
  rw [List.filter_map]
  congr 1
  refine List.filter_congr fun x _ => ?_
  simp only [Function.comp]
  by_cases h : x.1 = n
  · simp [h]
  · have : ¬ ((x.1 : Int) = n) := by omega
    simp [h, this]
theorem drop_al (A : List Nat) (n : Nat) : dropD (alD A) (.inl (n : Int)) = alD (A.filter fun x => decide (x ≠ n)) := by
  unfold dropD alD
  rw [List.filter_map]
  congr 1
  refine List.filter_congr fun x _ => ?_
  simp only [Function.comp]
  by_cases h : x = n
  · simp [h]
  · have : ¬ ((x : Int) = n) := by omega
    simp [h, this]
theorem put_new {L : NP} {n : Nat} {p : Pg} (h : n ∉ ks L) : putD (thD L) (.inl (n : Int)) p.toD = thD (L ++ [(n, p)]) := by
  unfold putD
  rw [if_neg]
  · simp [thD]
  · rw [List.any_eq_true]
    rintro ⟨kv, hk, e⟩
    obtain ⟨x, hx, rfl⟩ := List.mem_map.mp hk
    exact h (List.mem_map.mpr ⟨x, hx, inl_iff.mp (of_decide_eq_true e)⟩)
/-- a number's page is another one from now on -/
def up (L : NP) (n : Nat) (p : Pg) : NP := if n ∈ ks L then L.map (fun x => if x.1 = n then (n, p) else x) else L ++ [(n, p)]
theorem put_up (L : NP) (n : Nat) (p : Pg) : putD (thD L) (.inl (n : Int)) p.toD = thD (up L n p) := by
  by_cases h : n ∈ ks L
  · unfold putD up
    rw [if_pos h, if_pos]
    · unfold thD
      rw [List.map_map, List.map_map]
      refine List.map_congr_left fun x _ => ?_
      simp only [Function.comp]
      by_cases e : x.1 = n
      · rw [if_pos (inl_iff.mpr e), if_pos e, e]
      · rw [if_neg (fun z => e (inl_iff.mp z)), if_neg e]
    · rw [List.any_eq_true]
      obtain ⟨x, hx, e⟩ := List.mem_map.mp h
      exact ⟨_, List.mem_map.mpr ⟨x, hx, rfl⟩, decide_eq_true (inl_iff.mpr e)⟩
  · rw [put_new h]
    unfold up
    rw [if_neg h]
def upA (A : List Nat) (n : Nat) : List Nat := if n ∈ A then A else A ++ [n]
theorem put_al (A : List Nat) (n : Nat) : putD (alD A) (.inl (n : Int)) (.bl true) = alD (upA A n) := by
  unfold putD upA
  by_cases h : n ∈ A
  · rw [if_pos h, if_pos]
    · unfold alD
      rw [List.map_map]
      refine List.map_congr_left fun x _ => ?_
      simp only [Function.comp]
      split <;> rfl
    · rw [List.any_eq_true]
      exact ⟨_, List.mem_map.mpr ⟨n, h, rfl⟩, decide_eq_true rfl⟩
  · rw [if_neg h, if_neg]
    · simp [alD]
    · rw [List.any_eq_true]
      rintro ⟨kv, hk, e⟩
      obtain ⟨x, hx, rfl⟩ := List.mem_map.mp hk
      exact h (inl_iff.mp (of_decide_eq_true e) ▸ hx)
theorem up_ks (L : NP) (n : Nat) (p : Pg) : ks (up L n p) = upA (ks L) n := by
  unfold up upA
  by_cases h : n ∈ ks L
  · rw [if_pos h, if_pos h]
    unfold ks
    rw [List.map_map]
    refine List.map_congr_left fun x _ => ?_
    simp only [Function.comp]
    split
    · rename_i e; exact e.symm
    · rfl
  · rw [if_neg h, if_neg h]
    simp [ks]
theorem rem_ks (L : NP) (n : Nat) : ks (rem L n) = (ks L).filter fun x => decide (x ≠ n) := by
  unfold ks rem
  rw [List.filter_map]
  rfl
theorem rem_sub (L : NP) (n : Nat) : (rem L n).Sublist L := List.filter_sublist
theorem find_fst {L : NP} {n : Nat} {x : Nat × Pg} (e : L.find? (fun x => decide (x.1 = n)) = some x) : x.1 = n := by
  have h := List.find?_some e
  simpa using h
theorem lk_mem {L : NP} {n : Nat} {p : Pg} (h : lk L n = some p) : (n, p) ∈ L := by
  unfold lk at h
  cases e : L.find? fun x => decide (x.1 = n) with
  | none => rw [e] at h; cases h
  | some x =>
    rw [e] at h; cases h
    have h1 := List.mem_of_find?_eq_some e
    have h2 := find_fst e
    rw [← h2]
    exact h1
theorem lk_none {L : NP} {n : Nat} : lk L n = none ↔ n ∉ ks L := by
  unfold lk ks
  rw [Option.map_eq_none_iff, List.find?_eq_none]
  constructor
  · intro h hm
    obtain ⟨x, hx, e⟩ := List.mem_map.mp hm
    exact h x hx (decide_eq_true e)
  · intro h x hx e
    exact h (List.mem_map.mpr ⟨x, hx, of_decide_eq_true e⟩)
theorem lk_some {L : NP} {n : Nat} (h : n ∈ ks L) : ∃ p, lk L n = some p := by
  cases e : lk L n with
  | none => exact absurd h (lk_none.mp e)
  | some p => exact ⟨p, rfl⟩
theorem lk_of {L : NP} {n : Nat} {p : Pg} (nd : (ks L).Nodup) (h : (n, p) ∈ L) : lk L n = some p := by
  obtain ⟨q, hq⟩ := lk_some (List.mem_map.mpr ⟨_, h, rfl⟩ : n ∈ ks L)
  rw [hq]
  have hm := lk_mem hq
  congr 1
  induction L with
  | nil => simp at h
  | cons x L ih =>
    unfold ks at nd
    rw [List.map_cons, List.nodup_cons] at nd
    rcases List.mem_cons.mp h with e | h
    · rcases List.mem_cons.mp hm with e2 | hm
      · have := e.trans e2.symm
        exact (Prod.mk.inj this).2.symm
      · exact absurd (List.mem_map.mpr ⟨_, hm, rfl⟩) (by rw [← e] at nd; exact nd.1)
    · rcases List.mem_cons.mp hm with e2 | hm
      · exact absurd (List.mem_map.mpr ⟨_, h, rfl⟩) (by rw [← e2] at nd; exact nd.1)
      · by_cases q1 : x.1 = n
        · exact absurd (List.mem_map.mpr ⟨_, h, q1.symm⟩) nd.1
        · refine ih nd.2 h ?_ hm
          unfold lk at hq ⊢
          rw [List.find?_cons, decide_eq_false q1] at hq
          exact hq
theorem lk_app {L K : NP} {n : Nat} : lk (L ++ K) n = (lk L n).or (lk K n) := by
  unfold lk
  rw [List.find?_append]
  cases L.find? fun x => decide (x.1 = n) <;> rfl
theorem lk_up (L : NP) (n m : Nat) (p : Pg) : lk (up L n p) m = if m = n then some p else lk L m := by
  unfold up
  by_cases h : n ∈ ks L
  · rw [if_pos h]
    unfold lk
    rw [List.find?_map]
    have hc : ((fun x : Nat × Pg => decide (x.1 = m)) ∘ fun x => if x.1 = n then (n, p) else x) = fun x => decide (x.1 = m) := funext fun x => by
      simp only [Function.comp]
      split
      · rename_i e; rw [e]
      · rfl
    rw [hc]
    by_cases hm : m = n
    · subst hm
      rw [if_pos rfl]
      obtain ⟨q, hq⟩ := lk_some h
      unfold lk at hq
      cases e : L.find? fun x => decide (x.1 = m) with
      | none => rw [e] at hq; cases hq
      | some x =>
        have := find_fst e
        simp [this]
    · rw [if_neg hm]
      cases e : L.find? fun x => decide (x.1 = m) with
      | none => rfl
      | some x =>
        have := find_fst e
        have ne : ¬ x.1 = n := fun z => hm (this.symm.trans z)
        simp [ne]
  · rw [if_neg h, lk_app]
    by_cases hm : m = n
    · subst hm
      rw [if_pos rfl, lk_none.mpr h]
      simp [lk]
    · rw [if_neg hm]
      have : lk [(n, p)] m = none := by simp [lk, Ne.symm hm]
      rw [this]
      cases lk L m <;> rfl
theorem lk_rem (L : NP) (n m : Nat) : lk (rem L n) m = if m = n then none else lk L m := by
  by_cases hm : m = n
  · subst hm
    rw [if_pos rfl, lk_none, rem_ks]
    simp
  · rw [if_neg hm]
    unfold lk rem
    rw [List.find?_filter]
    congr 1
    congr 1
    funext x
    by_cases e : x.1 = m
    · simp [e, hm]
    · simp [e]
/-! ### thin -/
def SO (di th al : Nat) (mo c : Int) : MO := .ins "Shelf" [("disk", .obj di), ("most", .int mo), ("there", .obj th), ("altered", .obj al), ("came", .int c)]
theorem set_same {M : Mem} {i : Nat} {o : MO} (h : M[i]? = some o) : M.set i o = M := by
  apply List.ext_getElem?
  intro j
  by_cases e : i = j
  · subst e
    rw [h, List.getElem?_set_self (List.getElem?_eq_some_iff.mp h).1]
  · rw [List.getElem?_set_ne e]
section
variable {M : Mem} {s di th al : Nat} {mo c : Int}
theorem at_there (h : M[s]? = some (SO di th al mo c)) : fAttr (okF itab "there") "there" (.obj s) M = .ok (.obj th) M := fAttr_of h rfl rfl
theorem at_alt (h : M[s]? = some (SO di th al mo c)) : fAttr (okF itab "altered") "altered" (.obj s) M = .ok (.obj al) M := fAttr_of h rfl rfl
theorem at_most (h : M[s]? = some (SO di th al mo c)) : fAttr (okF itab "most") "most" (.obj s) M = .ok (.int mo) M := fAttr_of h rfl rfl
theorem at_disk (h : M[s]? = some (SO di th al mo c)) : fAttr (okF itab "disk") "disk" (.obj s) M = .ok (.obj di) M := fAttr_of h rfl rfl
theorem at_came (h : M[s]? = some (SO di th al mo c)) : fAttr (okF itab "came") "came" (.obj s) M = .ok (.int c) M := fAttr_of h rfl rfl
theorem thin_step {kvs : List (Key × D)} {N : Int} {d : D} (h : M[s]? = some (SO di th al mo c)) (ht : M[th]? = some (.dic kvs)) (hL : lookD kvs (.inl N) = some d) :
    l3_Shelf_thin [some (.obj s), some (.int N)] M = .nx [some (.obj s), some (.int N)] (if mo < (kvs.length : Int) then M.set th (.dic (dropD kvs (.inl N))) else M) := by
  have a1 := at_there h
  have a2 := at_most h
  have l1 := fLen_dic ht
  have k1 : ∀ (db : DE) r, dpopK1 (.ok (.obj th) M) db r = dpopK2 (.obj th) (db r M) := fun db r => dpopK1_of ht
  have k2 : dpopAt (.obj th) (.int N) none M = .ok d (M.set th (.dic (dropD kvs (.inl N)))) := dpopAt_in rfl ht hL
  obtain ⟨K, hK⟩ : ∃ K : Int, (kvs.length : Int) = K := ⟨_, rfl⟩
  rw [hK] at l1 ⊢
  by_cases q : mo < K
  · simp [l3_Shelf_thin, a1, a2, l1, q, k1, k2]
  · simp [l3_Shelf_thin, a1, a2, l1, decide_eq_false q, if_neg q]
theorem thin_loop (hs : s ≠ th) : ∀ (suf : List Nat) (L : NP) (M : Mem) (x : Option D), M[s]? = some (SO di th al mo c) → M[th]? = some (.dic (thD L)) → suf.Nodup → (∀ n ∈ suf, n ∈ ks L) →
    ∃ L' y, forL anyM (gSlot 1) l3_Shelf_thin (suf.map fun n : Nat => .int (n : Int)) [some (.obj s), x] M = .nx [some (.obj s), y] (M.set th (.dic (thD L'))) ∧ L'.Sublist L ∧ (∀ z ∈ L, z.1 ∉ suf → z ∈ L') ∧ ((L'.length : Int) ≤ mo ∨ ∀ z ∈ L', z.1 ∉ suf)
  | [], L, M, x, h, ht, _, _ => ⟨L, x, by rw [set_same ht]; simp, List.Sublist.refl _, fun z hz _ => hz, .inr fun z _ => by simp⟩
  | n :: suf, L, M, x, h, ht, nd, hm => by
    obtain ⟨p, hp⟩ := lk_some (hm n List.mem_cons_self)
    have hl : lookD (thD L) (.inl (n : Int)) = some p.toD := by rw [look_th, hp]; rfl
    have st := thin_step h ht hl
    rw [drop_th] at st
    have tl : ((thD L).length : Int) = L.length := by simp [thD]
    rw [tl] at st
    obtain ⟨nd1, nd2⟩ := List.nodup_cons.mp nd
    by_cases q : mo < (L.length : Int)
    · rw [if_pos q] at st
      obtain ⟨L', y, e1, i1, i2, i3⟩ := thin_loop hs suf (rem L n) (M.set th (.dic (thD (rem L n)))) (some (.int (n : Int))) (at_ne h (Ne.symm hs)) (at_set ht) nd2 (fun m hmem => by
        rw [rem_ks]
        exact List.mem_filter.mpr ⟨hm m (List.mem_cons_of_mem _ hmem), decide_eq_true fun z => nd1 (z ▸ hmem)⟩)
      refine ⟨L', y, ?_, i1.trans (rem_sub L n), fun z hz hn => ?_, ?_⟩
      · obtain ⟨N, hN⟩ : ∃ N : Int, (n : Int) = N := ⟨_, rfl⟩
        rw [List.set_set] at e1
        rw [List.map_cons]
        rw [hN] at st e1 ⊢
        simp [st, e1]
      · rw [List.mem_cons, not_or] at hn
        exact i2 z (List.mem_filter.mpr ⟨hz, decide_eq_true hn.1⟩) hn.2
      · rcases i3 with i3 | i3
        · exact .inl i3
        · refine .inr fun z hz => ?_
          rw [List.mem_cons, not_or]
          exact ⟨of_decide_eq_true (List.mem_filter.mp (i1.subset hz)).2, i3 z hz⟩
    · rw [if_neg q] at st
      obtain ⟨L', y, e1, i1, i2, i3⟩ := thin_loop hs suf L M (some (.int (n : Int))) h ht nd2 (fun m hmem => hm m (List.mem_cons_of_mem _ hmem))
      refine ⟨L', y, ?_, i1, fun z hz hn => ?_, .inl ?_⟩
      · obtain ⟨N, hN⟩ : ∃ N : Int, (n : Int) = N := ⟨_, rfl⟩
        rw [List.map_cons]
        rw [hN] at st e1 ⊢
        simp [st, e1]
      · rw [List.mem_cons, not_or] at hn
        exact i2 z hz hn.2
      · have := i1.length_le
        omega
theorem dLockE_of {sel de : DE} {r : Env'} {M M0 M2 : Mem} {n : Nat} {kvs kvs2 : List (Key × D)} {x : D} (hs : sel r M = .ok (.obj n) M0) (hM : M[n]? = some (.dic kvs)) (hd : de r (M.set n (.fz kvs)) = .ok x M2) (h2 : M2[n]? = some (.fz kvs2)) : dLockE sel de r M = .ok x (M2.set n (.dic kvs2)) := by
  unfold dLockE
  rw [hs]
  dsimp only
  rw [hM]
  dsimp only
  rw [hd]
  dsimp only
  rw [h2]
theorem itK_of {da : DE} {r : Env'} {n : Nat} {kvs : List (Key × D)} {M1 : Mem} (h : da r M = .ok (.obj n) M1) (hM : M1[n]? = some (.fz kvs)) : dItK da r M = .ok ⟨kvs.map fun kv => LF.keyD kv.1, anyM⟩ M1 := by
  unfold dItK
  rw [h]
  dsimp only [Out.bind]
  rw [hM]
theorem thin_comp {L : NP} {A : List Nat} (h : M[s]? = some (SO di th al mo c)) (ht : M[th]? = some (.dic (thD L))) (ha : M[al]? = some (.dic (alD A))) (h1 : s ≠ th) (h2 : al ≠ th) (hl : L.length ≤ 1000) {x : Option D} :
    dLockE (dUn (fAttr (okF itab "there") "there") (dVar 0)) (dComp (dItK (dUn (fAttr (okF itab "there") "there") (dVar 0))) (gSlot 1) t2_Shelf_thin c1_Shelf_thin [1]) [some (.obj s), x] M = .ok (.lst (((ks L).filter fun n => decide (n ∉ A)).map fun n : Nat => .int (n : Int))) M := by
  have g1 : (M.set th (.fz (thD L)))[s]? = some (SO di th al mo c) := at_ne h (Ne.symm h1)
  have g2 : (M.set th (.fz (thD L)))[th]? = some (.fz (thD L)) := at_set ht
  have g3 : (M.set th (.fz (thD L)))[al]? = some (.dic (alD A)) := at_ne ha (Ne.symm h2)
  have fin : (M.set th (.fz (thD L))).set th (.dic (thD L)) = M := by rw [List.set_set, set_same ht]
  have sel : dUn (fAttr (okF itab "there") "there") (dVar 0) [some (.obj s), x] M = .ok (.obj th) M := by simp [at_there h]
  have q : dComp (dItK (dUn (fAttr (okF itab "there") "there") (dVar 0))) (gSlot 1) t2_Shelf_thin c1_Shelf_thin [1] [some (.obj s), x] (M.set th (.fz (thD L))) = .ok (.lst (((ks L).filter fun n => decide (n ∉ A)).map fun n : Nat => .int (n : Int))) (M.set th (.fz (thD L))) := by
    generalize M.set th (.fz (thD L)) = N at *
    have it := itK_of (r := [some (.obj s), x]) (da := dUn (fAttr (okF itab "there") "there") (dVar 0)) (M := N) (M1 := N) (by simp [at_there g1]) g2
    have ek : ((thD L).map fun kv => LF.keyD kv.1) = (ks L).map fun n : Nat => D.int (n : Int) := by
      unfold thD ks
      rw [List.map_map, List.map_map]
      rfl
    rw [ek] at it
    have cm := compL_imgF (dg := gSlot 1) (t := t2_Shelf_thin) (de := c1_Shelf_thin) (r := [some (.obj s), none]) (M := N) (f := fun n : Nat => D.int (n : Int)) (g := fun n : Nat => D.int (n : Int)) (p := fun n => decide (n ∉ A)) (ks L) [] (fun n _ => by
      refine ⟨_, rfl, ?_, fun _ => rfl⟩
      have k := fDIn_of (neg := true) (x := .int (n : Int)) (kk := .inl (n : Int)) rfl g3
      rw [(look_al A n).1] at k
      have a := at_alt g1
      obtain ⟨z, hz⟩ : ∃ z : Int, (n : Int) = z := ⟨_, rfl⟩
      rw [hz] at k ⊢
      simp [t2_Shelf_thin, a, k]) (by simp [ks]; omega)
    rw [List.nil_append] at cm
    rw [dComp_ev, it, compK_ok]
    show compK2 (compL anyM (gSlot 1) t2_Shelf_thin c1_Shelf_thin [some (.obj s), none] ((ks L).map fun n : Nat => D.int (n : Int)) [] N) = _
    rw [cm, compK2_ok]
  have r := dLockE_of sel ht q g2
  rw [r, fin]
theorem thin_ok {L : NP} {A : List Nat} (h : M[s]? = some (SO di th al mo c)) (ht : M[th]? = some (.dic (thD L))) (ha : M[al]? = some (.dic (alD A))) (h1 : s ≠ th) (h2 : al ≠ th) (nd : (ks L).Nodup) (hl : L.length ≤ 1000) :
    ∃ L', f_Shelf_thin [.obj s] M = .ok .non (M.set th (.dic (thD L'))) ∧ L'.Sublist L ∧ (∀ z ∈ L, z.1 ∈ A → z ∈ L') ∧ ((L'.length : Int) ≤ mo ∨ ∀ z ∈ L', z.1 ∈ A) := by
  have cm := thin_comp h ht ha h1 h2 hl (x := none)
  obtain ⟨L', y, e1, i1, i2, i3⟩ := thin_loop h1 ((ks L).filter fun n => decide (n ∉ A)) L M none h ht (nd.sublist List.filter_sublist) (fun n hn => (List.mem_filter.mp hn).1)
  refine ⟨L', ?_, i1, fun z hz hA => i2 z hz fun q => absurd hA (of_decide_eq_true (List.mem_filter.mp q).2), ?_⟩
  · generalize ((ks L).filter fun n => decide (n ∉ A)).map (fun n : Nat => D.int (n : Int)) = ds at *
    simp [-dItL_ev, dItL_K, f_Shelf_thin, b_Shelf_thin, runB_ev, cm, e1]
  · rcases i3 with i3 | i3
    · exact .inl i3
    · refine .inr fun z hz => ?_
      by_cases q : z.1 ∈ A
      · exact q
      · exact absurd (List.mem_filter.mpr ⟨(List.mem_map.mpr ⟨z, i1.subset hz, rfl⟩ : z.1 ∈ ks L), by simpa using q⟩) (i3 z hz)
end
end K10
set_option Elab.async false
set_option linter.all false
set_option maxRecDepth 100000
set_option maxHeartbeats 4000000
/-! K10: a shelf's deeds. -/
namespace K10
open PySem PySem.Spec PyProof.Rows L2 LF
theorem nd_len : ∀ (l m : List Nat), l.Nodup → (∀ x ∈ l, x ∈ m) → l.length ≤ m.length
  | [], m, _, _ => Nat.zero_le _
  | x :: l, m, nd, h => by
    obtain ⟨n1, n2⟩ := List.nodup_cons.mp nd
    have hx := h x List.mem_cons_self
    have ih := nd_len l (m.erase x) n2 fun y hy => (List.mem_erase_of_ne (fun z : y = x => n1 (by rw [← z]; exact hy))).mpr (h y (List.mem_cons_of_mem _ hy))
    rw [List.length_erase_of_mem hx] at ih
    have := List.length_pos_of_mem hx
    rw [List.length_cons]
    omega
/-- the page that is due: what was put and isn't written, else what is written -/
def due (old : List Pg) (new : NP) (n : Nat) : Option Pg := (lk new n).or old[n]?
structure ShI (old : List Pg) (new : NP) (mo : Int) (L : NP) : Prop where
  nd : (ks L).Nodup
  ok : ∀ z ∈ L, due old new z.1 = some z.2
  al : ∀ n ∈ ks new, n ∈ ks L
  few : (L.length : Int) ≤ mo ∨ L.length ≤ new.length
structure ShM (M : Mem) (s di th al : Nat) (mo : Int) (L : NP) (A : List Nat) : Prop where
  so : ∃ c, M[s]? = some (SO di th al mo c)
  tm : M[th]? = some (.dic (thD L))
  am : M[al]? = some (.dic (alD A))
  d1 : s ≠ th
  d2 : s ≠ al
  d3 : al ≠ th
structure DkM (M : Mem) (i ti li sz : Nat) (b : Int) (T : List Pg) : Prop where
  d : M[i]? = some (DO sz ti li b)
  t : M[ti]? = some (.lst (tD sz T))
  l : M[li]? = some (.lst [])
  n1 : i ≠ ti
  n2 : i ≠ li
  n3 : ti ≠ li
theorem ShM.fr {S : List Nat} {M M' : Mem} {s di th al : Nat} {mo : Int} {L : NP} {A : List Nat} (h : ShM M s di th al mo L A) (f : Fr S M M') (h1 : s ∉ S) (h2 : th ∉ S) (h3 : al ∉ S) : ShM M' s di th al mo L A := by
  obtain ⟨⟨c, a⟩, b, d, e1, e2, e3⟩ := h
  exact ⟨⟨c, f.at a h1⟩, f.at b h2, f.at d h3, e1, e2, e3⟩
theorem DkM.fr {S : List Nat} {M M' : Mem} {i ti li sz : Nat} {b : Int} {T : List Pg} (h : DkM M i ti li sz b T) (f : Fr S M M') (h1 : i ∉ S) (h2 : ti ∉ S) (h3 : li ∉ S) : DkM M' i ti li sz b T :=
  ⟨f.at h.d h1, f.at h.t h2, f.at h.l h3, h.n1, h.n2, h.n3⟩
/-- a shelf behind thinning -/
theorem ShI.thin {old : List Pg} {new : NP} {mo : Int} {L L' : NP} (nd : (ks L).Nodup) (ok : ∀ z ∈ L, due old new z.1 = some z.2) (al : ∀ n ∈ ks new, n ∈ ks L) (i1 : L'.Sublist L) (i2 : ∀ z ∈ L, z.1 ∈ ks new → z ∈ L') (i3 : (L'.length : Int) ≤ mo ∨ ∀ z ∈ L', z.1 ∈ ks new) : ShI old new mo L' := by
  have nd' : (ks L').Nodup := nd.sublist (i1.map _)
  refine ⟨nd', fun z hz => ok z (i1.subset hz), fun n hn => ?_, i3.imp id fun q => ?_⟩
  · obtain ⟨z, hz, e⟩ := List.mem_map.mp (al n hn)
    exact List.mem_map.mpr ⟨z, i2 z hz (e ▸ hn), e⟩
  · have := nd_len (ks L') (ks new) nd' fun x hx => by
      obtain ⟨z, hz, rfl⟩ := List.mem_map.mp hx
      exact q z hz
    simpa [ks] using this
section
variable {M M1 M2 M3 : Mem} {s di th al : Nat} {mo c N : Int} {P d t : D}
theorem page_A (w1 : f_is_whole [.int N] M = .ok (.bl true) M) (a1 : fAttr (okF itab "there") "there" (.obj s) M = .ok (.obj th) M) (k : fDIn false (.int N) (.obj th) M = .ok (.bl true) M) (k1 : ∀ (db : DE) r, dpopK1 (.ok (.obj th) M) db r = dpopK2 (.obj th) (db r M)) (k2 : dpopAt (.obj th) (.int N) none M = .ok P M1)
    (a2 : fAttr (okF itab "there") "there" (.obj s) M1 = .ok (.obj th) M1) (p1 : ∀ r, putAt (.obj th) (.int N) P r M1 = .nx r M2) (t1 : ∀ r, methK1 "thin" mt_thin (.ok (.obj s) M2) dNil r = .ok .non M3) : f_Shelf_page [.obj s, .int N] M = .ok P M3 := by
  simp [f_Shelf_page, b_Shelf_page, runB_ev, w1, a1, k, k1, k2, a2, p1, t1]
theorem page_B {Ma : Mem} (w1 : f_is_whole [.int N] M = .ok (.bl true) M) (a1 : fAttr (okF itab "there") "there" (.obj s) M = .ok (.obj th) M) (k : fDIn false (.int N) (.obj th) M = .ok (.bl false) M) (r1 : ∀ (da : DA) r, methK1 "read_one" mt_read_one (.ok (.obj s) M) da r = methK2 f_Shelf_read_one 2 (.obj s) (da r M)) (r2 : f_Shelf_read_one [.obj s, .int N] M = .ok P Ma)
    (c1 : fAttr (okF itab "came") "came" (.obj s) Ma = .ok (.int c) Ma) (c2 : ∀ r, putAttr (okF itab "came") "came" (.obj s) (.int (c + 1)) r Ma = .nx r M1)
    (a2 : fAttr (okF itab "there") "there" (.obj s) M1 = .ok (.obj th) M1) (p1 : ∀ r, putAt (.obj th) (.int N) P r M1 = .nx r M2) (t1 : ∀ r, methK1 "thin" mt_thin (.ok (.obj s) M2) dNil r = .ok .non M3) : f_Shelf_page [.obj s, .int N] M = .ok P M3 := by
  simp [f_Shelf_page, b_Shelf_page, runB_ev, w1, a1, k, r1, r2, c1, c2, a2, p1, t1]
theorem read_R {ts : List D} {L : Int} (a1 : fAttr (okF itab "disk") "disk" (.obj s) M = .ok (.obj di) M) (g : ∀ r, methK1 "pages" mt_pages (.ok (.obj di) M) dNil r = .ok (.lst ts) M) (w1 : f_is_whole [.int N] M = .ok (.bl true) M) (h0 : 0 ≤ N) (hl : (ts.length : Int) = L) (h1 : N < L) (x : fIx (.lst ts) (.int N) M = .ok t M) (pg : f_page_of [t] M = .ok P M1) : f_Shelf_read_one [.obj s, .int N] M = .ok P M1 := by
  simp [f_Shelf_read_one, b_Shelf_read_one, runB_ev, a1, g, w1, h0, hl, h1, x, pg]
end
section
variable {M : Mem} {s di th al ti li sz : Nat} {mo b : Int} {old : List Pg} {new L : NP}
/-- behind a page's coming to the end of the row: thinned -/
theorem after {c : Int} {A : List Nat} (h : M[s]? = some (SO di th al mo c)) (ht : M[th]? = some (.dic (thD L))) (ha : M[al]? = some (.dic (alD A))) (d1 : s ≠ th) (d3 : al ≠ th) (nd : (ks L).Nodup) (hl : L.length ≤ 1000) :
    ∃ L', (∀ r, methK1 "thin" mt_thin (.ok (.obj s) M) dNil r = .ok .non (M.set th (.dic (thD L')))) ∧ L'.Sublist L ∧ (∀ z ∈ L, z.1 ∈ A → z ∈ L') ∧ ((L'.length : Int) ≤ mo ∨ ∀ z ∈ L', z.1 ∈ A) := by
  obtain ⟨L', e, i⟩ := thin_ok h ht ha d1 d3 nd hl
  exact ⟨L', fun r => meth0 h rfl rfl e, i⟩
theorem rem_len (L : NP) (n : Nat) : (rem L n).length ≤ L.length := (rem_sub L n).length_le
theorem moved_nd {L : NP} (nd : (ks L).Nodup) (n : Nat) (p : Pg) : (ks (rem L n ++ [(n, p)])).Nodup := by
  have : ks (rem L n ++ [(n, p)]) = ks (rem L n) ++ [n] := by simp [ks]
  rw [this, rem_ks]
  refine List.nodup_append.mpr ⟨nd.sublist List.filter_sublist, by simp, fun a ha b hb e => ?_⟩
  rw [List.mem_singleton.mp hb] at e
  exact of_decide_eq_true (List.mem_filter.mp ha).2 e
theorem rem_no (L : NP) (n : Nat) : n ∉ ks (rem L n) := by
  rw [rem_ks]
  simp
theorem moved_mem {L : NP} {n m : Nat} {p : Pg} (h : m ∈ ks L) : m ∈ ks (rem L n ++ [(n, p)]) := by
  have : ks (rem L n ++ [(n, p)]) = ks (rem L n) ++ [n] := by simp [ks]
  rw [this, rem_ks, List.mem_append]
  by_cases e : m = n
  · exact .inr (by simp [e])
  · exact .inl (List.mem_filter.mpr ⟨h, decide_eq_true e⟩)
theorem page_ok2 (S : ShM M s di th al mo L (ks new)) (K : DkM M di ti li sz b old) (I : ShI old new mo L) (hl : L.length ≤ 900) (ho : old.length ≤ 900) (g : ∀ p ∈ old, Good p ∧ Fit p sz) {n : Nat} {p : Pg} (hd : due old new n = some p) :
    ∃ M' L', f_Shelf_page [.obj s, .int (n : Nat)] M = .ok p.toD M' ∧ ShM M' s di th al mo L' (ks new) ∧ ShI old new mo L' ∧ Fr [s, th] M M' := by
  obtain ⟨⟨c, so⟩, th1, al1, d1, d2, d3⟩ := S
  have w1 := is_whole_int n M
  have a1 := at_there so
  have k := fDIn_of (neg := false) (x := .int (n : Int)) (kk := .inl (n : Int)) rfl th1
  rw [look_th] at k
  by_cases hn : n ∈ ks L
  · obtain ⟨q, hq⟩ := lk_some hn
    have e : q = p := by
      have := I.ok _ (lk_mem hq)
      rw [hd] at this
      exact (Option.some.inj this).symm
    subst e
    rw [hq] at k
    have k2 := dpopAt_in (y := .int (n : Int)) (z := none) (kk := .inl (n : Int)) rfl th1 (by rw [look_th, hq]; rfl)
    rw [drop_th] at k2
    have s1 : (M.set th (.dic (thD (rem L n))))[s]? = some (SO di th al mo c) := at_ne so (Ne.symm d1)
    have t1 : (M.set th (.dic (thD (rem L n))))[th]? = some (.dic (thD (rem L n))) := at_set th1
    have u1 : (M.set th (.dic (thD (rem L n))))[al]? = some (.dic (alD (ks new))) := at_ne al1 (Ne.symm d3)
    have F1 : Fr [s, th] M (M.set th (.dic (thD (rem L n)))) := Fr.set (by simp)
    generalize M.set th (.dic (thD (rem L n))) = M1 at *
    have a2 := at_there s1
    have rl := rem_len L n
    have p1 : ∀ r, putAt (.obj th) (.int (n : Int)) q.toD r M1 = .nx r (M1.set th (.dic (thD (rem L n ++ [(n, q)])))) := fun r => by rw [putAt_of (k := .inl (n : Int)) rfl t1 (by simp [thD]; omega), put_new (rem_no L n)]
    have s2 : (M1.set th (.dic (thD (rem L n ++ [(n, q)]))))[s]? = some (SO di th al mo c) := at_ne s1 (Ne.symm d1)
    have t2 : (M1.set th (.dic (thD (rem L n ++ [(n, q)]))))[th]? = some (.dic (thD (rem L n ++ [(n, q)]))) := at_set t1
    have u2 : (M1.set th (.dic (thD (rem L n ++ [(n, q)]))))[al]? = some (.dic (alD (ks new))) := at_ne u1 (Ne.symm d3)
    have F2 : Fr [s, th] M (M1.set th (.dic (thD (rem L n ++ [(n, q)])))) := F1.trans (Fr.set (by simp))
    generalize M1.set th (.dic (thD (rem L n ++ [(n, q)]))) = M2 at *
    obtain ⟨L', e, i1, i2, i3⟩ := after s2 t2 u2 d1 d3 (moved_nd I.nd n q) (by simp; omega)
    refine ⟨_, L', page_A w1 a1 k (fun db r => dpopK1_of th1) k2 a2 p1 e, ⟨⟨c, at_ne s2 (Ne.symm d1)⟩, at_set t2, at_ne u2 (Ne.symm d3), d1, d2, d3⟩, ShI.thin (moved_nd I.nd n q) (fun z hz => ?_) (fun m hm => moved_mem (I.al m hm)) i1 i2 i3, F2.trans (Fr.set (by simp))⟩
    rcases List.mem_append.mp hz with hz | hz
    · exact I.ok z ((rem_sub L n).subset hz)
    · rw [List.mem_singleton.mp hz]; exact hd
  · have hk : lk L n = none := lk_none.mpr hn
    rw [hk] at k
    have hnew : lk new n = none := lk_none.mpr fun z => hn (I.al n z)
    have ho2 : old[n]? = some p := by
      unfold due at hd
      rw [hnew] at hd
      exact hd
    have hlt : n < old.length := (List.getElem?_eq_some_iff.mp ho2).1
    obtain ⟨gp, fp⟩ := g p (List.mem_of_getElem? ho2)
    obtain ⟨X, e1⟩ := page_of_ok (M := M) gp fp
    have rd := read_R (N := (n : Int)) (L := (old.length : Int)) (at_disk so) (fun r => meth0 K.d rfl rfl (pages_ok K.d K.t (by omega))) w1 (by omega) (by simp [tD]) (by omega) (fIx_lst (L2.atI_nat (by simp [tD, ho2]))) e1
    have s0 : (M ++ X)[s]? = some (SO di th al mo c) := at_app so
    have t0 : (M ++ X)[th]? = some (.dic (thD L)) := at_app th1
    have u0 : (M ++ X)[al]? = some (.dic (alD (ks new))) := at_app al1
    have F0 : Fr [s, th] M (M ++ X) := Fr.app
    generalize M ++ X = Ma at *
    have c1 := at_came s0
    have c2 : ∀ r, putAttr (okF itab "came") "came" (.obj s) (.int (c + 1)) r Ma = .nx r (Ma.set s (SO di th al mo (c + 1))) := fun r => putAttr_of s0 rfl (by exact (by decide : (5 : Nat) < 1000))
    have s1 : (Ma.set s (SO di th al mo (c + 1)))[s]? = some (SO di th al mo (c + 1)) := at_set s0
    have t1 : (Ma.set s (SO di th al mo (c + 1)))[th]? = some (.dic (thD L)) := at_ne t0 d1
    have u1 : (Ma.set s (SO di th al mo (c + 1)))[al]? = some (.dic (alD (ks new))) := at_ne u0 d2
    have F1 : Fr [s, th] M (Ma.set s (SO di th al mo (c + 1))) := F0.trans (Fr.set (by simp))
    generalize Ma.set s (SO di th al mo (c + 1)) = M1 at *
    have a2 := at_there s1
    have p1 : ∀ r, putAt (.obj th) (.int (n : Int)) p.toD r M1 = .nx r (M1.set th (.dic (thD (L ++ [(n, p)])))) := fun r => by rw [putAt_of (k := .inl (n : Int)) rfl t1 (by simp [thD]; omega), put_new hn]
    have s2 : (M1.set th (.dic (thD (L ++ [(n, p)]))))[s]? = some (SO di th al mo (c + 1)) := at_ne s1 (Ne.symm d1)
    have t2 : (M1.set th (.dic (thD (L ++ [(n, p)]))))[th]? = some (.dic (thD (L ++ [(n, p)]))) := at_set t1
    have u2 : (M1.set th (.dic (thD (L ++ [(n, p)]))))[al]? = some (.dic (alD (ks new))) := at_ne u1 (Ne.symm d3)
    have F2 : Fr [s, th] M (M1.set th (.dic (thD (L ++ [(n, p)])))) := F1.trans (Fr.set (by simp))
    generalize M1.set th (.dic (thD (L ++ [(n, p)]))) = M2 at *
    have nd2 : (ks (L ++ [(n, p)])).Nodup := by
      have : ks (L ++ [(n, p)]) = ks L ++ [n] := by simp [ks]
      rw [this]
      exact List.nodup_append.mpr ⟨I.nd, by simp, fun a ha b hb e => hn (by rw [List.mem_singleton.mp hb] at e; exact e ▸ ha)⟩
    obtain ⟨L', e, i1, i2, i3⟩ := after s2 t2 u2 d1 d3 nd2 (by simp; omega)
    refine ⟨_, L', page_B w1 a1 k (fun da r => methK1_of so rfl rfl) rd c1 c2 a2 p1 e, ⟨⟨_, at_ne s2 (Ne.symm d1)⟩, at_set t2, at_ne u2 (Ne.symm d3), d1, d2, d3⟩, ShI.thin nd2 (fun z hz => ?_) (fun m hm => ?_) i1 i2 i3, F2.trans (Fr.set (by simp))⟩
    · rcases List.mem_append.mp hz with hz | hz
      · exact I.ok z hz
      · rw [List.mem_singleton.mp hz]; exact hd
    · have : ks (L ++ [(n, p)]) = ks L ++ [n] := by simp [ks]
      rw [this]
      exact List.mem_append_left _ (I.al m hm)
end
/-! ### put, write, forget -/
section
variable {M M1 M2 M3 M4 M5 : Mem} {s di th al : Nat} {N Z mo : Int} {P T z : D} {t : Str}
theorem fit_A (h : f_is_number [.int N, .int 0] M = .ok (.bl true) M) (q : f_page_text [P, .int Z] M = .ok T M1) : f_fit_text [.int N, P, .int Z] M = .ok T M1 := by
  simp [f_fit_text, b_fit_text, runB_ev, h, q]
theorem put_A (a0 : fAttr (okF itab "disk") "disk" (.obj s) M = .ok (.obj di) M) (b0 : fAttr (okF itab "size") "size" (.obj di) M = .ok (.int Z) M) (ft : f_fit_text [.int N, P, .int Z] M = .ok T M1) (a1 : fAttr (okF itab "there") "there" (.obj s) M1 = .ok (.obj th) M1)
    (k1 : ∀ (db dz : DE) r, dpop2K1 (.ok (.obj th) M1) db dz r = dpop2K2 (.obj th) (db r M1) dz r) (k2 : dpopAt (.obj th) (.int N) (some .non) M1 = .ok z M2) (a2 : fAttr (okF itab "there") "there" (.obj s) M2 = .ok (.obj th) M2) (p1 : ∀ r, putAt (.obj th) (.int N) P r M2 = .nx r M3)
    (a3 : fAttr (okF itab "altered") "altered" (.obj s) M3 = .ok (.obj al) M3) (p2 : ∀ r, putAt (.obj al) (.int N) (.bl true) r M3 = .nx r M4) (t1 : ∀ r, methK1 "thin" mt_thin (.ok (.obj s) M4) dNil r = .ok .non M5) : f_Shelf_put [.obj s, .int N, P] M = .ok .non M5 := by
  simp [f_Shelf_put, b_Shelf_put, runB_ev, a0, b0, ft, a1, k1, k2, a2, p1, a3, p2, t1]
theorem write_S (a0 : fAttr (okF itab "altered") "altered" (.obj s) M = .ok (.obj al) M) (k : fDIn false (.int N) (.obj al) M = .ok (.bl true) M) (a1 : fAttr (okF itab "disk") "disk" (.obj s) M = .ok (.obj di) M) (w : ∀ (da : DA) r, methK1 "write" mt_write__Disk (.ok (.obj di) M) da r = methK2 f_Disk_write 3 (.obj di) (da r M))
    (a2 : fAttr (okF itab "there") "there" (.obj s) M = .ok (.obj th) M) (g : fDGet (.obj th) (.int N) M = .ok P M) (b0 : fAttr (okF itab "size") "size" (.obj di) M = .ok (.int Z) M) (ft : f_fit_text [.int N, P, .int Z] M = .ok T M1) (w2 : f_Disk_write [.obj di, .int N, T] M1 = .ok .non M2)
    (a3 : fAttr (okF itab "altered") "altered" (.obj s) M2 = .ok (.obj al) M2) (k1 : ∀ (db : DE) r, dpopK1 (.ok (.obj al) M2) db r = dpopK2 (.obj al) (db r M2)) (k2 : dpopAt (.obj al) (.int N) none M2 = .ok z M3) (t1 : ∀ r, methK1 "thin" mt_thin (.ok (.obj s) M3) dNil r = .ok .non M4) : f_Shelf_write [.obj s, .int N] M = .ok .non M4 := by
  simp [f_Shelf_write, b_Shelf_write, runB_ev, a0, k, a1, w, a2, g, b0, ft, w2, a3, k1, k2, t1]
end
theorem fit_ok {M : Mem} {n sz : Nat} {p : Pg} (hn : n ≤ 4095) (hp : Good p) (f : Fit p sz) : f_fit_text [.int (n : Nat), p.toD, .int (sz : Nat)] M = .ok (.str (tx (textL p sz))) (M ++ [p.obj]) :=
  fit_A (is_number_ok (lo := 0) ⟨by omega, by omega⟩) (page_text_ok hp f)
theorem setP_get {T : List Pg} {n m : Nat} {p : Pg} (h : n ≤ T.length) : (setP T n p)[m]? = if m = n then some p else T[m]? := by
  unfold setP
  by_cases e : m = n
  · subst e
    rw [if_pos rfl, List.getElem?_append_right (by simp; omega)]
    simp [Nat.min_eq_left h]
  · rw [if_neg e]
    by_cases l : m < n
    · rw [List.getElem?_append_left (by simp; omega), List.getElem?_take_of_lt l]
    · rw [List.getElem?_append_right (by simp; omega), List.length_take, Nat.min_eq_left h]
      obtain ⟨k, rfl⟩ : ∃ k, m = n + 1 + k := ⟨m - n - 1, by omega⟩
      rw [show n + 1 + k - n = k + 1 by omega, List.getElem?_cons_succ, List.getElem?_drop]
theorem due_up {old : List Pg} {new : NP} {n m : Nat} {p : Pg} : due old (up new n p) m = if m = n then some p else due old new m := by
  unfold due
  rw [lk_up]
  by_cases e : m = n
  · rw [if_pos e, if_pos e]; rfl
  · rw [if_neg e, if_neg e]
theorem due_wr {old : List Pg} {new : NP} {n m : Nat} {p : Pg} (h : n ≤ old.length) (hp : lk new n = some p) : due (setP old n p) (rem new n) m = due old new m := by
  unfold due
  rw [lk_rem, setP_get h]
  by_cases e : m = n
  · subst e
    rw [if_pos rfl, if_pos rfl, hp]
    rfl
  · rw [if_neg e, if_neg e]
section
variable {M : Mem} {s di th al ti li sz : Nat} {mo b : Int} {old : List Pg} {new L : NP}
theorem put_ok (S : ShM M s di th al mo L (ks new)) (K : DkM M di ti li sz b old) (I : ShI old new mo L) (hl : L.length ≤ 900) (hA : new.length ≤ 900) {n : Nat} {p : Pg} (hn : n ≤ 4095) (hp : Good p) (f : Fit p sz) :
    ∃ M' L', f_Shelf_put [.obj s, .int (n : Nat), p.toD] M = .ok .non M' ∧ ShM M' s di th al mo L' (ks (up new n p)) ∧ ShI old (up new n p) mo L' ∧ Fr [th, al] M M' := by
  obtain ⟨⟨c, so⟩, th1, al1, d1, d2, d3⟩ := S
  have a0 := at_disk so
  have b0 : fAttr (okF itab "size") "size" (.obj di) M = .ok (.int (sz : Nat)) M := fAttr_of K.d rfl rfl
  have ft := fit_ok (M := M) hn hp f
  have s1 : (M ++ [p.obj])[s]? = some (SO di th al mo c) := at_app so
  have t1 : (M ++ [p.obj])[th]? = some (.dic (thD L)) := at_app th1
  have u1 : (M ++ [p.obj])[al]? = some (.dic (alD (ks new))) := at_app al1
  have F1 : Fr [th, al] M (M ++ [p.obj]) := Fr.app
  generalize M ++ [p.obj] = M1 at *
  have a1 := at_there s1
  have k2 : ∃ z, dpopAt (.obj th) (.int (n : Int)) (some .non) M1 = .ok z (M1.set th (.dic (thD (rem L n)))) := by
    by_cases hm : n ∈ ks L
    · obtain ⟨q, hq⟩ := lk_some hm
      have := dpopAt_in (y := .int (n : Int)) (z := some .non) (kk := .inl (n : Int)) rfl t1 (by rw [look_th, hq]; rfl)
      rw [drop_th] at this
      exact ⟨_, this⟩
    · have e : rem L n = L := List.filter_eq_self.mpr fun x hx => decide_eq_true fun z => hm (List.mem_map.mpr ⟨x, hx, z⟩)
      rw [e, set_same t1]
      exact ⟨_, dpopAt_out (y := .int (n : Int)) (kk := .inl (n : Int)) rfl t1 (by rw [look_th, lk_none.mpr hm]; rfl)⟩
  obtain ⟨z, k2⟩ := k2
  have s2 : (M1.set th (.dic (thD (rem L n))))[s]? = some (SO di th al mo c) := at_ne s1 (Ne.symm d1)
  have t2 : (M1.set th (.dic (thD (rem L n))))[th]? = some (.dic (thD (rem L n))) := at_set t1
  have u2 : (M1.set th (.dic (thD (rem L n))))[al]? = some (.dic (alD (ks new))) := at_ne u1 (Ne.symm d3)
  have F2 : Fr [th, al] M (M1.set th (.dic (thD (rem L n)))) := F1.trans (Fr.set (by simp))
  generalize M1.set th (.dic (thD (rem L n))) = M2 at *
  have a2 := at_there s2
  have rl := rem_len L n
  have p1 : ∀ r, putAt (.obj th) (.int (n : Int)) p.toD r M2 = .nx r (M2.set th (.dic (thD (rem L n ++ [(n, p)])))) := fun r => by rw [putAt_of (k := .inl (n : Int)) rfl t2 (by simp [thD]; omega), put_new (rem_no L n)]
  have s3 : (M2.set th (.dic (thD (rem L n ++ [(n, p)]))))[s]? = some (SO di th al mo c) := at_ne s2 (Ne.symm d1)
  have t3 : (M2.set th (.dic (thD (rem L n ++ [(n, p)]))))[th]? = some (.dic (thD (rem L n ++ [(n, p)]))) := at_set t2
  have u3 : (M2.set th (.dic (thD (rem L n ++ [(n, p)]))))[al]? = some (.dic (alD (ks new))) := at_ne u2 (Ne.symm d3)
  have F3 : Fr [th, al] M (M2.set th (.dic (thD (rem L n ++ [(n, p)])))) := F2.trans (Fr.set (by simp))
  generalize M2.set th (.dic (thD (rem L n ++ [(n, p)]))) = M3 at *
  have a3 := at_alt s3
  have p2 : ∀ r, putAt (.obj al) (.int (n : Int)) (.bl true) r M3 = .nx r (M3.set al (.dic (alD (ks (up new n p))))) := fun r => by rw [putAt_of (k := .inl (n : Int)) rfl u3 (by simp [alD, ks]; omega), put_al, up_ks]
  have s4 : (M3.set al (.dic (alD (ks (up new n p)))))[s]? = some (SO di th al mo c) := at_ne s3 (Ne.symm d2)
  have t4 : (M3.set al (.dic (alD (ks (up new n p)))))[th]? = some (.dic (thD (rem L n ++ [(n, p)]))) := at_ne t3 d3
  have u4 : (M3.set al (.dic (alD (ks (up new n p)))))[al]? = some (.dic (alD (ks (up new n p)))) := at_set u3
  have F4 : Fr [th, al] M (M3.set al (.dic (alD (ks (up new n p))))) := F3.trans (Fr.set (by simp))
  generalize M3.set al (.dic (alD (ks (up new n p)))) = M4 at *
  obtain ⟨L', e, i1, i2, i3⟩ := after s4 t4 u4 d1 d3 (moved_nd I.nd n p) (by simp; omega)
  refine ⟨_, L', put_A a0 b0 ft a1 (fun db dz r => dpop2K1_of t1) k2 a2 p1 a3 p2 e, ⟨⟨c, at_ne s4 (Ne.symm d1)⟩, at_set t4, at_ne u4 (Ne.symm d3), d1, d2, d3⟩, ShI.thin (moved_nd I.nd n p) (fun z hz => ?_) (fun m hm => ?_) i1 i2 i3, F4.trans (Fr.set (by simp))⟩
  · rw [due_up]
    rcases List.mem_append.mp hz with hz | hz
    · rw [if_neg (of_decide_eq_true (List.mem_filter.mp hz).2)]
      exact I.ok z ((rem_sub L n).subset hz)
    · rw [List.mem_singleton.mp hz, if_pos rfl]
  · rw [up_ks] at hm
    unfold upA at hm
    have self : n ∈ ks (rem L n ++ [(n, p)]) := List.mem_map.mpr ⟨(n, p), by simp, rfl⟩
    split at hm
    · exact moved_mem (I.al m hm)
    · rcases List.mem_append.mp hm with hm | hm
      · exact moved_mem (I.al m hm)
      · rw [List.mem_singleton.mp hm]; exact self
theorem write_ok2 (S : ShM M s di th al mo L (ks new)) (K : DkM M di ti li sz b old) (I : ShI old new mo L) (hl : L.length ≤ 900) (ho : old.length ≤ 900) (hd1 : al ≠ di ∧ al ≠ ti ∧ al ≠ li) (hd2 : th ≠ di ∧ th ≠ ti ∧ th ≠ li) (hd3 : s ≠ di ∧ s ≠ ti ∧ s ≠ li) {n : Nat} {p : Pg} (hn : n ≤ 4095) (hno : n ≤ old.length) (hk : lk new n = some p) (hp : Good p) (f : Fit p sz) :
    ∃ M' L', f_Shelf_write [.obj s, .int (n : Nat)] M = .ok .non M' ∧ ShM M' s di th al mo L' (ks (rem new n)) ∧ DkM M' di ti li sz (b + 1) (setP old n p) ∧ ShI (setP old n p) (rem new n) mo L' ∧ Fr [th, al, di, ti] M M' := by
  obtain ⟨⟨c, so⟩, th1, al1, d1, d2, d3⟩ := S
  have a0 := at_alt so
  have hm : n ∈ ks new := List.mem_map.mpr ⟨_, lk_mem hk, rfl⟩
  have k := fDIn_of (neg := false) (x := .int (n : Int)) (kk := .inl (n : Int)) rfl al1
  rw [(look_al (ks new) n).1, decide_eq_true hm] at k
  have a1 := at_disk so
  have a2 := at_there so
  obtain ⟨q, hq⟩ := lk_some (I.al n hm)
  have e : q = p := by
    have h1 := I.ok _ (lk_mem hq)
    have h2 : due old new n = some p := by unfold due; rw [hk]; rfl
    rw [h2] at h1
    exact (Option.some.inj h1).symm
  subst e
  have g : fDGet (.obj th) (.int (n : Int)) M = .ok q.toD M := fDGet_of (k := .inl (n : Int)) rfl th1 (by rw [look_th, hq]; rfl)
  have b0 : fAttr (okF itab "size") "size" (.obj di) M = .ok (.int (sz : Nat)) M := fAttr_of K.d rfl rfl
  have ft := fit_ok (M := M) hn hp f
  have w : ∀ (da : DA) r, methK1 "write" mt_write__Disk (.ok (.obj di) M) da r = methK2 f_Disk_write 3 (.obj di) (da r M) := fun da r => methK1_of K.d rfl rfl
  have s1 : (M ++ [q.obj])[s]? = some (SO di th al mo c) := at_app so
  have t1 : (M ++ [q.obj])[th]? = some (.dic (thD L)) := at_app th1
  have u1 : (M ++ [q.obj])[al]? = some (.dic (alD (ks new))) := at_app al1
  have K1 : DkM (M ++ [q.obj]) di ti li sz b old := K.fr (S := []) Fr.app (by simp) (by simp) (by simp)
  have F1 : Fr [th, al, di, ti] M (M ++ [q.obj]) := Fr.app
  generalize M ++ [q.obj] = M1 at *
  obtain ⟨M2, w2, x1, x2, x3⟩ := write_ok K1.d K1.t K1.n1 (by omega) hno hp f
  have s2 := x3.at s1 (by simp; exact ⟨hd3.1, hd3.2.1⟩)
  have t2 := x3.at t1 (by simp; exact ⟨hd2.1, hd2.2.1⟩)
  have u2 := x3.at u1 (by simp; exact ⟨hd1.1, hd1.2.1⟩)
  have l2 := x3.at K1.l (by simp; exact ⟨Ne.symm K.n2, Ne.symm K.n3⟩)
  have F2 : Fr [th, al, di, ti] M M2 := F1.trans (x3.mono fun j hj => by simp at hj ⊢; rcases hj with hj | hj <;> simp [hj])
  have a3 := at_alt s2
  have k2 := dpopAt_in (y := .int (n : Int)) (z := none) (kk := .inl (n : Int)) rfl u2 ((look_al (ks new) n).2 hm)
  rw [drop_al, ← rem_ks] at k2
  have s3 : (M2.set al (.dic (alD (ks (rem new n)))))[s]? = some (SO di th al mo c) := at_ne s2 (Ne.symm d2)
  have t3 : (M2.set al (.dic (alD (ks (rem new n)))))[th]? = some (.dic (thD L)) := at_ne t2 d3
  have u3 : (M2.set al (.dic (alD (ks (rem new n)))))[al]? = some (.dic (alD (ks (rem new n)))) := at_set u2
  have K3 : DkM (M2.set al (.dic (alD (ks (rem new n))))) di ti li sz (b + 1) (setP old n q) := ⟨at_ne x1 hd1.1, at_ne x2 hd1.2.1, at_ne l2 hd1.2.2, K.n1, K.n2, K.n3⟩
  have F3 : Fr [th, al, di, ti] M (M2.set al (.dic (alD (ks (rem new n))))) := F2.trans (Fr.set (by simp))
  generalize M2.set al (.dic (alD (ks (rem new n)))) = M3 at *
  obtain ⟨L', e, i1, i2, i3⟩ := after s3 t3 u3 d1 d3 I.nd (by omega)
  refine ⟨_, L', write_S a0 k a1 w a2 g b0 ft w2 a3 (fun db r => dpopK1_of u2) k2 e, ⟨⟨c, at_ne s3 (Ne.symm d1)⟩, at_set t3, at_ne u3 (Ne.symm d3), d1, d2, d3⟩, ⟨at_ne K3.d hd2.1, at_ne K3.t hd2.2.1, at_ne K3.l hd2.2.2, K.n1, K.n2, K.n3⟩, ShI.thin I.nd (fun z hz => ?_) (fun m hm2 => ?_) i1 i2 i3, F3.trans (Fr.set (by simp))⟩
  · rw [due_wr hno hk]
    exact I.ok z hz
  · rw [rem_ks] at hm2
    exact I.al m (List.mem_filter.mp hm2).1
theorem forget_ok {A : List Nat} (S : ShM M s di th al mo L A) : ∃ M', f_Shelf_forget [.obj s] M = .ok .non M' ∧ ShM M' s di M.length (M.length + 1) mo [] [] ∧ Fr [s] M M' := by
  obtain ⟨⟨c, so⟩, th1, al1, d1, d2, d3⟩ := S
  have hs : s < M.length := (List.getElem?_eq_some_iff.mp so).1
  have s1 : (M ++ [MO.dic []])[s]? = some (SO di th al mo c) := at_app so
  have p1 : ∀ r, putAttr (okF itab "there") "there" (.obj s) (.obj M.length) r (M ++ [MO.dic []]) = .nx r ((M ++ [MO.dic []]).set s (SO di M.length al mo c)) := fun r => putAttr_of s1 rfl (by exact (by decide : (5 : Nat) < 1000))
  have s2 : ((M ++ [MO.dic []]).set s (SO di M.length al mo c) ++ [MO.dic []])[s]? = some (SO di M.length al mo c) := at_app (at_set s1)
  have ln : ((M ++ [MO.dic []]).set s (SO di M.length al mo c)).length = M.length + 1 := by simp
  have t1 : ((M ++ [MO.dic []]).set s (SO di M.length al mo c))[M.length]? = some (.dic []) := at_ne (by simp) (by omega)
  have F1 : Fr [s] M ((M ++ [MO.dic []]).set s (SO di M.length al mo c)) := Fr.app.trans (Fr.set (by simp))
  generalize (M ++ [MO.dic []]).set s (SO di M.length al mo c) = M1 at *
  have p2 : ∀ r, putAttr (okF itab "altered") "altered" (.obj s) (.obj (M.length + 1)) r (M1 ++ [MO.dic []]) = .nx r ((M1 ++ [MO.dic []]).set s (SO di M.length (M.length + 1) mo c)) := fun r => putAttr_of s2 rfl (by exact (by decide : (5 : Nat) < 1000))
  refine ⟨(M1 ++ [MO.dic []]).set s (SO di M.length (M.length + 1) mo c), ?_, ⟨⟨c, at_set s2⟩, at_ne (at_app t1) (by omega), at_ne (by rw [← ln]; simp [alD]) (by omega), by omega, by omega, by omega⟩, F1.trans (Fr.app.trans (Fr.set (by simp)))⟩
  have dn : ∀ r N, dNewDic r N = .ok (.obj N.length) (N ++ [MO.dic []]) := fun r N => rfl
  simp [f_Shelf_forget, b_Shelf_forget, runB_ev, dn, p1, ln, p2]
theorem changed_ok {A : List Nat} (S : ShM M s di th al mo L A) (hA : A.length < 64) : f_Shelf_changed [.obj s] M = .ok (.lst ((sortI (A.map fun n : Nat => (n : Int))).map .int)) M := by
  obtain ⟨⟨c, so⟩, th1, al1, d1, d2, d3⟩ := S
  have a := at_alt so
  have l := fListD_of (ar := false) al1
  rw [newL_f (by simp [alD]; omega)] at l
  have e : ((alD A).map fun kv => LF.keyD kv.1) = (A.map fun n : Nat => (n : Int)).map D.int := by
    unfold alD
    rw [List.map_map, List.map_map]
    rfl
  rw [e] at l
  have q := fSortI_lst (M := M) (ar := false) (ns := A.map fun n : Nat => (n : Int)) (by simp; exact hA)
  rw [newL_f (by simp [sortI]; omega)] at q
  generalize A.map (fun n : Nat => (n : Int)) = ns at *
  simp [f_Shelf_changed, b_Shelf_changed, runB_ev, a, l, q]
theorem held_ok {A : List Nat} (S : ShM M s di th al mo L A) (hl : L.length ≤ 1000) : f_Shelf_held [.obj s] M = .ok (.lst (((ks L).map fun n : Nat => (n : Int)).map .int)) M := by
  obtain ⟨⟨c, so⟩, th1, al1, d1, d2, d3⟩ := S
  have a := at_there so
  have l := fListD_of (ar := false) th1
  rw [newL_f (by simp [thD]; omega)] at l
  have e : ((thD L).map fun kv => LF.keyD kv.1) = ((ks L).map fun n : Nat => (n : Int)).map D.int := by
    unfold thD ks
    rw [List.map_map, List.map_map, List.map_map]
    rfl
  rw [e] at l
  generalize (ks L).map (fun n : Nat => (n : Int)) = ns at *
  simp [f_Shelf_held, b_Shelf_held, runB_ev, a, l]
theorem init_shelf (h0 : 2 ≤ mo) (h1 : mo ≤ 40) : f_Shelf___init__ [.obj M.length, .obj di, .int mo] (M ++ [.ins "Shelf" []]) = .ok .non (M ++ [SO di (M.length + 1) (M.length + 2) mo 0, .dic [], .dic []]) := by
  have z := is_whole_int mo (M ++ [.ins "Shelf" []])
  have dn : ∀ r N, dNewDic r N = .ok (.obj N.length) (N ++ [.dic []]) := fun r N => rfl
  have p1 := fun r => putAttr_at (r := r) (M := M) (d := .obj di) (ok := okF itab "disk") (f := "disk") (c := "Shelf") (fs := []) (X := []) rfl (by decide)
  have p2 := fun r => putAttr_at (r := r) (M := M) (d := .int mo) (ok := okF itab "most") (f := "most") (c := "Shelf") (fs := putFD "disk" (.obj di) []) (X := []) rfl (by exact (by decide : (1 : Nat) < 1000))
  have p3 := fun r => putAttr_at (r := r) (M := M) (d := .obj (M.length + 1)) (ok := okF itab "there") (f := "there") (c := "Shelf") (fs := putFD "most" (.int mo) (putFD "disk" (.obj di) [])) (X := [.dic []]) rfl (by exact (by decide : (2 : Nat) < 1000))
  have p4 := fun r => putAttr_at (r := r) (M := M) (d := .obj (M.length + 2)) (ok := okF itab "altered") (f := "altered") (c := "Shelf") (fs := putFD "there" (.obj (M.length + 1)) (putFD "most" (.int mo) (putFD "disk" (.obj di) []))) (X := [.dic [], .dic []]) rfl (by exact (by decide : (3 : Nat) < 1000))
  have p5 := fun r => putAttr_at (r := r) (M := M) (d := .int 0) (ok := okF itab "came") (f := "came") (c := "Shelf") (fs := putFD "altered" (.obj (M.length + 2)) (putFD "there" (.obj (M.length + 1)) (putFD "most" (.int mo) (putFD "disk" (.obj di) [])))) (X := [.dic [], .dic []]) rfl (by exact (by decide : (4 : Nat) < 1000))
  simp [f_Shelf___init__, b_Shelf___init__, runB_ev, z, h0, h1, dn, p1, p2, p3, p4, p5]
  rfl
end
end K10
set_option Elab.async false
set_option linter.all false
set_option maxRecDepth 100000
set_option maxHeartbeats 4000000
/-! K10: the law's world; what it asks of two shelves. -/
namespace K10
open PySem PySem.Spec PyProof.Rows L2 LF
theorem lay_pg {p : Pg} (h : Good p) : D.lay 63 p.toD = true := by
  cases p with
  | head a b c d =>
    refine layL_of fun x hx => ?_
    simp only [List.mem_cons, List.mem_nil_iff, or_false] at hx
    rcases hx with rfl | rfl | rfl | rfl | rfl
    · rw [lay_str]; exact so_head
    all_goals exact lay_int
  | free n =>
    refine layL_of fun x hx => ?_
    simp only [List.mem_cons, List.mem_nil_iff, or_false] at hx
    rcases hx with rfl | rfl
    · rw [lay_str]; exact so_free
    · exact lay_int
  | rest t n =>
    refine layL_of fun x hx => ?_
    simp only [List.mem_cons, List.mem_nil_iff, or_false] at hx
    rcases hx with rfl | rfl | rfl
    · rw [lay_str]; exact so_rest
    · rw [lay_str]; exact txt_so h.1
    · exact lay_int
  | fork keys kids =>
    refine layL_of fun x hx => ?_
    simp only [List.mem_cons, List.mem_nil_iff, or_false] at hx
    rcases hx with rfl | rfl | rfl
    · rw [lay_str]; exact so_fork
    · refine layL_of fun x hx => ?_
      obtain ⟨k, hk, rfl⟩ := List.mem_map.mp hx
      rw [keyD, lay_str]
      exact txt_so (h.1.key k hk).t
    · refine layL_of fun x hx => ?_
      obtain ⟨k, _, rfl⟩ := List.mem_map.mp hx
      exact lay_int
  | leaf rows =>
    refine layL_of fun x hx => ?_
    simp only [List.mem_cons, List.mem_nil_iff, or_false] at hx
    rcases hx with rfl | rfl
    · rw [lay_str]; exact so_leaf
    · refine layL_of fun x hx => ?_
      obtain ⟨⟨k, c⟩, hr, rfl⟩ := List.mem_map.mp hx
      have hk := (h.1.key k (List.mem_map.mpr ⟨(k, c), hr, rfl⟩)).t
      have hc := h.2 (k, c) hr
      refine layL_of fun x hx => ?_
      simp only [List.mem_cons, List.mem_nil_iff, or_false] at hx
      rcases hx with rfl | rfl
      · rw [lay_str]; exact txt_so hk
      · cases c with
        | inn t =>
          refine layL_of fun x hx => ?_
          simp only [List.mem_cons, List.mem_nil_iff, or_false] at hx
          rcases hx with rfl | rfl
          · rw [lay_str]; exact so_in
          · rw [lay_str]; exact txt_so hc.1
        | out a b =>
          refine layL_of fun x hx => ?_
          simp only [List.mem_cons, List.mem_nil_iff, or_false] at hx
          rcases hx with rfl | rfl | rfl
          · rw [lay_str]; exact so_out
          all_goals exact lay_int
theorem lay_row {ps : List Pg} (h : ∀ p ∈ ps, Good p) : D.lay 64 (.lst (ps.map Pg.toD)) = true := layL_of fun x hx => by
  obtain ⟨p, hp, rfl⟩ := List.mem_map.mp hx
  exact lay_pg (h p hp)
theorem lay_ints (ns : List Int) : D.lay 64 (.lst (ns.map .int)) = true := layL_of fun x hx => by
  obtain ⟨p, hp, rfl⟩ := List.mem_map.mp hx
  exact lay_int
theorem lay_texts {sz : Nat} {ps : List Pg} (h : ∀ p ∈ ps, Good p) : D.lay 64 (.lst (tD sz ps)) = true := layL_of fun x hx => by
  obtain ⟨p, hp, rfl⟩ := List.mem_map.mp hx
  rw [lay_str]
  exact txt_so (textL_ok (h p hp))
/-! ### a shelf and its disk -/
structure Ix where
  s : Nat
  di : Nat
  ti : Nat
  li : Nat
  th : Nat
  al : Nat
def fp (u : Ix) : List Nat := [u.s, u.di, u.ti, u.li, u.th, u.al]
structure Un (M : Mem) (u : Ix) (sz : Nat) (mo b : Int) (old : List Pg) (new : NP) : Prop where
  sh : ∃ L, ShM M u.s u.di u.th u.al mo L (ks new) ∧ ShI old new mo L ∧ L.length ≤ 200
  dk : DkM M u.di u.ti u.li sz b old
  e1 : u.al ≠ u.di ∧ u.al ≠ u.ti ∧ u.al ≠ u.li
  e2 : u.th ≠ u.di ∧ u.th ≠ u.ti ∧ u.th ≠ u.li
  e3 : u.s ≠ u.di ∧ u.s ≠ u.ti ∧ u.s ≠ u.li
theorem Un.fr {S : List Nat} {M M' : Mem} {u : Ix} {sz : Nat} {mo b : Int} {old : List Pg} {new : NP} (h : Un M u sz mo b old new) (f : Fr S M M') (d : ∀ j ∈ fp u, j ∉ S) : Un M' u sz mo b old new := by
  obtain ⟨⟨L, a1, a2, a3⟩, b, c1, c2, c3⟩ := h
  exact ⟨⟨L, a1.fr f (d _ (by simp [fp])) (d _ (by simp [fp])) (d _ (by simp [fp])), a2, a3⟩, b.fr f (d _ (by simp [fp])) (d _ (by simp [fp])) (d _ (by simp [fp])), c1, c2, c3⟩
/-- held pages: no more than may be -/
theorem ShI.len {old : List Pg} {new : NP} {mo : Int} {L : NP} (h : ShI old new mo L) (hm : mo ≤ 40) (hn : new.length ≤ 200) : L.length ≤ 200 := by
  rcases h.few with h | h <;> omega
section
variable {M : Mem} {u : Ix} {sz : Nat} {mo b : Int} {old : List Pg} {new : NP}
theorem un_page (h : Un M u sz mo b old new) (hm : mo ≤ 40) (hn : new.length ≤ 200) (ho : old.length ≤ 200) (g : ∀ p ∈ old, Good p ∧ Fit p sz) {n : Nat} {p : Pg} (hd : due old new n = some p) :
    ∃ M', f_Shelf_page [.obj u.s, .int (n : Nat)] M = .ok p.toD M' ∧ Un M' u sz mo b old new ∧ Fr (fp u) M M' := by
  obtain ⟨⟨L, a1, a2, a3⟩, dk, e1, e2, e3⟩ := h
  obtain ⟨M', L', q1, q2, q3, q4⟩ := page_ok2 a1 dk a2 (by omega) (by omega) g hd
  exact ⟨M', q1, ⟨⟨L', q2, q3, q3.len hm hn⟩, dk.fr q4 (by simp [Ne.symm e3.1, Ne.symm e2.1]) (by simp [Ne.symm e3.2.1, Ne.symm e2.2.1]) (by simp [Ne.symm e3.2.2, Ne.symm e2.2.2]), e1, e2, e3⟩, q4.mono (by simp [fp])⟩
theorem un_put (h : Un M u sz mo b old new) (hm : mo ≤ 40) {n : Nat} {p : Pg} (hn : new.length ≤ 200) (hn2 : (up new n p).length ≤ 200) (h4 : n ≤ 4095) (hp : Good p) (f : Fit p sz) :
    ∃ M', f_Shelf_put [.obj u.s, .int (n : Nat), p.toD] M = .ok .non M' ∧ Un M' u sz mo b old (up new n p) ∧ Fr (fp u) M M' := by
  obtain ⟨⟨L, a1, a2, a3⟩, dk, e1, e2, e3⟩ := h
  obtain ⟨M', L', q1, q2, q3, q4⟩ := put_ok a1 dk a2 (by omega) (by omega) h4 hp f
  exact ⟨M', q1, ⟨⟨L', q2, q3, q3.len hm hn2⟩, dk.fr q4 (by simp [Ne.symm e1.1, Ne.symm e2.1]) (by simp [Ne.symm e1.2.1, Ne.symm e2.2.1]) (by simp [Ne.symm e1.2.2, Ne.symm e2.2.2]), e1, e2, e3⟩, q4.mono (by simp [fp])⟩
theorem un_write (h : Un M u sz mo b old new) (hm : mo ≤ 40) (hn : new.length ≤ 200) (ho : old.length ≤ 200) {n : Nat} {p : Pg} (h4 : n ≤ old.length) (hk : lk new n = some p) (hp : Good p) (f : Fit p sz) :
    ∃ M', f_Shelf_write [.obj u.s, .int (n : Nat)] M = .ok .non M' ∧ Un M' u sz mo (b + 1) (setP old n p) (rem new n) ∧ Fr (fp u) M M' := by
  obtain ⟨⟨L, a1, a2, a3⟩, dk, e1, e2, e3⟩ := h
  obtain ⟨M', L', q1, q2, q3, q4, q5⟩ := write_ok2 a1 dk a2 (by omega) (by omega) e1 e2 e3 (by omega) h4 hk hp f
  exact ⟨M', q1, ⟨⟨L', q2, q4, q4.len hm (Nat.le_trans (rem_sub new n).length_le hn)⟩, q3, e1, e2, e3⟩, q5.mono (by simp [fp])⟩
theorem un_forget (h : Un M u sz mo b old new) : ∃ M', f_Shelf_forget [.obj u.s] M = .ok .non M' ∧ Un M' { u with th := M.length, al := M.length + 1 } sz mo b old [] ∧ Fr [u.s] M M' ∧ f_Shelf_held [.obj u.s] M' = .ok (.lst []) M' := by
  obtain ⟨⟨L, a1, a2, a3⟩, dk, e1, e2, e3⟩ := h
  obtain ⟨M', q1, q2, q3⟩ := forget_ok a1
  have l1 := (List.getElem?_eq_some_iff.mp dk.d).1
  have l2 := (List.getElem?_eq_some_iff.mp dk.t).1
  have l3 := (List.getElem?_eq_some_iff.mp dk.l).1
  refine ⟨M', q1, ⟨⟨[], q2, ⟨List.nodup_nil, fun z hz => by simp at hz, fun n hn => by simp [ks] at hn, .inr (Nat.le_refl _)⟩, by simp⟩, dk.fr q3 (by simp [Ne.symm e3.1]) (by simp [Ne.symm e3.2.1]) (by simp [Ne.symm e3.2.2]), ⟨by show M.length + 1 ≠ u.di; omega, by show M.length + 1 ≠ u.ti; omega, by show M.length + 1 ≠ u.li; omega⟩, ⟨by show M.length ≠ u.di; omega, by show M.length ≠ u.ti; omega, by show M.length ≠ u.li; omega⟩, e3⟩, q3, ?_⟩
  exact held_ok q2 (by simp)
theorem un_changed (h : Un M u sz mo b old new) (hn : new.length < 64) : f_Shelf_changed [.obj u.s] M = .ok (.lst ((sortI ((ks new).map fun n : Nat => (n : Int))).map .int)) M := by
  obtain ⟨⟨L, a1, _⟩, _⟩ := h
  exact changed_ok a1 (by simp [ks]; exact hn)
theorem un_held (h : Un M u sz mo b old new) : ∃ L, f_Shelf_held [.obj u.s] M = .ok (.lst (((ks L).map fun n : Nat => (n : Int)).map .int)) M ∧ ShI old new mo L ∧ L.length ≤ 200 := by
  obtain ⟨⟨L, a1, a2, a3⟩, _⟩ := h
  exact ⟨L, held_ok a1 (by omega), a2, a3⟩
/-- the shelf's object -/
theorem un_so (h : Un M u sz mo b old new) : ∃ c, M[u.s]? = some (SO u.di u.th u.al mo c) := by
  obtain ⟨⟨L, a1, _⟩, _⟩ := h
  exact a1.so
end
/-! ### the world -/
def WO (sz : Nat) (old : List Pg) (wn : Nat) (many bg mo : Int) : MO := .dic [(.inr "size", .int (sz : Nat)), (.inr "old", .lst (old.map Pg.toD)), (.inr "new", .obj wn), (.inr "many", .int many), (.inr "begun", .int bg), (.inr "most", .lst [.int 2, .int mo])]
/-- what is true of the law's own dicts -/
structure WI (sz : Nat) (old : List Pg) (new : NP) (many : Nat) : Prop where
  nd : (ks new).Nodup
  go : ∀ p ∈ old, Good p ∧ Fit p sz
  gn : ∀ z ∈ new, Good z.2 ∧ Fit z.2 sz
  lt : ∀ n ∈ ks new, n < many
  all : ∀ n, n < many → n < old.length ∨ n ∈ ks new
  ol : old.length ≤ many
  few : many ≤ 60
  two : 2 ≤ old.length
theorem WI.len {sz : Nat} {old : List Pg} {new : NP} {many : Nat} (h : WI sz old new many) : new.length ≤ many := by
  have := nd_len (ks new) (List.range many) h.nd fun x hx => List.mem_range.mpr (h.lt x hx)
  simpa [ks] using this
theorem WI.due {sz : Nat} {old : List Pg} {new : NP} {many : Nat} (h : WI sz old new many) {n : Nat} (hn : n < many) : ∃ p, due old new n = some p ∧ Good p ∧ Fit p sz := by
  unfold K10.due
  by_cases hm : n ∈ ks new
  · obtain ⟨p, hp⟩ := lk_some hm
    have := h.gn _ (lk_mem hp)
    exact ⟨p, by rw [hp]; rfl, this⟩
  · rw [lk_none.mpr hm]
    have hl : n < old.length := (h.all n hn).resolve_right hm
    exact ⟨old[n], List.getElem?_eq_getElem hl, h.go _ (List.getElem_mem hl)⟩
structure State (ns : List Int) (M : Mem) (w wn : Nat) (u v : Ix) (sz : Nat) (b bg mo : Int) (old : List Pg) (new : NP) (many : Nat) : Prop where
  tp : Tp ns M
  wo : M[w]? = some (WO sz old wn many bg mo)
  wm : M[wn]? = some (.dic (thD new))
  uu : Un M u sz 2 b old new
  vv : Un M v sz mo b old new
  duv : ∀ j ∈ fp u, j ∉ fp v
  du : 0 ∉ fp u ∧ w ∉ fp u ∧ wn ∉ fp u
  dv : 0 ∉ fp v ∧ w ∉ fp v ∧ wn ∉ fp v
  dw : 0 ≠ w ∧ 0 ≠ wn ∧ w ≠ wn
  wi : WI sz old new many
  m40 : 2 ≤ mo ∧ mo ≤ 40
section
variable {ns : List Int} {M M' : Mem} {w wn : Nat} {u v : Ix} {sz : Nat} {b bg mo : Int} {old : List Pg} {new : NP} {many : Nat}
theorem Tp.fr {S : List Nat} (h : Tp ns M) (f : Fr S M M') (n : 0 ∉ S) : Tp ns M' := by
  obtain ⟨k, s, h0, h1⟩ := h
  exact ⟨k, s, h0, f.at h1 n⟩
theorem State.ext (h : State ns M w wn u v sz b bg mo old new many) (e : Ext ns M M') : State ns M' w wn u v sz b bg mo old new many := by
  have f := e.fr
  have n0 : ∀ x : Ix, 0 ∉ fp x → ∀ j ∈ fp x, j ∉ [0] := fun x hx j hj z => hx (List.mem_singleton.mp z ▸ hj)
  exact ⟨e.tp, f.at h.wo (by simp [Ne.symm h.dw.1]), f.at h.wm (by simp [Ne.symm h.dw.2.1]), h.uu.fr f (n0 _ h.du.1), h.vv.fr f (n0 _ h.dv.1), h.duv, h.du, h.dv, h.dw, h.wi, h.m40⟩
/-- garbage comes -/
theorem State.app (h : State ns M w wn u v sz b bg mo old new many) {X : Mem} : State ns (M ++ X) w wn u v sz b bg mo old new many := h.ext (Ext.app h.tp)
end
end K10
set_option Elab.async false
set_option linter.all false
set_option maxRecDepth 100000
set_option maxHeartbeats 4000000
/-! K10: pages asked for and put at both shelves; all forgotten. -/
namespace K10
open PySem PySem.Spec PyProof.Rows L2 LF
/-! ### what stands apart -/
structure Geo (ns : List Int) (M : Mem) (w wn : Nat) (u v : Ix) : Prop where
  tp : Tp ns M
  duv : ∀ j ∈ fp u, j ∉ fp v
  du : 0 ∉ fp u ∧ w ∉ fp u ∧ wn ∉ fp u
  dv : 0 ∉ fp v ∧ w ∉ fp v ∧ wn ∉ fp v
  dw : 0 ≠ w ∧ 0 ≠ wn ∧ w ≠ wn
section
variable {ns : List Int} {M M' : Mem} {w wn : Nat} {u v : Ix} {sz : Nat} {b bg mo : Int} {old : List Pg} {new : NP} {many : Nat}
theorem State.geo (h : State ns M w wn u v sz b bg mo old new many) : Geo ns M w wn u v := ⟨h.tp, h.duv, h.du, h.dv, h.dw⟩
/-- M' has all that M has, but at places of S -/
structure Kp (ns : List Int) (w wn : Nat) (u v : Ix) (S : List Nat) (M M' : Mem) : Prop where
  geo : Geo ns M' w wn u v
  wo : w ∉ S → ∀ o, M[w]? = some o → M'[w]? = some o
  wm : wn ∉ S → ∀ o, M[wn]? = some o → M'[wn]? = some o
  uu : (∀ j ∈ fp u, j ∉ S) → ∀ sz mo b old new, Un M u sz mo b old new → Un M' u sz mo b old new
  vv : (∀ j ∈ fp v, j ∉ S) → ∀ sz mo b old new, Un M v sz mo b old new → Un M' v sz mo b old new
theorem Geo.kp {S : List Nat} (g : Geo ns M w wn u v) (f : Fr S M M') (t : Tp ns M') : Kp ns w wn u v S M M' :=
  ⟨⟨t, g.duv, g.du, g.dv, g.dw⟩, fun n o h => f.at h n, fun n o h => f.at h n, fun d _ _ _ _ _ h => h.fr f d, fun d _ _ _ _ _ h => h.fr f d⟩
/-- the tape goes on -/
theorem Geo.ext (g : Geo ns M w wn u v) (e : Ext ns M M') : Kp ns w wn u v [0] M M' := g.kp e.fr e.tp
theorem Geo.opU (g : Geo ns M w wn u v) (f : Fr (fp u) M M') : Kp ns w wn u v (fp u) M M' := g.kp f (Tp.fr g.tp f g.du.1)
theorem Geo.opV (g : Geo ns M w wn u v) (f : Fr (fp v) M M') : Kp ns w wn u v (fp v) M M' := g.kp f (Tp.fr g.tp f g.dv.1)
theorem Geo.opW (g : Geo ns M w wn u v) {o : MO} : Kp ns w wn u v [w] M (M.set w o) := g.kp (Fr.set (by simp)) (Tp.fr g.tp (Fr.set (S := [w]) (by simp)) (by simp [g.dw.1]))
theorem Geo.opN (g : Geo ns M w wn u v) {o : MO} : Kp ns w wn u v [wn] M (M.set wn o) := g.kp (Fr.set (by simp)) (Tp.fr g.tp (Fr.set (S := [wn]) (by simp)) (by simp [g.dw.2.1]))
theorem not1 {x : Nat} {l : List Nat} (h : x ∉ l) : ∀ j ∈ l, j ∉ [x] := fun j hj z => h (List.mem_singleton.mp z ▸ hj)
/-! ### the world's entries -/
theorem w_size {mn : Int} (h : M[w]? = some (WO sz old wn mn bg mo)) : fDGet (.obj w) (.str "size") M = .ok (.int (sz : Nat)) M := fDGet_of (k := .inr "size") rfl h rfl
theorem w_old {mn : Int} (h : M[w]? = some (WO sz old wn mn bg mo)) : fDGet (.obj w) (.str "old") M = .ok (.lst (old.map Pg.toD)) M := fDGet_of (k := .inr "old") rfl h rfl
theorem w_new {mn : Int} (h : M[w]? = some (WO sz old wn mn bg mo)) : fDGet (.obj w) (.str "new") M = .ok (.obj wn) M := fDGet_of (k := .inr "new") rfl h rfl
theorem w_many {mn : Int} (h : M[w]? = some (WO sz old wn mn bg mo)) : fDGet (.obj w) (.str "many") M = .ok (.int mn) M := fDGet_of (k := .inr "many") rfl h rfl
theorem w_begun {mn : Int} (h : M[w]? = some (WO sz old wn mn bg mo)) : fDGet (.obj w) (.str "begun") M = .ok (.int bg) M := fDGet_of (k := .inr "begun") rfl h rfl
theorem w_most {mn : Int} (h : M[w]? = some (WO sz old wn mn bg mo)) : fDGet (.obj w) (.str "most") M = .ok (.lst [.int 2, .int mo]) M := fDGet_of (k := .inr "most") rfl h rfl
theorem put_many {mn m2 : Int} (h : M[w]? = some (WO sz old wn mn bg mo)) (r : Env') : putAt (.obj w) (.str "many") (.int m2) r M = .nx r (M.set w (WO sz old wn m2 bg mo)) := putAt_of (k := .inr "many") rfl h (by exact (by decide : (6 : Nat) ≤ 100000))
theorem put_begun {mn b2 : Int} (h : M[w]? = some (WO sz old wn mn bg mo)) (r : Env') : putAt (.obj w) (.str "begun") (.int b2) r M = .nx r (M.set w (WO sz old wn mn b2 mo)) := putAt_of (k := .inr "begun") rfl h (by exact (by decide : (6 : Nat) ≤ 100000))
theorem put_old {mn : Int} {o2 : List Pg} (h : M[w]? = some (WO sz old wn mn bg mo)) (r : Env') : putAt (.obj w) (.str "old") (.lst (o2.map Pg.toD)) r M = .nx r (M.set w (WO sz o2 wn mn bg mo)) := putAt_of (k := .inr "old") rfl h (by exact (by decide : (6 : Nat) ≤ 100000))
theorem put_newd {mn : Int} {w2 : Nat} (h : M[w]? = some (WO sz old wn mn bg mo)) (r : Env') : putAt (.obj w) (.str "new") (.obj w2) r M = .nx r (M.set w (WO sz old w2 mn bg mo)) := putAt_of (k := .inr "new") rfl h (by exact (by decide : (6 : Nat) ≤ 100000))
/-! ### the page that is due -/
theorem due_A {N : Int} {P : D} (g : fDGet (.obj w) (.str "new") M = .ok (.obj wn) M) (k : fDIn false (.int N) (.obj wn) M = .ok (.bl true) M) (g2 : fDGet (.obj wn) (.int N) M = .ok P M) : f__law_due [.obj w, .int N] M = .ok P M := by
  simp [f__law_due, b__law_due, runB_ev, g, k, g2]
theorem due_B {N : Int} {P : D} {l : List D} (g : fDGet (.obj w) (.str "new") M = .ok (.obj wn) M) (k : fDIn false (.int N) (.obj wn) M = .ok (.bl false) M) (g1 : fDGet (.obj w) (.str "old") M = .ok (.lst l) M) (g2 : fIx (.lst l) (.int N) M = .ok P M) : f__law_due [.obj w, .int N] M = .ok P M := by
  simp [f__law_due, b__law_due, runB_ev, g, k, g1, g2]
theorem ldue {mn : Int} (wo : M[w]? = some (WO sz old wn mn bg mo)) (wm : M[wn]? = some (.dic (thD new))) {n : Nat} {p : Pg} (hd : due old new n = some p) : f__law_due [.obj w, .int (n : Nat)] M = .ok p.toD M := by
  have k := fDIn_of (neg := false) (x := .int (n : Int)) (kk := .inl (n : Int)) rfl wm
  rw [look_th] at k
  unfold due at hd
  cases e : lk new n with
  | some q =>
    rw [e] at hd k
    cases (Option.some.inj hd : q = p)
    exact due_A (w_new wo) k (fDGet_of (k := .inl (n : Int)) rfl wm (by rw [look_th, e]; rfl))
  | none =>
    rw [e] at hd k
    have hd : old[n]? = some p := hd
    exact due_B (w_new wo) k (w_old wo) (fIx_lst (L2.atI_nat (by simp [hd])))
/-! ### asked for -/
abbrev SHL (u v : Ix) : D := .lst [.obj u.s, .obj v.s]
theorem asked_A {M1 M2 M3 : Mem} {us vs : Nat} {N MN way : Int} {P : D} (g : fDGet (.obj w) (.str "many") M = .ok (.int MN) M) (d1 : f__law_draw [.obj 0, .int MN] M = .ok (.int N) M1) (hw : way < 3) (du : f__law_due [.obj w, .int N] M1 = .ok P M1)
    (m1 : ∀ (da : DA) r, methK1 "page" mt_page (.ok (.obj us) M1) da r = methK2 f_Shelf_page 2 (.obj us) (da r M1)) (e1 : f_Shelf_page [.obj us, .int N] M1 = .ok P M2) (m2 : ∀ (da : DA) r, methK1 "page" mt_page (.ok (.obj vs) M2) da r = methK2 f_Shelf_page 2 (.obj vs) (da r M2)) (e2 : f_Shelf_page [.obj vs, .int N] M2 = .ok P M3)
    (eq : fEq (.lst [P, P]) (.lst [P, P]) M3 = .ok (.bl true) M3) : f__law_asked_or_put [.obj 0, .lst [.obj us, .obj vs], .obj w, .int way] M = .ok (.bl true) M3 := by
  simp [-dItL_ev, dItL_K, f__law_asked_or_put, b__law_asked_or_put, runB_ev, g, d1, hw, du, c1__law_asked_or_put, m1, e1, m2, e2, eq]
theorem asked_ok (h : State ns M w wn u v sz b bg mo old new many) {way : Int} (hw : way < 3) : ∃ M', f__law_asked_or_put [.obj 0, SHL u v, .obj w, .int way] M = .ok (.bl true) M' ∧ State ns M' w wn u v sz b bg mo old new many := by
  have hm : 0 < many := by have := h.wi.two; have := h.wi.ol; omega
  have fw := h.wi.few
  have nl := h.wi.len
  have ol := h.wi.ol
  obtain ⟨x, M1, d1, x0, x1, E1⟩ := draw h.tp (m := (many : Int)) (by omega)
  obtain ⟨n, rfl⟩ : ∃ n : Nat, x = n := ⟨x.toNat, by omega⟩
  obtain ⟨p, hd, gp, fpp⟩ := h.wi.due (n := n) (by omega)
  have h1 := h.ext E1
  have D1 := ldue h1.wo h1.wm hd
  obtain ⟨M2, e1, u2, F1⟩ := un_page h1.uu (by omega) (by omega) (by omega) h.wi.go hd
  have K1 := h1.geo.opU F1
  have v2 := K1.vv (fun j hj z => h.duv j z hj) _ _ _ _ _ h1.vv
  obtain ⟨M3, e2, v3, F2⟩ := un_page v2 h.m40.2 (by omega) (by omega) h.wi.go hd
  have K2 := K1.geo.opV F2
  have u3 := K2.uu h.duv _ _ _ _ _ u2
  obtain ⟨c1, s1⟩ := un_so h1.uu
  obtain ⟨c2, s2⟩ := un_so v2
  refine ⟨M3, asked_A (w_many h.wo) d1 hw D1 (fun da r => methK1_of s1 rfl rfl) e1 (fun da r => methK1_of s2 rfl rfl) e2 (fEq_same (lay_row (ps := [p, p]) (by simp [gp]))), ⟨K2.geo.tp, K2.wo h.dv.2.1 _ (K1.wo h.du.2.1 _ h1.wo), K2.wm h.dv.2.2 _ (K1.wm h.du.2.2 _ h1.wm), u3, v3, h.duv, h.du, h.dv, h.dw, h.wi, h.m40⟩⟩
/-! ### put -/
theorem asked_B {M1 M2 M3 M4 M5 M6 M7 : Mem} {us vs : Nat} {N MN way K N2 Z MX : Int} {P : D} (g : fDGet (.obj w) (.str "many") M = .ok (.int MN) M) (d1 : f__law_draw [.obj 0, .int MN] M = .ok (.int N) M1) (hw : ¬ way < 3) (g1 : fDGet (.obj w) (.str "many") M1 = .ok (.int MN) M1) (d2 : f__law_draw [.obj 0, .int 5] M1 = .ok (.int K) M2)
    (ix : fIx (.lst [.int N, .int MN]) (.int (K / 4)) M2 = .ok (.int N2) M2) (gs : fDGet (.obj w) (.str "size") M2 = .ok (.int Z) M2) (pg : f__law_page [.obj 0, .int Z, .int 60] M2 = .ok P M3) (gn : fDGet (.obj w) (.str "new") M3 = .ok (.obj wn) M3) (p1 : ∀ r, putAt (.obj wn) (.int N2) P r M3 = .nx r M4)
    (g4 : fDGet (.obj w) (.str "many") M4 = .ok (.int MN) M4) (hx : (if MN < N2 + 1 then N2 + 1 else MN) = MX) (p2 : ∀ r, putAt (.obj w) (.str "many") (.int MX) r M4 = .nx r M5)
    (m1 : ∀ (da : DA) r, methK1 "put" mt_put (.ok (.obj us) M5) da r = methK2 f_Shelf_put 3 (.obj us) (da r M5)) (e1 : f_Shelf_put [.obj us, .int N2, P] M5 = .ok .non M6) (m2 : ∀ (da : DA) r, methK1 "put" mt_put (.ok (.obj vs) M6) da r = methK2 f_Shelf_put 3 (.obj vs) (da r M6)) (e2 : f_Shelf_put [.obj vs, .int N2, P] M6 = .ok .non M7)
    (eq : fEq (.lst [.non, .non]) (.lst [.non, .non]) M7 = .ok (.bl true) M7) : f__law_asked_or_put [.obj 0, .lst [.obj us, .obj vs], .obj w, .int way] M = .ok (.bl true) M7 := by
  simp [-dItL_ev, dItL_K, f__law_asked_or_put, b__law_asked_or_put, runB_ev, g, d1, decide_eq_false hw, g1, d2, ix, gs, pg, gn, p1, g4, hx, p2, c2__law_asked_or_put, m1, e1, m2, e2, eq]
theorem mem_up {L : NP} {n : Nat} {p : Pg} {z : Nat × Pg} (h : z ∈ up L n p) : z = (n, p) ∨ z ∈ L := by
  unfold up at h
  split at h
  · obtain ⟨x, hx, rfl⟩ := List.mem_map.mp h
    split
    · exact .inl rfl
    · exact .inr hx
  · rcases List.mem_append.mp h with h | h
    · exact .inr h
    · exact .inl (List.mem_singleton.mp h)
theorem mem_upA {A : List Nat} {n m : Nat} : m ∈ upA A n ↔ m ∈ A ∨ m = n := by
  unfold upA
  split
  · rename_i h
    exact ⟨.inl, fun z => z.elim id fun e => e ▸ h⟩
  · simp
theorem WI.up (h : WI sz old new many) {n : Nat} {p : Pg} (hn : n ≤ many) (gp : Good p) (f : Fit p sz) (hf : max many (n + 1) ≤ 60) : WI sz old (K10.up new n p) (max many (n + 1)) := by
  refine ⟨?_, h.go, fun z hz => ?_, fun m hm => ?_, fun m hm => ?_, ?_, hf, h.two⟩
  · rw [up_ks]
    unfold upA
    split
    · exact h.nd
    · rename_i q
      exact List.nodup_append.mpr ⟨h.nd, by simp, fun a ha b hb e => q (by rw [List.mem_singleton.mp hb] at e; exact e ▸ ha)⟩
  · rcases mem_up hz with rfl | hz
    · exact ⟨gp, f⟩
    · exact h.gn z hz
  · rw [up_ks, mem_upA] at hm
    rcases hm with hm | rfl
    · have := h.lt m hm; omega
    · omega
  · rw [up_ks, mem_upA]
    by_cases e : m < many
    · exact (h.all m e).imp id .inl
    · exact .inr (.inr (by omega))
  · have := h.ol; omega
theorem put_both (h : State ns M w wn u v sz b bg mo old new many) (hf : many < 60) (z0 : 64 ≤ sz) (z1 : sz ≤ 200) {way : Int} (hw : ¬ way < 3) : ∃ M' new' many', f__law_asked_or_put [.obj 0, SHL u v, .obj w, .int way] M = .ok (.bl true) M' ∧ State ns M' w wn u v sz b bg mo old new' many' ∧ many' ≤ many + 1 := by
  have hm : 0 < many := by have := h.wi.two; have := h.wi.ol; omega
  have nl := h.wi.len
  have ol := h.wi.ol
  obtain ⟨x, M1, d1, x0, x1, E1⟩ := draw h.tp (m := (many : Int)) (by omega)
  have h1 := h.ext E1
  obtain ⟨k, M2, d2, k0, k1, E2⟩ := draw h1.tp (m := 5) (by omega)
  have h2 := h1.ext E2
  obtain ⟨y, ⟨y0, y1⟩, ix⟩ := ix_ints (P := fun z => 0 ≤ z ∧ z ≤ (many : Int)) (ns := [x, (many : Int)]) (i := k / 4) (by omega) (by simp; omega) (fun z hz => by
    simp only [List.mem_cons, List.mem_nil_iff, or_false] at hz
    rcases hz with rfl | rfl <;> omega)
  simp only [List.map_cons, List.map_nil] at ix
  obtain ⟨n, rfl⟩ : ∃ n : Nat, y = n := ⟨y.toNat, by omega⟩
  have hn : n ≤ many := by omega
  obtain ⟨p, M3, pg, gp, f, E3⟩ := page_ok h2.tp z0 z1
  have h3 := h2.ext E3
  have wi' := h3.wi.up hn gp f (by omega)
  have nl' := wi'.len
  have p1 : ∀ r, putAt (.obj wn) (.int (n : Int)) p.toD r M3 = .nx r (M3.set wn (.dic (thD (up new n p)))) := fun r => by rw [putAt_of (k := .inl (n : Int)) rfl h3.wm (by simp [thD]; omega), put_up]
  have K4 := h3.geo.opN (o := .dic (thD (up new n p)))
  have wm4 : (M3.set wn (.dic (thD (up new n p))))[wn]? = some (.dic (thD (up new n p))) := at_set h3.wm
  have wo4 := K4.wo (by simp [h.dw.2.2]) _ h3.wo
  have u4 := K4.uu (not1 h.du.2.2) _ _ _ _ _ h3.uu
  have v4 := K4.vv (not1 h.dv.2.2) _ _ _ _ _ h3.vv
  generalize M3.set wn (.dic (thD (up new n p))) = M4 at *
  have hx : (if (many : Int) < (n : Int) + 1 then (n : Int) + 1 else (many : Int)) = ((max many (n + 1) : Nat) : Int) := by split <;> omega
  have p2 := fun r => put_many (m2 := ((max many (n + 1) : Nat) : Int)) wo4 r
  have K5 := K4.geo.opW (o := WO sz old wn ((max many (n + 1) : Nat) : Int) bg mo)
  have wo5 : (M4.set w (WO sz old wn ((max many (n + 1) : Nat) : Int) bg mo))[w]? = some (WO sz old wn ((max many (n + 1) : Nat) : Int) bg mo) := at_set wo4
  have wm5 := K5.wm (by simp [Ne.symm h.dw.2.2]) _ wm4
  have u5 := K5.uu (not1 h.du.2.1) _ _ _ _ _ u4
  have v5 := K5.vv (not1 h.dv.2.1) _ _ _ _ _ v4
  generalize M4.set w (WO sz old wn ((max many (n + 1) : Nat) : Int) bg mo) = M5 at *
  obtain ⟨M6, e1, u6, F1⟩ := un_put (n := n) u5 (by omega) (by omega) (by omega) (by omega) gp f
  have K6 := K5.geo.opU F1
  have v6 := K6.vv (fun j hj z => h.duv j z hj) _ _ _ _ _ v5
  obtain ⟨M7, e2, v7, F2⟩ := un_put (n := n) v6 h.m40.2 (by omega) (by omega) (by omega) gp f
  have K7 := K6.geo.opV F2
  have u7 := K7.uu h.duv _ _ _ _ _ u6
  obtain ⟨c1, s1⟩ := un_so u5
  obtain ⟨c2, s2⟩ := un_so v6
  refine ⟨M7, up new n p, max many (n + 1), asked_B (w_many h.wo) d1 hw (w_many h1.wo) d2 (ix M2) (w_size h2.wo) pg (w_new h3.wo) p1 (w_many wo4) hx p2 (fun da r => methK1_of s1 rfl rfl) e1 (fun da r => methK1_of s2 rfl rfl) e2 (fEq_same rfl), ⟨K7.geo.tp, K7.wo h.dv.2.1 _ (K6.wo h.du.2.1 _ wo5), K7.wm h.dv.2.2 _ (K6.wm h.du.2.2 _ wm5), u7, v7, h.duv, h.du, h.dv, h.dw, wi', h.m40⟩, by omega⟩
/-! ### forgotten -/
theorem forgot_A {M1 M2 M3 M4 : Mem} {us vs wn2 : Nat} {L : Int} {l : List D} (e0 : M.length = wn2) (p1 : ∀ r, putAt (.obj w) (.str "new") (.obj wn2) r (M ++ [.dic []]) = .nx r M1) (g : fDGet (.obj w) (.str "old") M1 = .ok (.lst l) M1) (hl : (l.length : Int) = L) (p2 : ∀ r, putAt (.obj w) (.str "many") (.int L) r M1 = .nx r M2)
    (m1 : ∀ r, methK1 "forget" mt_forget (.ok (.obj us) M2) dNil r = .ok .non M3) (m2 : ∀ r, methK1 "forget" mt_forget (.ok (.obj vs) M3) dNil r = .ok .non M4) (eq : fEq (.lst [.non, .non]) (.lst [.non, .non]) M4 = .ok (.bl true) M4) (ix : fIx (.lst [.obj us, .obj vs]) (.int 0) M4 = .ok (.obj us) M4)
    (m3 : ∀ r, methK1 "held" mt_held (.ok (.obj us) M4) dNil r = .ok (.lst []) M4) (eq2 : fEq (.lst []) (.lst []) M4 = .ok (.bl true) M4) : f__law_forgotten [.lst [.obj us, .obj vs], .obj w] M = .ok (.bl true) M4 := by
  have dn : ∀ r N, dNewDic r N = .ok (.obj N.length) (N ++ [.dic []]) := fun r N => rfl
  simp [-dItL_ev, dItL_K, f__law_forgotten, b__law_forgotten, runB_ev, dn, e0, p1, g, hl, p2, c1__law_forgotten, m1, m2, eq, ix, m3, eq2]
theorem fp_lt (h : Un M u sz mo b old new) : ∀ j ∈ fp u, j < M.length := by
  obtain ⟨⟨L, ⟨⟨c, a⟩, a2, a3, _⟩, _⟩, dk, _⟩ := h
  intro j hj
  simp [fp] at hj
  rcases hj with rfl | rfl | rfl | rfl | rfl | rfl
  · exact (List.getElem?_eq_some_iff.mp a).1
  · exact (List.getElem?_eq_some_iff.mp dk.d).1
  · exact (List.getElem?_eq_some_iff.mp dk.t).1
  · exact (List.getElem?_eq_some_iff.mp dk.l).1
  · exact (List.getElem?_eq_some_iff.mp a2).1
  · exact (List.getElem?_eq_some_iff.mp a3).1
theorem fp_new {u : Ix} {k j : Nat} (h : j ∈ fp { u with th := k, al := k + 1 }) : j ∈ fp u ∨ k ≤ j := by
  simp [fp] at h
  rcases h with rfl | rfl | rfl | rfl | rfl | rfl
  · exact .inl (by simp [fp])
  · exact .inl (by simp [fp])
  · exact .inl (by simp [fp])
  · exact .inl (by simp [fp])
  · exact .inr (Nat.le_refl _)
  · exact .inr (Nat.le_succ _)
theorem forgot_ok (h : State ns M w wn u v sz b bg mo old new many) : ∃ M' wn' u' v', f__law_forgotten [SHL u v, .obj w] M = .ok (.bl true) M' ∧ State ns M' w wn' u' v' sz b bg mo old [] old.length ∧ u'.s = u.s ∧ v'.s = v.s ∧ u'.di = u.di ∧ v'.di = v.di := by
  have wl : w < M.length := (List.getElem?_eq_some_iff.mp h.wo).1
  have tl : 0 < M.length := by obtain ⟨k, s, _, q⟩ := h.tp; exact (List.getElem?_eq_some_iff.mp q).1
  have ul := fp_lt h.uu
  have vl := fp_lt h.vv
  -- the new dict
  have h0 := h.app (X := [MO.dic []])
  have nm : (M ++ [MO.dic []])[M.length]? = some (.dic []) := by simp
  have p1 := fun r => put_newd (w2 := M.length) h0.wo r
  have F1 : Fr [w] (M ++ [MO.dic []]) ((M ++ [MO.dic []]).set w (WO sz old M.length many bg mo)) := Fr.set (by simp)
  have wo1 : ((M ++ [MO.dic []]).set w (WO sz old M.length many bg mo))[w]? = some (WO sz old M.length many bg mo) := at_set h0.wo
  have nm1 : ((M ++ [MO.dic []]).set w (WO sz old M.length many bg mo))[M.length]? = some (.dic []) := at_ne nm (by omega)
  have tp1 := Tp.fr h0.tp F1 (by simp [h.dw.1])
  have u1 := h0.uu.fr F1 (not1 h.du.2.1)
  have v1 := h0.vv.fr F1 (not1 h.dv.2.1)
  have l1 : ((M ++ [MO.dic []]).set w (WO sz old M.length many bg mo)).length = M.length + 1 := by simp
  generalize (M ++ [MO.dic []]).set w (WO sz old M.length many bg mo) = M1 at *
  have p2 := fun r => put_many (m2 := (old.length : Nat)) wo1 r
  have F2 : Fr [w] M1 (M1.set w (WO sz old M.length (old.length : Nat) bg mo)) := Fr.set (by simp)
  have wo2 : (M1.set w (WO sz old M.length (old.length : Nat) bg mo))[w]? = some (WO sz old M.length (old.length : Nat) bg mo) := at_set wo1
  have nm2 : (M1.set w (WO sz old M.length (old.length : Nat) bg mo))[M.length]? = some (.dic []) := at_ne nm1 (by omega)
  have tp2 := Tp.fr tp1 F2 (by simp [h.dw.1])
  have u2 := u1.fr F2 (not1 h.du.2.1)
  have v2 := v1.fr F2 (not1 h.dv.2.1)
  have l2 : (M1.set w (WO sz old M.length (old.length : Nat) bg mo)).length = M.length + 1 := by simp [l1]
  generalize M1.set w (WO sz old M.length (old.length : Nat) bg mo) = M2 at *
  obtain ⟨M3, e3, u3, F3, q3⟩ := un_forget u2
  have us0 : u.s ≠ 0 := fun z => h.du.1 (by simp [fp, z])
  have usw : u.s ≠ w := fun z => h.du.2.1 (by simp [fp, z])
  have vs0 : v.s ≠ 0 := fun z => h.dv.1 (by simp [fp, z])
  have vsw : v.s ≠ w := fun z => h.dv.2.1 (by simp [fp, z])
  have usl : u.s < M.length := ul _ (by simp [fp])
  have vsl : v.s < M.length := vl _ (by simp [fp])
  have usv : ∀ j ∈ fp v, j ∉ [u.s] := not1 (h.duv _ (by simp [fp]))
  have vsu : v.s ∉ fp u := fun z => h.duv _ z (by simp [fp])
  have v3 := v2.fr F3 usv
  obtain ⟨M4, e4, v4, F4, q4⟩ := un_forget v3
  have l3 := F3.len
  have lu3 := fp_lt u3
  have vsu3 : v.s ∉ fp { u with th := M2.length, al := M2.length + 1 } := fun z => by
    rcases fp_new z with z | z
    · exact vsu z
    · omega
  have u4 := u3.fr F4 (not1 vsu3)
  obtain ⟨c1, s1⟩ := un_so u2
  obtain ⟨c2, s2⟩ := un_so v3
  obtain ⟨c3, s3⟩ := un_so u4
  have hu4 : f_Shelf_held [.obj u.s] M4 = .ok (.lst []) M4 := by
    obtain ⟨⟨L5, a1, a2, a3⟩, _⟩ := u3
    have h5 := held_ok a1 (by omega)
    have e5 := q3.symm.trans h5
    have eL5 : ks L5 = [] := by
      have := D.lst.inj (Out.ok.inj e5).1
      cases hk : ks L5 with
      | nil => rfl
      | cons a l => rw [hk] at this; simp at this
    have a4 := a1.fr F4 (by simp; exact fun z => vsu3 (by simp [fp, z])) (by simp; exact fun z => vsu3 (by simp [fp, z])) (by simp; exact fun z => vsu3 (by simp [fp, z]))
    have h6 := held_ok a4 (by omega)
    rw [eL5] at h6
    exact h6
  refine ⟨M4, M.length, { u with th := M2.length, al := M2.length + 1 }, { v with th := M3.length, al := M3.length + 1 }, forgot_A rfl p1 (w_old wo1) (by simp) p2 (fun r => meth0 s1 rfl rfl e3) (fun r => meth0 s2 rfl rfl e4) (fEq_same rfl) (fIx_lst (L2.atI_nat (j := 0) rfl)) (fun r => meth0 s3 rfl rfl hu4) (fEq_same rfl), ?_, rfl, rfl, rfl, rfl⟩
  refine ⟨Tp.fr (Tp.fr tp2 F3 (by simp [Ne.symm us0])) F4 (by simp [Ne.symm vs0]), F4.at (F3.at wo2 (by simp [Ne.symm usw])) (by simp [Ne.symm vsw]), F4.at (F3.at nm2 (by simp; omega)) (by simp; omega), u4, v4, fun j hj hv => ?_, ⟨fun z => ?_, fun z => ?_, fun z => ?_⟩, ⟨fun z => ?_, fun z => ?_, fun z => ?_⟩, ⟨h.dw.1, by omega, by omega⟩, ⟨List.nodup_nil, h.wi.go, fun z hz => by simp at hz, fun n hn => by simp [ks] at hn, fun n hn => .inl hn, Nat.le_refl _, by have := h.wi.ol; have := h.wi.few; omega, h.wi.two⟩, h.m40⟩
  · rcases fp_new hv with hv | hv
    · rcases fp_new hj with hj | hj
      · exact h.duv j hj hv
      · have := vl j hv; omega
    · have := lu3 j hj; omega
  · rcases fp_new z with z | z
    · exact h.du.1 z
    · omega
  · rcases fp_new z with z | z
    · exact h.du.2.1 z
    · omega
  · rcases fp_new z with z | z
    · have := ul _ z; omega
    · omega
  · rcases fp_new z with z | z
    · exact h.dv.1 z
    · omega
  · rcases fp_new z with z | z
    · exact h.dv.2.1 z
    · omega
  · rcases fp_new z with z | z
    · have := vl _ z; omega
    · omega
end
end K10
set_option Elab.async false
set_option linter.all false
set_option maxRecDepth 100000
set_option maxHeartbeats 4000000
/-! K10: what is held, what the disks hold, all told. -/
namespace K10
open PySem PySem.Spec PyProof.Rows L2 LF
theorem inL_ints (n : Int) (ns : List Int) (M : Mem) : fInL true (.int n) (.lst (ns.map .int)) M = .ok (.bl (!decide (n ∈ ns))) M := by
  have h1 : (ns.map D.int).all flatD = true := by
    rw [List.all_map]
    exact List.all_eq_true.mpr fun x _ => rfl
  have h2 : inV (toV (.int n)) ((ns.map D.int).map toV) = decide (n ∈ ns) := by
    unfold inV
    rw [List.map_map, List.any_map]
    induction ns with
    | nil => rfl
    | cons a l ih =>
      rw [List.any_cons, ih (by rw [List.all_map]; exact List.all_eq_true.mpr fun x _ => rfl)]
      have : ((fun y => eqV y (toV (D.int n))) ∘ toV ∘ D.int) a = (a == n) := rfl
      rw [this]
      by_cases e : a = n
      · simp [e]
      · simp [e, Ne.symm e]
  unfold fInL
  simp only [seqOf]
  rw [h1, h2]
  rfl
theorem mem_sortI {n : Int} {ns : List Int} : n ∈ sortI ns ↔ n ∈ ns := (List.mergeSort_perm ns leI).mem_iff
theorem len_sortI (ns : List Int) : (sortI ns).length = ns.length := (List.mergeSort_perm ns leI).length_eq
section
variable {ns : List Int} {M M' : Mem} {w wn : Nat} {u v : Ix} {sz : Nat} {b bg mo : Int} {old : List Pg} {new : NP} {many : Nat}
/-! ### what is held -/
theorem held_step {s : Nat} {H NS K : List D} {Lh Ln : Int} {SH : D} {x4 x5 x6 : Option D} (m1 : ∀ r, methK1 "held" mt_held (.ok (.obj s) M) dNil r = .ok (.lst H) M) (g : fDGet (.obj w) (.str "new") M = .ok (.obj wn) M) (l : fListD false [.obj wn] M = .ok (.lst K) M) (so : fSortI false [.lst K] M = .ok (.lst NS) M)
    (m2 : ∀ r, methK1 "changed" mt_changed (.ok (.obj s) M) dNil r = .ok (.lst NS) M) (ne : fNe (.lst NS) (.lst NS) M = .ok (.bl false) M) (cm : compL anyM (gSlot 6) t2__law_held_right c1__law_held_right [some SH, some (.obj w), some (.obj s), some (.int mo), some (.lst H), some (.lst NS), none] NS [] M = .ok [] M) (ne2 : fNe (.lst []) (.lst []) M = .ok (.bl false) M)
    (hh : (H.length : Int) = Lh) (hn : (NS.length : Int) = Ln) (c : ¬ (if mo < Ln then Ln else mo) < Lh) (ls : fLenSetI (.lst H) M = .ok (.int Lh) M) : l3__law_held_right [some SH, some (.obj w), some (.obj s), some (.int mo), x4, x5, x6] M = .nx [some SH, some (.obj w), some (.obj s), some (.int mo), some (.lst H), some (.lst NS), x6] M := by
  simp [-dItL_ev, dItL_K, l3__law_held_right, m1, g, l, so, m2, ne, cm, ne2, hh, hn, decide_eq_false c, ls]
theorem held_one {mn : Int} (wo : M[w]? = some (WO sz old wn mn bg mo)) (wm : M[wn]? = some (.dic (thD new))) {m2 : Int} (U : Un M u sz m2 b old new) (wl : new.length < 64) {SH : D} {x4 x5 x6 : Option D} :
    ∃ y4 y5, l3__law_held_right [some SH, some (.obj w), some (.obj u.s), some (.int m2), x4, x5, x6] M = .nx [some SH, some (.obj w), some (.obj u.s), some (.int m2), y4, y5, x6] M := by
  obtain ⟨c, s1⟩ := un_so U
  obtain ⟨L, h1, h2, h3⟩ := un_held U
  have ch := un_changed U wl
  have l := fListD_of (ar := false) wm
  rw [newL_f (by simp [thD]; omega)] at l
  have e : ((thD new).map fun kv => LF.keyD kv.1) = ((ks new).map fun n : Nat => (n : Int)).map D.int := by
    unfold thD ks
    rw [List.map_map, List.map_map, List.map_map]
    rfl
  rw [e] at l
  have nl : ((ks new).map fun n : Nat => (n : Int)).length = new.length := by simp [ks]
  have so := fSortI_lst (M := M) (ar := false) (ns := (ks new).map fun n : Nat => (n : Int)) (by omega)
  rw [newL_f (by rw [List.length_map, len_sortI, nl]; omega)] at so
  have sl : ((sortI ((ks new).map fun n : Nat => (n : Int))).map D.int).length = new.length := by rw [List.length_map, len_sortI, nl]
  have hl : ((((ks L).map fun n : Nat => (n : Int)).map D.int).length : Int) = L.length := by simp [ks]
  have nd : ((ks L).map fun n : Nat => (n : Int)).Nodup := List.Pairwise.map _ (fun a b hab e => hab (by omega)) h2.nd
  have ls := fLenSetI_lst (M := M) nd (by simp [ks]; omega)
  rw [show (((ks L).map fun n : Nat => (n : Int)).length : Int) = L.length by simp [ks]] at ls
  have sub : ∀ n ∈ sortI ((ks new).map fun n : Nat => (n : Int)), n ∈ (ks L).map fun n : Nat => (n : Int) := fun n hn => by
    obtain ⟨m, hm, rfl⟩ := List.mem_map.mp (mem_sortI.mp hn)
    exact List.mem_map.mpr ⟨m, h2.al m hm, rfl⟩
  have few := h2.few
  obtain ⟨Lh, eh⟩ : ∃ Lh : Int, (L.length : Int) = Lh := ⟨_, rfl⟩
  obtain ⟨Ln, en⟩ : ∃ Ln : Int, (new.length : Int) = Ln := ⟨_, rfl⟩
  have cond : ¬ (if m2 < Ln then Ln else m2) < Lh := by
    rcases few with q | q <;> split <;> omega
  rw [eh] at hl ls
  have hn : ((((sortI ((ks new).map fun n : Nat => (n : Int))).map D.int).length : Nat) : Int) = Ln := by rw [sl]; exact en
  generalize sortI ((ks new).map fun n : Nat => (n : Int)) = S at *
  generalize (ks L).map (fun n : Nat => (n : Int)) = H at *
  have cm := compL_imgF (dg := gSlot 6) (t := t2__law_held_right) (de := c1__law_held_right) (r := [some SH, some (.obj w), some (.obj u.s), some (.int m2), some (.lst (H.map .int)), some (.lst (S.map .int)), none]) (M := M) (f := D.int) (g := D.int) (p := fun _ => false) S [] (fun n hn => by
    have k := inL_ints n H M
    rw [decide_eq_true (sub n hn)] at k
    exact ⟨_, rfl, by simp [t2__law_held_right, k], fun z => by cases z⟩) (by have : (S.map D.int).length = S.length := List.length_map ..; simp; omega)
  have ef : List.filter (fun _ => false) S = [] := by simp
  rw [ef] at cm
  exact ⟨_, _, held_step (fun r => meth0 s1 rfl rfl h1) (w_new wo) l so (fun r => meth0 s1 rfl rfl ch) (fNe_same (lay_ints S)) (by simpa using cm) (fNe_same rfl) hl hn cond ls⟩
theorem held_run {M : Mem} {us vs : Nat} {y4 y5 z4 z5 : Option D} (g : fDGet (.obj w) (.str "most") M = .ok (.lst [.int 2, .int mo]) M) (s1 : l3__law_held_right [some (.lst [.obj us, .obj vs]), some (.obj w), some (.obj us), some (.int 2), none, none, none] M = .nx [some (.lst [.obj us, .obj vs]), some (.obj w), some (.obj us), some (.int 2), y4, y5, none] M)
    (s2 : l3__law_held_right [some (.lst [.obj us, .obj vs]), some (.obj w), some (.obj vs), some (.int mo), y4, y5, none] M = .nx [some (.lst [.obj us, .obj vs]), some (.obj w), some (.obj vs), some (.int mo), z4, z5, none] M) : f__law_held_right [.lst [.obj us, .obj vs], .obj w] M = .ok (.bl true) M := by
  have z : zipK2 (.lst [.obj us, .obj vs]) (.ok (.lst [.int 2, .int mo]) M) = .ok ⟨[.tup [.obj us, .int 2], .tup [.obj vs, .int mo]], anyM⟩ M := rfl
  simp [f__law_held_right, b__law_held_right, runB_ev, g, z, s1, s2]
theorem held_right (h : State ns M w wn u v sz b bg mo old new many) : f__law_held_right [SHL u v, .obj w] M = .ok (.bl true) M := by
  have wl : new.length < 64 := by have := h.wi.len; have := h.wi.few; omega
  obtain ⟨y4, y5, s1⟩ := held_one h.wo h.wm h.uu wl (SH := SHL u v) (x4 := none) (x5 := none) (x6 := none)
  obtain ⟨z4, z5, s2⟩ := held_one h.wo h.wm h.vv wl (SH := SHL u v) (x4 := y4) (x5 := y5) (x6 := none)
  exact held_run (w_most h.wo) s1 s2
/-! ### what the disks hold -/
theorem texts_comp {x0 x2 x4 : Option D} {mn : Int} : ∀ (suf : List Pg) (M : Mem) (acc : List D) (o2 : List Pg), M[w]? = some (WO sz o2 wn mn bg mo) → (∀ p ∈ suf, Good p ∧ Fit p sz) → acc.length + suf.length ≤ 1000 →
    compL anyM (gSlot 5) dYes c1__law_disks_right [x0, some (.obj w), x2, none, x4, none] (suf.map Pg.toD) acc M = .ok (acc ++ tD sz suf) (M ++ suf.map Pg.obj)
  | [], M, acc, _, _, _, _ => by simp [tD]
  | p :: suf, M, acc, o2, wo, g, hl => by
    rw [List.length_cons] at hl
    obtain ⟨gp, f⟩ := g p List.mem_cons_self
    have e := page_text_ok (M := M) gp f
    have gs := w_size wo
    have ih := texts_comp (x0 := x0) (x2 := x2) (x4 := x4) suf (M ++ [p.obj]) (acc ++ [.str (tx (textL p sz))]) o2 (at_app wo) (fun q hq => g q (List.mem_cons_of_mem _ hq)) (by simp; omega)
    obtain ⟨Z, hZ⟩ : ∃ Z : Int, (sz : Int) = Z := ⟨_, rfl⟩
    rw [hZ] at e gs
    have el : c1__law_disks_right [x0, some (.obj w), x2, none, x4, some p.toD] M = .ok (.str (tx (textL p sz))) (M ++ [p.obj]) := by simp [c1__law_disks_right, gs, e]
    rw [List.map_cons, compL_consA]
    have st : gSlot 5 p.toD [x0, some (.obj w), x2, none, x4, none] M = .ok [x0, some (.obj w), x2, none, x4, some p.toD] M := rfl
    rw [st, cmpK1_ok, dYes_ev, cmpK2_t, el, cmpK3_ok (by omega), ih]
    simp [tD]
theorem disks_A {M1 : Mem} {d1 d2 : Nat} {B : Int} {l T : List D} (g : fDGet (.obj w) (.str "old") M = .ok (.lst l) M) (cm : compL anyM (gSlot 5) dYes c1__law_disks_right [some (.lst [.obj d1, .obj d2]), some (.obj w), some (.int B), none, none, none] l [] M = .ok T M1)
    (p1 : ∀ r, methK1 "pages" mt_pages (.ok (.obj d1) M1) dNil r = .ok (.lst T) M1) (p2 : ∀ r, methK1 "pages" mt_pages (.ok (.obj d2) M1) dNil r = .ok (.lst T) M1) (ne : fNe (.lst T) (.lst T) M1 = .ok (.bl false) M1) (r1 : ∀ r, methK1 "rows" mt_rows (.ok (.obj d1) M1) dNil r = .ok (.lst []) M1) (r2 : ∀ r, methK1 "rows" mt_rows (.ok (.obj d2) M1) dNil r = .ok (.lst []) M1)
    (ne2 : fNe (.lst []) (.lst []) M1 = .ok (.bl false) M1) (w1 : ∀ r, methK1 "writes" mt_writes (.ok (.obj d1) M1) dNil r = .ok (.int B) M1) (w2 : ∀ r, methK1 "writes" mt_writes (.ok (.obj d2) M1) dNil r = .ok (.int B) M1) : f__law_disks_right [.lst [.obj d1, .obj d2], .obj w, .int B] M = .ok (.bl true) M1 := by
  have ne3 : fNe (.int B) (.int B) M1 = .ok (.bl false) M1 := fNe_same rfl
  simp [-dItL_ev, dItL_K, f__law_disks_right, b__law_disks_right, runB_ev, g, cm, l2__law_disks_right, p1, p2, ne, r1, r2, ne2, w1, w2, ne3]
abbrev DKL (u v : Ix) : D := .lst [.obj u.di, .obj v.di]
theorem disks_right (h : State ns M w wn u v sz b b mo old new many) : ∃ M', f__law_disks_right [DKL u v, .obj w, .int b] M = .ok (.bl true) M' ∧ State ns M' w wn u v sz b b mo old new many := by
  have ol : old.length ≤ 60 := by have := h.wi.ol; have := h.wi.few; omega
  have cm := texts_comp (x0 := some (DKL u v)) (x2 := some (.int b)) (x4 := none) old M [] old h.wo h.wi.go (by simp; omega)
  have h1 := h.app (X := old.map Pg.obj)
  rw [List.nil_append] at cm
  generalize M ++ old.map Pg.obj = M1 at *
  have k1 := h1.uu.dk
  have k2 := h1.vv.dk
  exact ⟨M1, disks_A (w_old h.wo) cm (fun r => meth0 k1.d rfl rfl (pages_ok k1.d k1.t (by omega))) (fun r => meth0 k2.d rfl rfl (pages_ok k2.d k2.t (by omega))) (fNe_same (lay_texts fun p hp => (h.wi.go p hp).1)) (fun r => meth0 k1.d rfl rfl (rows_ok k1.d k1.l)) (fun r => meth0 k2.d rfl rfl (rows_ok k2.d k2.l)) (fNe_same rfl) (fun r => meth0 k1.d rfl rfl (writes_ok k1.d)) (fun r => meth0 k2.d rfl rfl (writes_ok k2.d)), h1⟩
/-! ### all told -/
theorem told_step {M2 M3 : Mem} {us vs : Nat} {N : Int} {P : D} {x3 x4 : Option D} (g : fDGet (.obj w) (.str "new") M = .ok (.obj wn) M) {bb : Bool} (k : fDIn false (.int N) (.obj wn) M = .ok (.bl bb) M) {l : List D} (g2 : fDGet (.obj w) (.str "old") M = .ok (.lst l) M) (hb : bb = true ∨ N < (l.length : Int)) (du : f__law_due [.obj w, .int N] M = .ok P M)
    (m1 : ∀ (da : DA) r, methK1 "page" mt_page (.ok (.obj us) M) da r = methK2 f_Shelf_page 2 (.obj us) (da r M)) (e1 : f_Shelf_page [.obj us, .int N] M = .ok P M2) (m2 : ∀ (da : DA) r, methK1 "page" mt_page (.ok (.obj vs) M2) da r = methK2 f_Shelf_page 2 (.obj vs) (da r M2)) (e2 : f_Shelf_page [.obj vs, .int N] M2 = .ok P M3)
    (rp : fRep false (.obj M3.length) (.int 2) (M3 ++ [.lst [P]]) = .ok (.lst [P, P]) (M3 ++ [.lst [P]])) (ne : fNe (.lst [P, P]) (.lst [P, P]) (M3 ++ [.lst [P]]) = .ok (.bl false) (M3 ++ [.lst [P]])) : l2__law_all_told [some (.lst [.obj us, .obj vs]), some (.obj w), some (.int N), x3, x4] M = .nx [some (.lst [.obj us, .obj vs]), some (.obj w), some (.int N), some P, x4] (M3 ++ [.lst [P]]) := by
  cases bb with
  | true => simp [-dItL_ev, dItL_K, l2__law_all_told, g, k, du, c1__law_all_told, m1, e1, m2, e2, rp, ne]
  | false =>
    obtain ⟨L, hL⟩ : ∃ L : Int, (l.length : Int) = L := ⟨_, rfl⟩
    have hb : N < L := by rw [← hL]; exact hb.resolve_left (by simp)
    simp [-dItL_ev, dItL_K, l2__law_all_told, g, k, g2, hL, hb, du, c1__law_all_told, m1, e1, m2, e2, rp, ne]
theorem told_loop {mn : Int} : ∀ (suf : List Nat) (M : Mem) (x2 x3 x4 : Option D), (∀ n ∈ suf, n < many) → State ns M w wn u v sz b bg mo old new many →
    ∃ M' y2 y3, forL anyM (gSlot 2) l2__law_all_told (suf.map fun n : Nat => .int (n : Int)) [some (SHL u v), some (.obj w), x2, x3, x4] M = .nx [some (SHL u v), some (.obj w), y2, y3, x4] M' ∧ State ns M' w wn u v sz b bg mo old new many
  | [], M, x2, x3, x4, _, h => ⟨M, x2, x3, by simp, h⟩
  | n :: suf, M, x2, x3, x4, hs, h => by
    have fw := h.wi.few
    have nl := h.wi.len
    have ol := h.wi.ol
    have hn := hs n List.mem_cons_self
    obtain ⟨p, hd, gp, fpp⟩ := h.wi.due hn
    have D1 := ldue h.wo h.wm hd
    obtain ⟨M2, e1, u2, F1⟩ := un_page h.uu (by omega) (by omega) (by omega) h.wi.go hd
    have K1 := h.geo.opU F1
    have v2 := K1.vv (fun j hj z => h.duv j z hj) _ _ _ _ _ h.vv
    obtain ⟨M3, e2, v3, F2⟩ := un_page v2 h.m40.2 (by omega) (by omega) h.wi.go hd
    have K2 := K1.geo.opV F2
    have u3 := K2.uu h.duv _ _ _ _ _ u2
    obtain ⟨c1, s1⟩ := un_so h.uu
    obtain ⟨c2, s2⟩ := un_so v2
    have h3 : State ns M3 w wn u v sz b bg mo old new many := ⟨K2.geo.tp, K2.wo h.dv.2.1 _ (K1.wo h.du.2.1 _ h.wo), K2.wm h.dv.2.2 _ (K1.wm h.du.2.2 _ h.wm), u3, v3, h.duv, h.du, h.dv, h.dw, h.wi, h.m40⟩
    have k := fDIn_of (neg := false) (x := .int (n : Int)) (kk := .inl (n : Int)) rfl h.wm
    rw [look_th] at k
    have hb : ((lk new n).map Pg.toD).isSome = true ∨ (n : Int) < ((old.map Pg.toD).length : Int) := by
      rcases h.wi.all n hn with q | q
      · exact .inr (by simp; omega)
      · obtain ⟨z, hz⟩ := lk_some q
        exact .inl (by rw [hz]; rfl)
    have rp : fRep false (.obj M3.length) (.int 2) (M3 ++ [.lst [p.toD]]) = .ok (.lst [p.toD, p.toD]) (M3 ++ [.lst [p.toD]]) := fRep_obj (ds := [p.toD]) (by simp) (by omega) (by omega)
    have h3b := h3.app (X := [.lst [p.toD]])
    have st := told_step (x3 := x3) (x4 := x4) (w_new h.wo) k (w_old h.wo) hb D1 (fun da r => methK1_of s1 rfl rfl) e1 (fun da r => methK1_of s2 rfl rfl) e2 rp (fNe_same (lay_row (ps := [p, p]) (by simp [gp])))
    obtain ⟨M4, y2, y3, e4, h4⟩ := told_loop (mn := mn) suf (M3 ++ [.lst [p.toD]]) (some (.int (n : Int))) (some p.toD) x4 (fun m hm => hs m (List.mem_cons_of_mem _ hm)) h3b
    refine ⟨M4, y2, y3, ?_, h4⟩
    rw [List.map_cons]
    obtain ⟨N, hN⟩ : ∃ N : Int, (n : Int) = N := ⟨_, rfl⟩
    rw [hN] at st e4 ⊢
    simp [st, e4]
theorem told_A {M1 : Mem} {SH : D} {MN : Int} {l : List D} {y2 y3 : Option D} (g : fDGet (.obj w) (.str "many") M = .ok (.int MN) M) (it : itR1K (.ok (.int MN) M) = .ok ⟨l, anyM⟩ M) (fl : forL anyM (gSlot 2) l2__law_all_told l [some SH, some (.obj w), none, none, none] M = .nx [some SH, some (.obj w), y2, y3, none] M1) : f__law_all_told [SH, .obj w] M = .ok (.bl true) M1 := by
  simp [-itR1K_ok, f__law_all_told, b__law_all_told, runB_ev, g, it, fl]
theorem irng_N (n : Nat) : irng 0 n = (List.range n).map fun n : Nat => .int (n : Int) := by
  unfold irng
  exact List.map_congr_left fun i _ => by simp
theorem all_told (h : State ns M w wn u v sz b bg mo old new many) : ∃ M', f__law_all_told [SHL u v, .obj w] M = .ok (.bl true) M' ∧ State ns M' w wn u v sz b bg mo old new many := by
  have fw := h.wi.few
  obtain ⟨M1, y2, y3, e, h1⟩ := told_loop (mn := 0) (List.range many) M none none none (fun n hn => List.mem_range.mp hn) h
  rw [← irng_N] at e
  exact ⟨M1, told_A (w_many h.wo) (itR1K_nat (by omega)) e, h1⟩
end
end K10
set_option Elab.async false
set_option linter.all false
set_option maxRecDepth 100000
set_option maxHeartbeats 4000000
/-! K10: what is changed is written; a third shelf. -/
namespace K10
open PySem PySem.Spec PyProof.Rows L2 LF
/-- these numbers may be written one by one -/
def Wr : List Pg → NP → List Nat → Prop
  | _, _, [] => True
  | old, new, n :: r => n ≤ old.length ∧ ∃ p, lk new n = some p ∧ Wr (setP old n p) (rem new n) r
section
variable {ns : List Int} {M M' : Mem} {w wn : Nat} {u v : Ix} {sz : Nat} {b bg mo : Int} {old : List Pg} {new : NP} {many : Nat}
theorem WI.wr (h : WI sz old new many) {n : Nat} {p : Pg} (hn : n ≤ old.length) (hp : lk new n = some p) : WI sz (setP old n p) (rem new n) many := by
  have hm : n ∈ ks new := List.mem_map.mpr ⟨_, lk_mem hp, rfl⟩
  have nm := h.lt n hm
  have sl := setP_len (p := p) hn
  refine ⟨?_, fun q hq => ?_, fun z hz => h.gn z ((rem_sub new n).subset hz), fun m hm2 => ?_, fun m hm2 => ?_, ?_, h.few, ?_⟩
  · rw [rem_ks]
    exact h.nd.sublist List.filter_sublist
  · unfold setP at hq
    rcases List.mem_append.mp hq with hq | hq
    · exact h.go q (List.mem_of_mem_take hq)
    · rcases List.mem_cons.mp hq with rfl | hq
      · exact h.gn _ (lk_mem hp)
      · exact h.go q (List.mem_of_mem_drop hq)
  · rw [rem_ks] at hm2
    exact h.lt m (List.mem_filter.mp hm2).1
  · rw [rem_ks, sl]
    by_cases e : m = n
    · exact .inl (by omega)
    · rcases h.all m hm2 with q | q
      · exact .inl (by omega)
      · exact .inr (List.mem_filter.mpr ⟨q, decide_eq_true e⟩)
  · have := h.ol; omega
  · have := h.two; omega
theorem wr_all : ∀ (xs : List Nat) (old : List Pg) (new : NP), WI sz old new many → xs.Pairwise (· < ·) → (∀ n, n ∈ xs ↔ n ∈ ks new) → Wr old new xs
  | [], _, _, _, _, _ => trivial
  | n :: r, old, new, h, pw, hm => by
    obtain ⟨pw1, pw2⟩ := List.pairwise_cons.mp pw
    have hn := (hm n).mp List.mem_cons_self
    obtain ⟨p, hp⟩ := lk_some hn
    have low : n ≤ old.length := by
      by_cases e : n = 0
      · omega
      · have hl := h.lt n hn
        rcases h.all (n - 1) (by omega) with q | q
        · omega
        · rcases List.mem_cons.mp ((hm (n - 1)).mpr q) with q | q
          · omega
          · have := pw1 _ q; omega
    refine ⟨low, p, hp, wr_all r _ _ (h.wr low hp) pw2 fun m => ?_⟩
    rw [rem_ks]
    constructor
    · intro q
      have := pw1 m q
      exact List.mem_filter.mpr ⟨(hm m).mp (List.mem_cons_of_mem _ q), decide_eq_true (by omega)⟩
    · intro q
      obtain ⟨q1, q2⟩ := List.mem_filter.mp q
      exact (List.mem_cons.mp ((hm m).mpr q1)).resolve_left (of_decide_eq_true q2)
theorem sortN {A : List Nat} (nd : A.Nodup) : ∃ xs : List Nat, sortI (A.map fun n : Nat => (n : Int)) = xs.map (fun n : Nat => (n : Int)) ∧ xs.Pairwise (· < ·) ∧ (∀ n, n ∈ xs ↔ n ∈ A) ∧ xs.length = A.length := by
  have pm : (sortI (A.map fun n : Nat => (n : Int))).Perm (A.map fun n : Nat => (n : Int)) := List.mergeSort_perm _ leI
  have so : (sortI (A.map fun n : Nat => (n : Int))).Pairwise fun a b => leI a b = true := List.pairwise_mergeSort (fun a b c p q => by unfold leI at *; simp only [decide_eq_true_eq] at *; omega) (fun a b => by unfold leI; simp only [Bool.or_eq_true, decide_eq_true_eq]; omega) _
  have nd2 : (sortI (A.map fun n : Nat => (n : Int))).Nodup := pm.nodup_iff.mpr (List.Pairwise.map _ (fun a b hab e => hab (by omega)) nd)
  have el : ∀ x ∈ sortI (A.map fun n : Nat => (n : Int)), ((x.toNat : Nat) : Int) = x := fun x hx => by
    obtain ⟨n, _, rfl⟩ := List.mem_map.mp (pm.mem_iff.mp hx)
    rfl
  generalize hS : sortI (A.map fun n : Nat => (n : Int)) = S at *
  have e : S = (S.map Int.toNat).map fun n : Nat => (n : Int) := by
    rw [List.map_map]
    conv => lhs; rw [← List.map_id S]
    exact List.map_congr_left fun x hx => (el x hx).symm
  refine ⟨S.map Int.toNat, e, ?_, fun n => ?_, by rw [List.length_map, pm.length_eq, List.length_map]⟩
  · rw [List.pairwise_map]
    refine (so.and nd2).imp_of_mem fun {a b} ha hb q => ?_
    have q1 := of_decide_eq_true q.1
    have q2 := q.2
    have := el a ha
    have := el b hb
    omega
  · constructor
    · intro q
      obtain ⟨x, hx, rfl⟩ := List.mem_map.mp q
      obtain ⟨m, hm, rfl⟩ := List.mem_map.mp (pm.mem_iff.mp hx)
      exact hm
    · intro q
      exact List.mem_map.mpr ⟨(n : Int), pm.mem_iff.mpr (List.mem_map.mpr ⟨n, q, rfl⟩), rfl⟩
/-! ### one number -/
theorem write_step {M1 M2 M3 M4 : Mem} {us vs : Nat} {N C : Int} {P : D} {l A B : List D} {x2 x5 x6 : Option D} (m1 : ∀ (da : DA) r, methK1 "write" mt_write__Shelf (.ok (.obj us) M) da r = methK2 f_Shelf_write 2 (.obj us) (da r M)) (e1 : f_Shelf_write [.obj us, .int N] M = .ok .non M1)
    (m2 : ∀ (da : DA) r, methK1 "write" mt_write__Shelf (.ok (.obj vs) M1) da r = methK2 f_Shelf_write 2 (.obj vs) (da r M1)) (e2 : f_Shelf_write [.obj vs, .int N] M1 = .ok .non M2) (g : fDGet (.obj w) (.str "new") M2 = .ok (.obj wn) M2) (k : fDIn false (.int N) (.obj wn) M2 = .ok (.bl true) M2)
    (k1 : ∀ (db : DE) r, dpopK1 (.ok (.obj wn) M2) db r = dpopK2 (.obj wn) (db r M2)) (k2 : dpopAt (.obj wn) (.int N) none M2 = .ok P M3) (g3 : fDGet (.obj w) (.str "old") M3 = .ok (.lst l) M3) (c1 : fCatL false (.lst (cutN l none (some N))) (.lst [P]) M3 = .ok (.lst A) M3) (c2 : fCatL false (.lst A) (.lst (cutN l (some (N + 1)) none)) M3 = .ok (.lst B) M3)
    (p : ∀ r, putAt (.obj w) (.str "old") (.lst B) r M3 = .nx r M4) : l2__law_write [some (.lst [.obj us, .obj vs]), some (.obj w), x2, some (.int C), some (.int N), x5, x6] M = .nx [some (.lst [.obj us, .obj vs]), some (.obj w), x2, some (.int (C + 1)), some (.int N), some (.obj vs), some P] M4 := by
  simp [-dItL_ev, dItL_K, l2__law_write, l1__law_write, m1, e1, m2, e2, g, k, k1, k2, g3, c1, c2, p]
theorem write_one (h : State ns M w wn u v sz b bg mo old new many) {n : Nat} {p : Pg} (hn : n ≤ old.length) (hp : lk new n = some p) {C : Int} {x2 x5 x6 : Option D} : ∃ M' y5 y6, l2__law_write [some (SHL u v), some (.obj w), x2, some (.int C), some (.int (n : Nat)), x5, x6] M = .nx [some (SHL u v), some (.obj w), x2, some (.int (C + 1)), some (.int (n : Nat)), y5, y6] M' ∧
    State ns M' w wn u v sz (b + 1) bg mo (setP old n p) (rem new n) many := by
  have fw := h.wi.few
  have nl := h.wi.len
  have ol := h.wi.ol
  obtain ⟨gp, f⟩ := h.wi.gn _ (lk_mem hp)
  obtain ⟨M1, e1, u1, F1⟩ := un_write h.uu (by omega) (by omega) (by omega) hn hp gp f
  have K1 := h.geo.opU F1
  have v1 := K1.vv (fun j hj z => h.duv j z hj) _ _ _ _ _ h.vv
  obtain ⟨M2, e2, v2, F2⟩ := un_write v1 h.m40.2 (by omega) (by omega) hn hp gp f
  have K2 := K1.geo.opV F2
  have u2 := K2.uu h.duv _ _ _ _ _ u1
  have wo2 := K2.wo h.dv.2.1 _ (K1.wo h.du.2.1 _ h.wo)
  have wm2 := K2.wm h.dv.2.2 _ (K1.wm h.du.2.2 _ h.wm)
  obtain ⟨c1, s1⟩ := un_so h.uu
  obtain ⟨c2, s2⟩ := un_so v1
  have k := fDIn_of (neg := false) (x := .int (n : Int)) (kk := .inl (n : Int)) rfl wm2
  rw [look_th, hp] at k
  have k2 := dpopAt_in (y := .int (n : Int)) (z := none) (kk := .inl (n : Int)) rfl wm2 (by rw [look_th, hp]; rfl)
  rw [drop_th] at k2
  have K3 := K2.geo.opN (o := .dic (thD (rem new n)))
  have wm3 : (M2.set wn (.dic (thD (rem new n))))[wn]? = some (.dic (thD (rem new n))) := at_set wm2
  have wo3 := K3.wo (by simp [h.dw.2.2]) _ wo2
  have u3 := K3.uu (not1 h.du.2.2) _ _ _ _ _ u2
  have v3 := K3.vv (not1 h.dv.2.2) _ _ _ _ _ v2
  generalize M2.set wn (.dic (thD (rem new n))) = M3 at *
  have ln : (old.map Pg.toD).length = old.length := List.length_map ..
  have t1 : cutN (old.map Pg.toD) none (some (n : Int)) = (old.take n).map Pg.toD := by rw [cutN_to (by omega), List.map_take]
  have t2 : cutN (old.map Pg.toD) (some ((n : Int) + 1)) none = (old.drop (n + 1)).map Pg.toD := by
    by_cases e : n < old.length
    · rw [show (n : Int) + 1 = ((n + 1 : Nat) : Int) by omega, cutN_from (by omega), List.map_drop]
    · have e : n = old.length := by omega
      subst e
      unfold cutN
      rw [show (old.length : Int) + 1 = ((old.length + 1 : Nat) : Int) by omega, HT.sIx_nat]
      simp
      rw [List.drop_eq_nil_of_le (by simp), List.drop_eq_nil_of_le (by simp)]
      simp
  have cA := fCatL_lst (M := M3) (ds := (old.take n).map Pg.toD) (es := [p.toD]) (by simp; omega)
  have cB := fCatL_lst (M := M3) (ds := (old.take n).map Pg.toD ++ [p.toD]) (es := (old.drop (n + 1)).map Pg.toD) (by simp; omega)
  have eB : (old.take n).map Pg.toD ++ [p.toD] ++ (old.drop (n + 1)).map Pg.toD = (setP old n p).map Pg.toD := by simp [setP]
  rw [eB] at cB
  rw [← t1] at cA
  rw [← t2] at cB
  have po := fun r => put_old (o2 := setP old n p) wo3 r
  have K4 := K3.geo.opW (o := WO sz (setP old n p) wn many bg mo)
  exact ⟨_, _, _, write_step (fun da r => methK1_of s1 rfl rfl) e1 (fun da r => methK1_of s2 rfl rfl) e2 (w_new wo2) k (fun db r => dpopK1_of wm2) k2 (w_old wo3) cA (by rw [t1]; exact cB) po,
    ⟨K4.geo.tp, at_set wo3, K4.wm (by simp [Ne.symm h.dw.2.2]) _ wm3, K4.uu (not1 h.du.2.1) _ _ _ _ _ u3, K4.vv (not1 h.dv.2.1) _ _ _ _ _ v3, h.duv, h.du, h.dv, h.dw, h.wi.wr hn hp, h.m40⟩⟩
theorem write_loop : ∀ (xs : List Nat) (old : List Pg) (new : NP) (b : Int) (M : Mem) (C : Int) (x2 x4 x5 x6 : Option D), State ns M w wn u v sz b bg mo old new many → Wr old new xs →
    ∃ M' old' new' y4 y5 y6, forL anyM (gSlot 4) l2__law_write (xs.map fun n : Nat => .int (n : Int)) [some (SHL u v), some (.obj w), x2, some (.int C), x4, x5, x6] M = .nx [some (SHL u v), some (.obj w), x2, some (.int (C + xs.length)), y4, y5, y6] M' ∧ State ns M' w wn u v sz (b + xs.length) bg mo old' new' many
  | [], old, new, b, M, C, x2, x4, x5, x6, h, _ => ⟨M, old, new, x4, x5, x6, by simp, by simpa using h⟩
  | n :: r, old, new, b, M, C, x2, x4, x5, x6, h, hw => by
    obtain ⟨hn, p, hp, hr⟩ := hw
    obtain ⟨M1, y5, y6, e1, h1⟩ := write_one h hn hp (C := C) (x2 := x2) (x5 := x5) (x6 := x6)
    obtain ⟨M2, old', new', z4, z5, z6, e2, h2⟩ := write_loop r _ _ (b + 1) M1 (C + 1) x2 (some (.int (n : Int))) y5 y6 h1 hr
    have ec : ∀ z : Int, z + 1 + (r.length : Int) = z + ((n :: r).length : Int) := fun z => by rw [List.length_cons]; omega
    rw [ec] at e2 h2
    refine ⟨M2, old', new', z4, z5, z6, ?_, h2⟩
    obtain ⟨E, hE⟩ : ∃ E : Int, C + ((n :: r).length : Int) = E := ⟨_, rfl⟩
    rw [List.map_cons]
    obtain ⟨N, hN⟩ : ∃ N : Int, (n : Int) = N := ⟨_, rfl⟩
    rw [hN] at e1 e2 ⊢
    rw [hE] at e2 ⊢
    simp [e1, e2]
theorem lwrite (h : State ns M w wn u v sz b bg mo old new many) {xs : List Nat} (hw : Wr old new xs) : ∃ M' old' new', f__law_write [SHL u v, .obj w, .lst (xs.map fun n : Nat => .int (n : Int))] M = .ok (.int (xs.length : Nat)) M' ∧ State ns M' w wn u v sz (b + xs.length) bg mo old' new' many := by
  obtain ⟨M', old', new', y4, y5, y6, e, h'⟩ := write_loop xs old new b M 0 (some (.lst (xs.map fun n : Nat => .int (n : Int)))) none none none h hw
  refine ⟨M', old', new', ?_, h'⟩
  rw [Int.zero_add] at e
  obtain ⟨E, hE⟩ : ∃ E : Int, (xs.length : Int) = E := ⟨_, rfl⟩
  rw [hE] at e ⊢
  generalize xs.map (fun n : Nat => D.int (n : Int)) = l at *
  simp [-dItL_ev, dItL_K, f__law_write, b__law_write, runB_ev, e]
end
end K10
set_option Elab.async false
set_option linter.all false
set_option maxRecDepth 100000
set_option maxHeartbeats 4000000
/-! K10: written; a third shelf tells it. -/
namespace K10
open PySem PySem.Spec PyProof.Rows L2 LF
section
variable {ns : List Int} {M M' : Mem} {w wn : Nat} {u v t : Ix} {sz : Nat} {b bg mo mt : Int} {old : List Pg} {new : NP} {many : Nat}
theorem un_page2 (h : Un M u sz mo b old new) (hm : mo ≤ 40) (hn : new.length ≤ 200) (ho : old.length ≤ 200) (g : ∀ p ∈ old, Good p ∧ Fit p sz) {n : Nat} {p : Pg} (hd : due old new n = some p) :
    ∃ M', f_Shelf_page [.obj u.s, .int (n : Nat)] M = .ok p.toD M' ∧ Un M' u sz mo b old new ∧ Fr [u.s, u.th] M M' := by
  obtain ⟨⟨L, a1, a2, a3⟩, dk, e1, e2, e3⟩ := h
  obtain ⟨M', L', q1, q2, q3, q4⟩ := page_ok2 a1 dk a2 (by omega) (by omega) g hd
  exact ⟨M', q1, ⟨⟨L', q2, q3, q3.len hm hn⟩, dk.fr q4 (by simp [Ne.symm e3.1, Ne.symm e2.1]) (by simp [Ne.symm e3.2.1, Ne.symm e2.2.1]) (by simp [Ne.symm e3.2.2, Ne.symm e2.2.2]), e1, e2, e3⟩, q4⟩
theorem State.frS {S : List Nat} (h : State ns M w wn u v sz b bg mo old new many) (f : Fr S M M') (h0 : 0 ∉ S) (hw : w ∉ S) (hn : wn ∉ S) (hu : ∀ j ∈ fp u, j ∉ S) (hv : ∀ j ∈ fp v, j ∉ S) : State ns M' w wn u v sz b bg mo old new many :=
  ⟨Tp.fr h.tp f h0, f.at h.wo hw, f.at h.wm hn, h.uu.fr f hu, h.vv.fr f hv, h.duv, h.du, h.dv, h.dw, h.wi, h.m40⟩
theorem State.lts (h : State ns M w wn u v sz b bg mo old new many) : 0 < M.length ∧ w < M.length ∧ wn < M.length ∧ (∀ j ∈ fp u, j < M.length) ∧ ∀ j ∈ fp v, j < M.length := by
  obtain ⟨k, s, _, q⟩ := h.tp
  exact ⟨(List.getElem?_eq_some_iff.mp q).1, (List.getElem?_eq_some_iff.mp h.wo).1, (List.getElem?_eq_some_iff.mp h.wm).1, fp_lt h.uu, fp_lt h.vv⟩
theorem read_step {M1 : Mem} {ts : Nat} {N : Int} {P : D} {x0 x1 x2 x3 x4 : Option D} (m1 : ∀ (da : DA) r, methK1 "page" mt_page (.ok (.obj ts) M) da r = methK2 f_Shelf_page 2 (.obj ts) (da r M)) (e1 : f_Shelf_page [.obj ts, .int N] M = .ok P M1) : c3__law_written [x0, x1, x2, x3, x4, some (.obj ts), some (.int N)] M = .ok P M1 := by
  simp [c3__law_written, m1, e1]
theorem reads {x0 x1 x2 x3 x4 : Option D} {k : Nat} (kt : ∀ j ∈ [t.s, t.th], k ≤ j) (hk : 0 < k ∧ w < k ∧ wn < k ∧ (∀ j ∈ fp u, j < k) ∧ ∀ j ∈ fp v, j < k) (h40 : mt ≤ 40) : ∀ (suf : List Nat) (M : Mem) (acc : List D), (∀ n ∈ suf, n < old.length) → acc.length + suf.length ≤ 1000 → State ns M w wn u v sz b bg mo old new many → Un M t sz mt b old [] →
    ∃ M', compL anyM (gSlot 6) dYes c3__law_written [x0, x1, x2, x3, x4, some (.obj t.s), none] (suf.map fun n : Nat => .int (n : Int)) acc M = .ok (acc ++ suf.map fun n => ((old[n]?).map Pg.toD).getD .non) M' ∧ State ns M' w wn u v sz b bg mo old new many
  | [], M, acc, _, _, h, _ => ⟨M, by simp, h⟩
  | n :: suf, M, acc, hs, hl, h, ht => by
    rw [List.length_cons] at hl
    have ol := h.wi.ol
    have fw := h.wi.few
    have hn := hs n List.mem_cons_self
    have hd : due old [] n = some old[n] := by
      show (lk [] n).or old[n]? = _
      rw [List.getElem?_eq_getElem hn]
      rfl
    obtain ⟨M1, e1, t1, F1⟩ := un_page2 ht h40 (by simp) (by omega) h.wi.go hd
    have far : ∀ j, j < k → j ∉ [t.s, t.th] := fun j hj hm => by have := kt j hm; omega
    have h1 := h.frS F1 (far _ hk.1) (far _ hk.2.1) (far _ hk.2.2.1) (fun j hj => far _ (hk.2.2.2.1 j hj)) (fun j hj => far _ (hk.2.2.2.2 j hj))
    obtain ⟨c, s1⟩ := un_so ht
    have st := read_step (x0 := x0) (x1 := x1) (x2 := x2) (x3 := x3) (x4 := x4) (fun da r => methK1_of s1 rfl rfl) e1
    obtain ⟨M2, e2, h2⟩ := reads (x0 := x0) (x1 := x1) (x2 := x2) (x3 := x3) (x4 := x4) kt hk h40 suf M1 (acc ++ [old[n].toD]) (fun m hm => hs m (List.mem_cons_of_mem _ hm)) (by simp; omega) h1 t1
    refine ⟨M2, ?_, h2⟩
    have sl : gSlot 6 (.int (n : Int)) [x0, x1, x2, x3, x4, some (.obj t.s), none] M = .ok [x0, x1, x2, x3, x4, some (.obj t.s), some (.int (n : Int))] M := rfl
    rw [List.map_cons, compL_consA, sl, cmpK1_ok, dYes_ev, cmpK2_t, st, cmpK3_ok (by omega), e2, List.append_assoc, List.map_cons, List.getElem?_eq_getElem hn]
    rfl
theorem written_A {M1 M2 M3 M4 M5 M6 M7 : Mem} {us vs d1 d2 d ts : Nat} {z B C k j : Int} {K : List D} {S F R l : List D} (g : fDGet (.obj w) (.str "new") M = .ok (.obj wn) M) (fl : fListD false [.obj wn] M = .ok (.lst K) M) (so : fSortI false [.lst K] M = .ok (.lst S) M) (dr : f__law_draw [.obj 0, .int 2] M = .ok (.int z) M1)
    (hz : (z = 0 ∧ ∃ G, compL anyM (gSlot 6) t2__law_written c1__law_written [some (.obj 0), some (.lst [.obj d1, .obj d2]), some (.lst [.obj us, .obj vs]), some (.obj w), some (.lst S), none, none] S [] M1 = .ok G M1 ∧ cutN G none (some 1) = F) ∨ (z ≠ 0 ∧ F = S)) (g5 : fDGet (.obj w) (.str "begun") M1 = .ok (.int B) M1) (wr : f__law_write [.lst [.obj us, .obj vs], .obj w, .lst F] M1 = .ok (.int C) M2)
    (p : ∀ r, putAt (.obj w) (.str "begun") (.int (B + C)) r M2 = .nx r M3) (d2r : f__law_draw [.obj 0, .int 2] M3 = .ok (.int k) M4) (ix : fIx (.lst [.obj d1, .obj d2]) (.int k) M4 = .ok (.obj d) M4) (d3r : f__law_draw [.obj 0, .int 39] M4 = .ok (.int j) M5) (hts : M5.length = ts) (mk : f_Shelf___init__ [.obj ts, .obj d, .int (2 + j)] (M5 ++ [.ins "Shelf" []]) = .ok .non M6)
    (g7 : fDGet (.obj w) (.str "old") M6 = .ok (.lst l) M6) {L : Int} (hL : (l.length : Int) = L) (it : itR1K (.ok (.int L) M6) = .ok ⟨R, anyM⟩ M6) (cm : compL anyM (gSlot 6) dYes c3__law_written [some (.obj 0), some (.lst [.obj d1, .obj d2]), some (.lst [.obj us, .obj vs]), some (.obj w), some (.lst F), some (.obj ts), none] R [] M6 = .ok l M7) (g8 : fDGet (.obj w) (.str "old") M7 = .ok (.lst l) M7) (eq : fEq (.lst l) (.lst l) M7 = .ok (.bl true) M7) :
    f__law_written [.obj 0, .lst [.obj d1, .obj d2], .lst [.obj us, .obj vs], .obj w] M = .ok (.bl true) M7 := by
  rcases hz with ⟨rfl, G, hG, hc⟩ | ⟨hz, rfl⟩
  · simp [-itR1K_ok, -dItL_ev, dItL_K, f__law_written, b__law_written, runB_ev, g, fl, so, dr, hG, hc, g5, wr, p, d2r, ix, d3r, hts, mk, g7, hL, it, cm, g8, eq]
  · simp [-itR1K_ok, -dItL_ev, dItL_K, f__law_written, b__law_written, runB_ev, g, fl, so, dr, hz, g5, wr, p, d2r, ix, d3r, hts, mk, g7, hL, it, cm, g8, eq]
theorem old_row (l : List Pg) : (List.range l.length).map (fun n => ((l[n]?).map Pg.toD).getD .non) = l.map Pg.toD := by
  apply List.ext_getElem
  · simp
  · intro i h1 h2
    simp at h1 h2
    simp [h1]
theorem written_ok (h : State ns M w wn u v sz b b mo old new many) (hu : u.s ≠ v.s) : ∃ M' b' old' new', f__law_written [.obj 0, DKL u v, SHL u v, .obj w] M = .ok (.bl true) M' ∧ State ns M' w wn u v sz b' b' mo old' new' many := by
  have fw := h.wi.few
  have nl := h.wi.len
  have ol := h.wi.ol
  have l := fListD_of (ar := false) h.wm
  rw [newL_f (by simp [thD]; omega)] at l
  have e : ((thD new).map fun kv => LF.keyD kv.1) = ((ks new).map fun n : Nat => (n : Int)).map D.int := by
    unfold thD ks
    rw [List.map_map, List.map_map, List.map_map]
    rfl
  rw [e] at l
  have so := fSortI_lst (M := M) (ar := false) (ns := (ks new).map fun n : Nat => (n : Int)) (by simp [ks]; omega)
  rw [newL_f (by rw [List.length_map, len_sortI]; simp [ks]; omega)] at so
  obtain ⟨xs, ex, pw, mem, xl⟩ := sortN h.wi.nd
  have kl : (ks new).length = new.length := by simp [ks]
  rw [ex] at so
  have em : (xs.map fun n : Nat => (n : Int)).map D.int = xs.map fun n : Nat => D.int (n : Int) := by
    rw [List.map_map]
    rfl
  rw [em] at so
  obtain ⟨z, M1, d1, z0, z1, E1⟩ := draw h.tp (m := 2) (by omega)
  have h1 := h.ext E1
  -- what is written
  have hF : ∃ ys : List Nat, Wr old new ys ∧ ((z = 0 ∧ ∃ G, compL anyM (gSlot 6) t2__law_written c1__law_written [some (.obj 0), some (DKL u v), some (SHL u v), some (.obj w), some (.lst (xs.map fun n : Nat => D.int (n : Int))), none, none] (xs.map fun n : Nat => D.int (n : Int)) [] M1 = .ok G M1 ∧ cutN G none (some 1) = ys.map fun n : Nat => D.int (n : Int)) ∨ (z ≠ 0 ∧ (ys.map fun n : Nat => D.int (n : Int)) = xs.map fun n : Nat => D.int (n : Int))) := by
    by_cases hz : z = 0
    · have cm := compL_imgF (dg := gSlot 6) (t := t2__law_written) (de := c1__law_written) (r := [some (.obj 0), some (DKL u v), some (SHL u v), some (.obj w), some (.lst (xs.map fun n : Nat => D.int (n : Int))), none, none]) (M := M1) (f := fun n : Nat => D.int (n : Int)) (g := fun n : Nat => D.int (n : Int)) (p := fun n => decide (n ≤ old.length)) xs [] (fun n _ => by
        refine ⟨_, rfl, ?_, fun _ => rfl⟩
        have g := w_old h1.wo
        have lo : ((old.map Pg.toD).length : Int) = old.length := by simp
        generalize old.map Pg.toD = lD at g lo
        obtain ⟨Lo, hLo⟩ : ∃ Lo : Int, (lD.length : Int) = Lo := ⟨_, rfl⟩
        obtain ⟨N, hN⟩ : ∃ N : Int, (n : Int) = N := ⟨_, rfl⟩
        have dd : decide (n ≤ old.length) = decide (N ≤ Lo) := by
          have : (n ≤ old.length) = (N ≤ Lo) := propext ⟨fun q => by omega, fun q => by omega⟩
          simp [this]
        show t2__law_written _ M1 = .ok (decide (n ≤ old.length)) M1
        rw [dd, hN]
        simp [t2__law_written, g, hLo]) (by simp; omega)
      rw [List.nil_append] at cm
      cases hx : xs.filter fun n => decide (n ≤ old.length) with
      | nil => exact ⟨[], trivial, .inl ⟨hz, _, cm, by rw [hx]; rfl⟩⟩
      | cons n r =>
        have hn : n ∈ xs.filter fun n => decide (n ≤ old.length) := by rw [hx]; exact List.mem_cons_self
        obtain ⟨n1, n2⟩ := List.mem_filter.mp hn
        obtain ⟨p, hp⟩ := lk_some ((mem n).mp n1)
        refine ⟨[n], ⟨of_decide_eq_true n2, p, hp, trivial⟩, .inl ⟨hz, _, cm, ?_⟩⟩
        rw [hx, List.map_cons]
        exact cutN_to (k := 1) (by simp)
    · exact ⟨xs, wr_all xs old new h.wi pw mem, .inr ⟨hz, rfl⟩⟩
  obtain ⟨ys, hw, hz⟩ := hF
  obtain ⟨M2, old', new', wr, h2⟩ := lwrite h1 hw
  have p := fun r => put_begun (b2 := b + ys.length) h2.wo r
  have K3 := h2.geo.opW (o := WO sz old' wn many (b + ys.length) mo)
  have h3 : State ns (M2.set w (WO sz old' wn many (b + ys.length) mo)) w wn u v sz (b + ys.length) (b + ys.length) mo old' new' many := ⟨K3.geo.tp, at_set h2.wo, K3.wm (by simp [Ne.symm h.dw.2.2]) _ h2.wm, K3.uu (not1 h.du.2.1) _ _ _ _ _ h2.uu, K3.vv (not1 h.dv.2.1) _ _ _ _ _ h2.vv, h2.duv, h2.du, h2.dv, h2.dw, h2.wi, h2.m40⟩
  generalize M2.set w (WO sz old' wn many (b + ys.length) mo) = M3 at *
  obtain ⟨k, M4, d2, k0, k1, E4⟩ := draw h3.tp (m := 2) (by omega)
  have h4 := h3.ext E4
  obtain ⟨j, M5, d3, j0, j1, E5⟩ := draw h4.tp (m := 39) (by omega)
  have h5 := h4.ext E5
  obtain ⟨l0, lw, lwn, lu, lv⟩ := h5.lts
  -- the disk of the third shelf
  have hd : ∃ x : Ix, (x = u ∨ x = v) ∧ ∀ M, fIx (DKL u v) (.int k) M = .ok (.obj x.di) M := by
    rcases (by omega : k = 0 ∨ k = 1) with rfl | rfl
    · exact ⟨u, .inl rfl, fun M => fIx_lst (L2.atI_nat (j := 0) rfl)⟩
    · exact ⟨v, .inr rfl, fun M => fIx_lst (L2.atI_nat (j := 1) rfl)⟩
  obtain ⟨x, hx, ix⟩ := hd
  have dk : DkM M5 x.di x.ti x.li sz (b + ys.length) old' := by
    rcases hx with rfl | rfl
    · exact h5.uu.dk
    · exact h5.vv.dk
  have xl5 : ∀ j ∈ fp x, j < M5.length := by
    rcases hx with rfl | rfl
    · exact lu
    · exact lv
  have mk := init_shelf (M := M5) (di := x.di) (mo := 2 + j) (by omega) (by omega)
  have h6 := h5.app (X := [SO x.di (M5.length + 1) (M5.length + 2) (2 + j) 0, .dic [], .dic []])
  have x1 := xl5 x.di (by simp [fp])
  have x2 := xl5 x.ti (by simp [fp])
  have x3 := xl5 x.li (by simp [fp])
  have t6 : Un (M5 ++ [SO x.di (M5.length + 1) (M5.length + 2) (2 + j) 0, .dic [], .dic []]) ⟨M5.length, x.di, x.ti, x.li, M5.length + 1, M5.length + 2⟩ sz (2 + j) (b + ys.length) old' [] := by
    refine ⟨⟨[], ⟨⟨0, by simp⟩, by simp [thD], by simp [alD, ks], by show M5.length ≠ M5.length + 1; omega, by show M5.length ≠ M5.length + 2; omega, by show M5.length + 2 ≠ M5.length + 1; omega⟩, ⟨List.nodup_nil, fun z hz => by simp at hz, fun n hn => by simp [ks] at hn, .inr (Nat.le_refl _)⟩, by simp⟩, dk.fr (S := []) Fr.app (by simp) (by simp) (by simp), ?_, ?_, ?_⟩
    · exact ⟨by show M5.length + 2 ≠ x.di; omega, by show M5.length + 2 ≠ x.ti; omega, by show M5.length + 2 ≠ x.li; omega⟩
    · exact ⟨by show M5.length + 1 ≠ x.di; omega, by show M5.length + 1 ≠ x.ti; omega, by show M5.length + 1 ≠ x.li; omega⟩
    · exact ⟨by show M5.length ≠ x.di; omega, by show M5.length ≠ x.ti; omega, by show M5.length ≠ x.li; omega⟩
  have ol' := h6.wi.ol
  have fw' := h6.wi.few
  obtain ⟨M7, cm, h7⟩ := reads (x0 := some (.obj 0)) (x1 := some (DKL u v)) (x2 := some (SHL u v)) (x3 := some (.obj w)) (x4 := some (.lst (ys.map fun n : Nat => D.int (n : Int)))) (k := M5.length) (t := ⟨M5.length, x.di, x.ti, x.li, M5.length + 1, M5.length + 2⟩) (mt := 2 + j) (by simp) ⟨l0, lw, lwn, lu, lv⟩ (by omega) (List.range old'.length) _ [] (fun n hn => List.mem_range.mp hn) (by simp; omega) h6 t6
  rw [List.nil_append, old_row, ← irng_N] at cm
  refine ⟨M7, b + ys.length, old', new', written_A (w_new h.wo) l so d1 hz (w_begun h1.wo) wr p d2 (ix M4) d3 rfl mk (w_old h6.wo) (L := (old'.length : Int)) (by simp) (itR1K_nat (by omega)) cm (w_old h7.wo) (fEq_same (lay_row fun q hq => (h7.wi.go q hq).1)), h7⟩
end
end K10
set_option Elab.async false
set_option linter.all false
set_option maxRecDepth 100000
set_option maxHeartbeats 4000000
/-! K10: the law. -/
namespace K10
open PySem PySem.Spec PyProof.Rows L2 LF
section
variable {ns : List Int} {M M' : Mem} {w : Nat} {sz : Nat} {b bg mo : Int} {old : List Pg} {new : NP} {many : Nat}
/-! ### a turn -/
section
variable {M1 M2 M3 M4 : Mem} {W B Z : Int} {SC SH DK S O : D} {x5 x6 x7 x10 x11 x12 : Option D}
theorem turn_A (d : f__law_draw [.obj 0, .int 10] M = .ok (.int W) M1) (hW : W < 8) (a : f__law_asked_or_put [.obj 0, SH, .obj w, .int W] M1 = .ok (.bl true) M2) (hr : f__law_held_right [SH, .obj w] M2 = .ok (.bl true) M2) (g : fDGet (.obj w) (.str "begun") M2 = .ok (.int B) M2) (dr : f__law_disks_right [DK, .obj w, .int B] M2 = .ok (.bl true) M3) :
    l5_law [some SC, some (.obj 0), some S, some DK, some O, x5, x6, x7, some (.obj w), some SH, x10, x11, x12] M = .nx [some SC, some (.obj 0), some S, some DK, some O, x5, x6, x7, some (.obj w), some SH, x10, some (.int W), x12] M3 := by
  have h8 : ¬ W = 8 := by omega
  have h9 : ¬ W = 9 := by omega
  simp [l5_law, d, hW, a, h8, h9, hr, g, dr]
theorem turn_B (d : f__law_draw [.obj 0, .int 10] M = .ok (.int 8) M1) (a : f__law_written [.obj 0, DK, SH, .obj w] M1 = .ok (.bl true) M2) (hr : f__law_held_right [SH, .obj w] M2 = .ok (.bl true) M2) (g : fDGet (.obj w) (.str "begun") M2 = .ok (.int B) M2) (dr : f__law_disks_right [DK, .obj w, .int B] M2 = .ok (.bl true) M3) :
    l5_law [some SC, some (.obj 0), some S, some DK, some O, x5, x6, x7, some (.obj w), some SH, x10, x11, x12] M = .nx [some SC, some (.obj 0), some S, some DK, some O, x5, x6, x7, some (.obj w), some SH, x10, some (.int 8), x12] M3 := by
  simp [l5_law, d, a, hr, g, dr]
theorem turn_C (d : f__law_draw [.obj 0, .int 10] M = .ok (.int 9) M1) (d2 : f__law_draw [.obj 0, .int 4] M1 = .ok (.int 0) M2) (a : f__law_forgotten [SH, .obj w] M2 = .ok (.bl true) M3) (hr : f__law_held_right [SH, .obj w] M3 = .ok (.bl true) M3) (g : fDGet (.obj w) (.str "begun") M3 = .ok (.int B) M3) (dr : f__law_disks_right [DK, .obj w, .int B] M3 = .ok (.bl true) M4) :
    l5_law [some SC, some (.obj 0), some S, some DK, some O, x5, x6, x7, some (.obj w), some SH, x10, x11, x12] M = .nx [some SC, some (.obj 0), some S, some DK, some O, x5, x6, x7, some (.obj w), some SH, x10, some (.int 9), x12] M4 := by
  simp [l5_law, d, d2, a, hr, g, dr]
theorem turn_D (d : f__law_draw [.obj 0, .int 10] M = .ok (.int 9) M1) (d2 : f__law_draw [.obj 0, .int 4] M1 = .ok (.int Z) M2) (hZ : ¬ Z = 0) (hr : f__law_held_right [SH, .obj w] M2 = .ok (.bl true) M2) (g : fDGet (.obj w) (.str "begun") M2 = .ok (.int B) M2) (dr : f__law_disks_right [DK, .obj w, .int B] M2 = .ok (.bl true) M3) :
    l5_law [some SC, some (.obj 0), some S, some DK, some O, x5, x6, x7, some (.obj w), some SH, x10, x11, x12] M = .nx [some SC, some (.obj 0), some S, some DK, some O, x5, x6, x7, some (.obj w), some SH, x10, some (.int 9), x12] M3 := by
  simp [l5_law, d, d2, hZ, hr, g, dr]
end
/-- the law's state behind some turns -/
def LS (ns : List Int) (M : Mem) (w us vs d1 d2 sz : Nat) (mo : Int) (k : Nat) : Prop := ∃ wn u v b old new many, u.s = us ∧ v.s = vs ∧ u.di = d1 ∧ v.di = d2 ∧ State ns M w wn u v sz b b mo old new many ∧ many ≤ k
theorem State.ne (h : State ns M w wn u v sz b bg mo old new many) : u.s ≠ v.s := fun e => h.duv u.s (by simp [fp]) (by simp [fp, e])
theorem LS.right {us vs d1 d2 k : Nat} (h : LS ns M w us vs d1 d2 sz mo k) : ∃ B M', f__law_held_right [.lst [.obj us, .obj vs], .obj w] M = .ok (.bl true) M ∧ fDGet (.obj w) (.str "begun") M = .ok (.int B) M ∧ f__law_disks_right [.lst [.obj d1, .obj d2], .obj w, .int B] M = .ok (.bl true) M' ∧ LS ns M' w us vs d1 d2 sz mo k := by
  obtain ⟨wn, u, v, b, old, new, many, rfl, rfl, rfl, rfl, h, hk⟩ := h
  obtain ⟨M', e, h'⟩ := disks_right h
  exact ⟨b, M', held_right h, w_begun h.wo, e, wn, u, v, b, old, new, many, rfl, rfl, rfl, rfl, h', hk⟩
theorem LS.ext {us vs d1 d2 k : Nat} (h : LS ns M w us vs d1 d2 sz mo k) (e : Ext ns M M') : LS ns M' w us vs d1 d2 sz mo k := by
  obtain ⟨wn, u, v, b, old, new, many, h1, h2, h3, h4, h, hk⟩ := h
  exact ⟨wn, u, v, b, old, new, many, h1, h2, h3, h4, h.ext e, hk⟩
theorem LS.tp {us vs d1 d2 k : Nat} (h : LS ns M w us vs d1 d2 sz mo k) : Tp ns M := by
  obtain ⟨wn, u, v, b, old, new, many, h1, h2, h3, h4, h, hk⟩ := h
  exact h.tp
theorem turn_ok {us vs d1 d2 k : Nat} (z0 : 64 ≤ sz) (z1 : sz ≤ 200) (h : LS ns M w us vs d1 d2 sz mo k) (hk : k < 60) {SC S O : D} {x5 x6 x7 x10 x11 x12 : Option D} :
    ∃ y11 M', l5_law [some SC, some (.obj 0), some S, some (.lst [.obj d1, .obj d2]), some O, x5, x6, x7, some (.obj w), some (.lst [.obj us, .obj vs]), x10, x11, x12] M = .nx [some SC, some (.obj 0), some S, some (.lst [.obj d1, .obj d2]), some O, x5, x6, x7, some (.obj w), some (.lst [.obj us, .obj vs]), x10, y11, x12] M' ∧ LS ns M' w us vs d1 d2 sz mo (k + 1) := by
  obtain ⟨W, M1, d, w0, w1, E1⟩ := draw h.tp (m := 10) (by omega)
  have h1 := h.ext E1
  have up : ∀ {M'}, LS ns M' w us vs d1 d2 sz mo k → LS ns M' w us vs d1 d2 sz mo (k + 1) := fun ⟨wn, u, v, b, old, new, many, q1, q2, q3, q4, q5, q6⟩ => ⟨wn, u, v, b, old, new, many, q1, q2, q3, q4, q5, by omega⟩
  by_cases c8 : W < 8
  · have h2 : ∃ M2, f__law_asked_or_put [.obj 0, .lst [.obj us, .obj vs], .obj w, .int W] M1 = .ok (.bl true) M2 ∧ LS ns M2 w us vs d1 d2 sz mo (k + 1) := by
      obtain ⟨wn, u, v, b, old, new, many, rfl, rfl, rfl, rfl, st, hm⟩ := h1
      by_cases c3 : W < 3
      · obtain ⟨M2, e, s2⟩ := asked_ok st c3
        exact ⟨M2, e, wn, u, v, b, old, new, many, rfl, rfl, rfl, rfl, s2, by omega⟩
      · obtain ⟨M2, new', many', e, s2, hm'⟩ := put_both st (by omega) z0 z1 c3
        exact ⟨M2, e, wn, u, v, b, old, new', many', rfl, rfl, rfl, rfl, s2, by omega⟩
    obtain ⟨M2, e, l2⟩ := h2
    obtain ⟨B, M3, q1, q2, q3, l3⟩ := l2.right
    exact ⟨_, M3, turn_A d c8 e q1 q2 q3, l3⟩
  · by_cases c9 : W = 8
    · subst c9
      have h2 : ∃ M2, f__law_written [.obj 0, .lst [.obj d1, .obj d2], .lst [.obj us, .obj vs], .obj w] M1 = .ok (.bl true) M2 ∧ LS ns M2 w us vs d1 d2 sz mo (k + 1) := by
        obtain ⟨wn, u, v, b, old, new, many, rfl, rfl, rfl, rfl, st, hm⟩ := h1
        obtain ⟨M2, b', old', new', e, s2⟩ := written_ok st st.ne
        exact ⟨M2, e, wn, u, v, b', old', new', many, rfl, rfl, rfl, rfl, s2, by omega⟩
      obtain ⟨M2, e, l2⟩ := h2
      obtain ⟨B, M3, q1, q2, q3, l3⟩ := l2.right
      exact ⟨_, M3, turn_B d e q1 q2 q3, l3⟩
    · have c10 : W = 9 := by omega
      subst c10
      obtain ⟨Z, M2, dz, z2, z3, E2⟩ := draw h1.tp (m := 4) (by omega)
      have h2 := h1.ext E2
      by_cases cz : Z = 0
      · subst cz
        have h3 : ∃ M3, f__law_forgotten [.lst [.obj us, .obj vs], .obj w] M2 = .ok (.bl true) M3 ∧ LS ns M3 w us vs d1 d2 sz mo (k + 1) := by
          obtain ⟨wn, u, v, b, old, new, many, rfl, rfl, rfl, rfl, st, hm⟩ := h2
          obtain ⟨M3, wn', u', v', e, s3, a1, a2, a3, a4⟩ := forgot_ok st
          have := st.wi.ol
          exact ⟨M3, e, wn', u', v', b, old, [], old.length, a1, a2, a3, a4, s3, by omega⟩
        obtain ⟨M3, e, l3⟩ := h3
        obtain ⟨B, M4, q1, q2, q3, l4⟩ := l3.right
        exact ⟨_, M4, turn_C d dz e q1 q2 q3, l4⟩
      · obtain ⟨B, M3, q1, q2, q3, l3⟩ := h2.right
        exact ⟨_, M3, turn_D d dz cz q1 q2 q3, up l3⟩
theorem turns {us vs d1 d2 : Nat} (z0 : 64 ≤ sz) (z1 : sz ≤ 200) {SC S O : D} {x5 x6 x7 x12 : Option D} : ∀ (ds : List D) (k : Nat) (M : Mem) (x10 x11 : Option D), LS ns M w us vs d1 d2 sz mo k → k + ds.length ≤ 60 →
    ∃ y10 y11 M', forL anyM (gSlot 10) l5_law ds [some SC, some (.obj 0), some S, some (.lst [.obj d1, .obj d2]), some O, x5, x6, x7, some (.obj w), some (.lst [.obj us, .obj vs]), x10, x11, x12] M = .nx [some SC, some (.obj 0), some S, some (.lst [.obj d1, .obj d2]), some O, x5, x6, x7, some (.obj w), some (.lst [.obj us, .obj vs]), y10, y11, x12] M' ∧ ∃ k, LS ns M' w us vs d1 d2 sz mo k
  | [], k, M, x10, x11, h, _ => ⟨x10, x11, M, by simp, k, h⟩
  | d :: ds, k, M, x10, x11, h, hl => by
    rw [List.length_cons] at hl
    obtain ⟨y11, M1, e1, h1⟩ := turn_ok z0 z1 h (by omega) (SC := SC) (S := S) (O := O) (x5 := x5) (x6 := x6) (x7 := x7) (x10 := some d) (x11 := x11) (x12 := x12)
    obtain ⟨z10, z11, M2, e2, h2⟩ := turns z0 z1 (SC := SC) (S := S) (O := O) (x5 := x5) (x6 := x6) (x7 := x7) (x12 := x12) ds (k + 1) M1 (some d) y11 h1 (by omega)
    exact ⟨z10, z11, M2, by simp [e1, e2], h2⟩
/-! ### the first pages -/
theorem pages_comp (z0 : 64 ≤ sz) (z1 : sz ≤ 200) {x0 x3 x4 x5 x6 x7 x8 x9 x10 x11 : Option D} : ∀ (ds : List D) (M : Mem) (acc : List D), Tp ns M → acc.length + ds.length ≤ 1000 →
    ∃ ps : List Pg, ∃ M', compL anyM (gSlot 12) dYes c1_law [x0, some (.obj 0), some (.int (sz : Nat)), x3, x4, x5, x6, x7, x8, x9, x10, x11, none] ds acc M = .ok (acc ++ ps.map Pg.toD) M' ∧ ps.length = ds.length ∧ (∀ p ∈ ps, Good p ∧ Fit p sz) ∧ Ext ns M M'
  | [], M, acc, h, _ => ⟨[], M, by simp, rfl, by simp, Ext.refl h⟩
  | d :: ds, M, acc, h, hl => by
    rw [List.length_cons] at hl
    obtain ⟨p, M1, e, gp, f, E1⟩ := page_ok h z0 z1
    obtain ⟨ps, M2, e2, pl, g, E2⟩ := pages_comp z0 z1 (x0 := x0) (x3 := x3) (x4 := x4) (x5 := x5) (x6 := x6) (x7 := x7) (x8 := x8) (x9 := x9) (x10 := x10) (x11 := x11) ds M1 (acc ++ [p.toD]) E1.tp (by simp; omega)
    refine ⟨p :: ps, M2, ?_, by simp [pl], fun q hq => ?_, E1.trans E2⟩
    · obtain ⟨Z, hZ⟩ : ∃ Z : Int, (sz : Int) = Z := ⟨_, rfl⟩
      rw [hZ] at e e2 ⊢
      have el : c1_law [x0, some (.obj 0), some (.int Z), x3, x4, x5, x6, x7, x8, x9, x10, x11, some d] M = .ok p.toD M1 := by simp [c1_law, e]
      have sl : gSlot 12 d [x0, some (.obj 0), some (.int Z), x3, x4, x5, x6, x7, x8, x9, x10, x11, none] M = .ok [x0, some (.obj 0), some (.int Z), x3, x4, x5, x6, x7, x8, x9, x10, x11, some d] M := rfl
      rw [compL_consA, sl, cmpK1_ok, dYes_ev, cmpK2_t, el, cmpK3_ok (by omega), e2, List.append_assoc]
      rfl
    · rcases List.mem_cons.mp hq with rfl | hq
      · exact ⟨gp, f⟩
      · exact g q hq
theorem setP_end (T : List Pg) (p : Pg) : setP T T.length p = T ++ [p] := by simp [setP]
theorem first_step {Ma Mb Mc Md : Mem} {d1 d2 : Nat} {N S : Int} {P t : D} {x0 x1 x4 x7 x8 x9 x10 x11 x12 : Option D} (w1 : ∀ (da : DA) r, methK1 "write" mt_write__Disk (.ok (.obj d1) M) da r = methK2 f_Disk_write 3 (.obj d1) (da r M)) (p1 : f_page_text [P, .int S] M = .ok t Ma) (e1 : f_Disk_write [.obj d1, .int N, t] Ma = .ok .non Mb)
    (w2 : ∀ (da : DA) r, methK1 "write" mt_write__Disk (.ok (.obj d2) Mb) da r = methK2 f_Disk_write 3 (.obj d2) (da r Mb)) (p2 : f_page_text [P, .int S] Mb = .ok t Mc) (e2 : f_Disk_write [.obj d2, .int N, t] Mc = .ok .non Md) :
    l3_law [x0, x1, some (.int S), some (.lst [.obj d1, .obj d2]), x4, some (.int N), some P, x7, x8, x9, x10, x11, x12] M = .nx [x0, x1, some (.int S), some (.lst [.obj d1, .obj d2]), x4, some (.int N), some P, some (.obj d2), x8, x9, x10, x11, x12] Md := by
  simp [-dItL_ev, dItL_K, l3_law, l2_law, w1, p1, e1, w2, p2, e2]
structure Two (ns : List Int) (M : Mem) (d1 t1 l1 d2 t2 l2 sz : Nat) (T : List Pg) : Prop where
  tp : Tp ns M
  a : DkM M d1 t1 l1 sz (T.length : Nat) T
  b : DkM M d2 t2 l2 sz (T.length : Nat) T
theorem first {d1 t1 l1 d2 t2 l2 : Nat} (o1 : 0 < d1 ∧ d1 < t1 ∧ t1 < l1 ∧ l1 < d2 ∧ d2 < t2 ∧ t2 < l2) {x0 x1 x4 x8 x9 x10 x11 x12 : Option D} : ∀ (suf pre : List Pg) (M : Mem) (x5 x6 x7 : Option D), Two ns M d1 t1 l1 d2 t2 l2 sz pre → pre.length + suf.length ≤ 100 → (∀ p ∈ suf, Good p ∧ Fit p sz) →
    ∃ y5 y6 y7 M', forL anyM (gTupD 2 (gsCons (gSlot 5) (gsCons (gSlot 6) gsNil))) l3_law (((suf.map Pg.toD).zipIdx pre.length).map fun di => .tup [.int (di.2 : Nat), di.1]) [x0, x1, some (.int (sz : Nat)), some (.lst [.obj d1, .obj d2]), x4, x5, x6, x7, x8, x9, x10, x11, x12] M = .nx [x0, x1, some (.int (sz : Nat)), some (.lst [.obj d1, .obj d2]), x4, y5, y6, y7, x8, x9, x10, x11, x12] M' ∧ Two ns M' d1 t1 l1 d2 t2 l2 sz (pre ++ suf)
  | [], pre, M, x5, x6, x7, h, _, _ => ⟨x5, x6, x7, M, by simp, by simpa using h⟩
  | p :: suf, pre, M, x5, x6, x7, h, hl, g => by
    rw [List.length_cons] at hl
    obtain ⟨gp, f⟩ := g p List.mem_cons_self
    have e0 := page_text_ok (M := M) gp f
    have a1 := h.a.fr (S := []) (Fr.app (M1 := [p.obj])) (by simp) (by simp) (by simp)
    have b1 := h.b.fr (S := []) (Fr.app (M1 := [p.obj])) (by simp) (by simp) (by simp)
    have tp1 := h.tp.app (X := [p.obj])
    generalize M ++ [p.obj] = Ma at *
    obtain ⟨Mb, e1, q1, q2, F1⟩ := write_ok a1.d a1.t a1.n1 (by omega) (Nat.le_refl _) gp f
    have a2 : DkM Mb d1 t1 l1 sz ((pre.length : Nat) + 1) (pre ++ [p]) := ⟨q1, by rw [← setP_end]; exact q2, F1.at a1.l (by simp; omega), a1.n1, a1.n2, a1.n3⟩
    have b2 := b1.fr F1 (by simp; omega) (by simp; omega) (by simp; omega)
    have tp2 := Tp.fr tp1 F1 (by simp; omega)
    have e2 := page_text_ok (M := Mb) gp f
    have a3 := a2.fr (S := []) (Fr.app (M1 := [p.obj])) (by simp) (by simp) (by simp)
    have b3 := b2.fr (S := []) (Fr.app (M1 := [p.obj])) (by simp) (by simp) (by simp)
    have tp3 := tp2.app (X := [p.obj])
    have s2 := b2.d
    generalize Mb ++ [p.obj] = Mc at *
    obtain ⟨Md, e3, q3, q4, F2⟩ := write_ok b3.d b3.t b3.n1 (by omega) (Nat.le_refl _) gp f
    have b4 : DkM Md d2 t2 l2 sz ((pre.length : Nat) + 1) (pre ++ [p]) := ⟨q3, by rw [← setP_end]; exact q4, F2.at b3.l (by simp; omega), b3.n1, b3.n2, b3.n3⟩
    have a4 := a3.fr F2 (by simp; omega) (by simp; omega) (by simp; omega)
    have tp4 := Tp.fr tp3 F2 (by simp; omega)
    have len : ((pre ++ [p]).length : Nat) = pre.length + 1 := by simp
    have h4 : Two ns Md d1 t1 l1 d2 t2 l2 sz (pre ++ [p]) := ⟨tp4, by rw [len]; exact a4, by rw [len]; exact b4⟩
    have st := first_step (x0 := x0) (x1 := x1) (x4 := x4) (x7 := x7) (x8 := x8) (x9 := x9) (x10 := x10) (x11 := x11) (x12 := x12) (fun da r => methK1_of h.a.d rfl rfl) e0 e1 (fun da r => methK1_of s2 rfl rfl) e2 e3
    obtain ⟨y5, y6, y7, M5, e5, h5⟩ := first o1 (x0 := x0) (x1 := x1) (x4 := x4) (x8 := x8) (x9 := x9) (x10 := x10) (x11 := x11) (x12 := x12) suf (pre ++ [p]) Md (some (.int (pre.length : Nat))) (some p.toD) (some (.obj d2)) h4 (by simp; omega) (fun q hq => g q (List.mem_cons_of_mem _ hq))
    refine ⟨y5, y6, y7, M5, ?_, by simpa using h5⟩
    rw [len] at e5
    rw [List.map_cons, List.zipIdx_cons, List.map_cons]
    generalize ((suf.map Pg.toD).zipIdx (pre.length + 1)).map (fun di => D.tup [.int (di.2 : Nat), di.1]) = ds at *
    obtain ⟨N, hN⟩ : ∃ N : Int, (pre.length : Int) = N := ⟨_, rfl⟩
    obtain ⟨Z, hZ⟩ : ∃ Z : Int, (sz : Int) = Z := ⟨_, rfl⟩
    dsimp only
    rw [hN, hZ] at st e5 ⊢
    simp [st, e5]
end
end K10
set_option Elab.async false
set_option linter.all false
set_option maxRecDepth 100000
set_option maxHeartbeats 4000000
/-! K10: the law, whole. -/
namespace K10
open PySem PySem.Spec PyProof.Rows L2 LF
/-- the world as it is made: without "most" -/
def W5 (sz : Int) (old : List D) (wn : Nat) (L : Int) : MO := .dic [(.inr "size", .int sz), (.inr "old", .lst old), (.inr "new", .obj wn), (.inr "many", .int L), (.inr "begun", .int L)]
def wD : List (Key × DE) := [(.inr "size", (dVar 2)), (.inr "old", (dVar 4)), (.inr "new", dNewDic), (.inr "many", (dCB fLen (dCons (dVar 4) dNil))), (.inr "begun", (dCB fLen (dCons (dVar 4) dNil)))]
theorem world_made {M : Mem} {S : Int} {old : List D} {x0 x1 x3 x5 x6 x7 x8 x9 x10 x11 x12 : Option D} : dDisp wD [x0, x1, some (.int S), x3, some (.lst old), x5, x6, x7, x8, x9, x10, x11, x12] M = .ok (.obj (M ++ [MO.dic []]).length) ((M ++ [MO.dic []]) ++ [W5 S old M.length (old.length : Nat)]) := rfl
theorem law_A {M0 M1 M2 M3 M4 M5 M6 M7 M8 M9 M10 M11 M12 M13 M14 : Mem} {SC : D} {S k m n B : Int} {d1 d2 us vs w : Nat} {R R3 old : List D} {y5 y6 y7 y10 y11 : Option D}
    (h1 : f__law_tape [SC] [] = .ok (.obj 0) M0) (h2 : f__law_size [.obj 0] M0 = .ok (.int S) M1) (l1 : M1.length = d1) (h3 : f_Disk___init__ [.obj d1, .int S] (M1 ++ [.ins "Disk" []]) = .ok .non M2) (l2 : M2.length = d2) (h4 : f_Disk___init__ [.obj d2, .int S] (M2 ++ [.ins "Disk" []]) = .ok .non M3)
    (h5 : f__law_draw [.obj 0, .int 11] M3 = .ok (.int k) M4) (it : itR1K (.ok (.int (2 + k)) M4) = .ok ⟨R, anyM⟩ M4) (h6 : compL anyM (gSlot 12) dYes c1_law [some SC, some (.obj 0), some (.int S), some (.lst [.obj d1, .obj d2]), none, none, none, none, none, none, none, none, none] R [] M4 = .ok old M5)
    (h7 : forL anyM (gTupD 2 (gsCons (gSlot 5) (gsCons (gSlot 6) gsNil))) l3_law (pairsL old) [some SC, some (.obj 0), some (.int S), some (.lst [.obj d1, .obj d2]), some (.lst old), none, none, none, none, none, none, none, none] M5 = .nx [some SC, some (.obj 0), some (.int S), some (.lst [.obj d1, .obj d2]), some (.lst old), y5, y6, y7, none, none, none, none, none] M6)
    (h8 : dDisp wD [some SC, some (.obj 0), some (.int S), some (.lst [.obj d1, .obj d2]), some (.lst old), y5, y6, y7, none, none, none, none, none] M6 = .ok (.obj w) M7) (h9 : f__law_draw [.obj 0, .int 39] M7 = .ok (.int m) M8) (h10 : ∀ r, putAt (.obj w) (.str "most") (.lst [.int 2, .int (2 + m)]) r M8 = .nx r M9)
    (it2 : itR1K (.ok (.int 2) M9) = .ok ⟨[.int 0, .int 1], anyM⟩ M9) (h11 : compL anyM (gSlot 12) dYes c4_law [some SC, some (.obj 0), some (.int S), some (.lst [.obj d1, .obj d2]), some (.lst old), y5, y6, y7, some (.obj w), none, none, none, none] [.int 0, .int 1] [] M9 = .ok [.obj us, .obj vs] M10)
    (h12 : f__law_draw [.obj 0, .int 27] M10 = .ok (.int n) M11) (it3 : itR1K (.ok (.int (4 + n)) M11) = .ok ⟨R3, anyM⟩ M11)
    (h13 : forL anyM (gSlot 10) l5_law R3 [some SC, some (.obj 0), some (.int S), some (.lst [.obj d1, .obj d2]), some (.lst old), y5, y6, y7, some (.obj w), some (.lst [.obj us, .obj vs]), none, none, none] M11 = .nx [some SC, some (.obj 0), some (.int S), some (.lst [.obj d1, .obj d2]), some (.lst old), y5, y6, y7, some (.obj w), some (.lst [.obj us, .obj vs]), y10, y11, none] M12)
    (h14 : f__law_all_told [.lst [.obj us, .obj vs], .obj w] M12 = .ok (.bl true) M13) (h15 : fDGet (.obj w) (.str "begun") M13 = .ok (.int B) M13) (h16 : f__law_disks_right [.lst [.obj d1, .obj d2], .obj w, .int B] M13 = .ok (.bl true) M14) : f_law [SC] [] = .ok (.bl true) M14 := by
  unfold wD at h8
  simp [-itR1K_ok, -dItL_ev, -dDisp_ev, dItL_K, f_law, b_law, runB_ev, h1, h2, l1, h3, l2, h4, h5, it, h6, h7, h8, h9, h10, it2, h11, h12, it3, h13, h14, h15, h16]
theorem shelf_step {M M1 : Mem} {S : Int} {d1 d2 d s w : Nat} {N mo : Int} {l : List D} {x0 x1 x4 x5 x6 x7 x9 x10 x11 : Option D} (ix : fIx (.lst [.obj d1, .obj d2]) (.int N) M = .ok (.obj d) M) (g : fDGet (.obj w) (.str "most") M = .ok (.lst l) M) (ix2 : fIx (.lst l) (.int N) M = .ok (.int mo) M) (hs : M.length = s) (mk : f_Shelf___init__ [.obj s, .obj d, .int mo] (M ++ [.ins "Shelf" []]) = .ok .non M1) :
    c4_law [x0, x1, some (.int S), some (.lst [.obj d1, .obj d2]), x4, x5, x6, x7, some (.obj w), x9, x10, x11, some (.int N)] M = .ok (.obj s) M1 := by
  simp [c4_law, ix, g, ix2, hs, mk]
theorem nz {x : Nat} (h : 0 < x) : x ∉ [0] := fun z => by
  have := List.mem_singleton.mp z
  omega
theorem f_law_ok (ns : List Int) : ∃ M, f_law [.lst (ns.map .int)] [] = .ok (.bl true) M := by
  have h1 : f__law_tape [.lst (ns.map .int)] [] = .ok (.obj 0) [TP ns 0 7] := rfl
  have tp0 : Tp ns [TP ns 0 7] := ⟨0, 7, by omega, rfl⟩
  generalize [TP ns 0 7] = M0 at *
  obtain ⟨sz, M1, z0, z1, h2, E1⟩ := size_ok tp0
  have h3 := init_disk (M := M1) z0 z1
  have tp2 := E1.tp.app (X := [DO sz (M1.length + 1) (M1.length + 2) 0, .lst [], .lst []])
  have a2 : DkM (M1 ++ [DO sz (M1.length + 1) (M1.length + 2) 0, .lst [], .lst []]) M1.length (M1.length + 1) (M1.length + 2) sz 0 [] := ⟨by simp, by simp [tD], by simp, by omega, by omega, by omega⟩
  have len2 : (M1 ++ [DO sz (M1.length + 1) (M1.length + 2) 0, .lst [], .lst []]).length = M1.length + 3 := by simp
  have p1 : 0 < M1.length := by obtain ⟨_, _, _, q⟩ := E1.tp; exact (List.getElem?_eq_some_iff.mp q).1
  generalize M1 ++ [DO sz (M1.length + 1) (M1.length + 2) 0, .lst [], .lst []] = M2 at *
  have h4 := init_disk (M := M2) z0 z1
  have tp3 := tp2.app (X := [DO sz (M2.length + 1) (M2.length + 2) 0, .lst [], .lst []])
  have a3 := a2.fr (S := []) (Fr.app (M1 := [DO sz (M2.length + 1) (M2.length + 2) 0, .lst [], .lst []])) (by simp) (by simp) (by simp)
  have b3 : DkM (M2 ++ [DO sz (M2.length + 1) (M2.length + 2) 0, .lst [], .lst []]) M2.length (M2.length + 1) (M2.length + 2) sz 0 [] := ⟨by simp, by simp [tD], by simp, by omega, by omega, by omega⟩
  generalize M2 ++ [DO sz (M2.length + 1) (M2.length + 2) 0, .lst [], .lst []] = M3 at *
  obtain ⟨k, M4, h5, k0, k1, E4⟩ := draw tp3 (m := 11) (by omega)
  have F4 := E4.fr
  have a4 := a3.fr F4 (nz (by omega)) (nz (by omega)) (nz (by omega))
  have b4 := b3.fr F4 (nz (by omega)) (nz (by omega)) (nz (by omega))
  have it := itR1K_ok (M := M4) (j := 2 + k) (by omega) (by omega)
  have rl : (irng 0 (2 + k).toNat).length = (2 + k).toNat := by simp [irng]
  generalize irng 0 (2 + k).toNat = R at *
  obtain ⟨old, M5, h6, ol, og, E5⟩ := pages_comp (x0 := some (.lst (ns.map .int))) (x3 := some (.lst [.obj M1.length, .obj M2.length])) (x4 := none) (x5 := none) (x6 := none) (x7 := none) (x8 := none) (x9 := none) (x10 := none) (x11 := none) z0 z1 R M4 [] E4.tp (by simp; omega)
  rw [List.nil_append] at h6
  have F5 := E5.fr
  have a5 := a4.fr F5 (nz (by omega)) (nz (by omega)) (nz (by omega))
  have b5 := b4.fr F5 (nz (by omega)) (nz (by omega)) (nz (by omega))
  have t5 : Two ns M5 M1.length (M1.length + 1) (M1.length + 2) M2.length (M2.length + 1) (M2.length + 2) sz [] := ⟨E5.tp, a5, b5⟩
  obtain ⟨y5, y6, y7, M6, h7, t6⟩ := first ⟨p1, by omega, by omega, by omega, by omega, by omega⟩ (x0 := some (.lst (ns.map .int))) (x1 := some (.obj 0)) (x4 := some (.lst (old.map Pg.toD))) (x8 := none) (x9 := none) (x10 := none) (x11 := none) (x12 := none) old [] M5 none none none t5 (by simp; omega) og
  rw [List.nil_append] at t6
  have h8 := world_made (M := M6) (S := (sz : Int)) (old := old.map Pg.toD) (x0 := some (.lst (ns.map .int))) (x1 := some (.obj 0)) (x3 := some (.lst [.obj M1.length, .obj M2.length])) (x5 := y5) (x6 := y6) (x7 := y7) (x8 := none) (x9 := none) (x10 := none) (x11 := none) (x12 := none)
  have l6 : M2.length + 2 < M6.length := (List.getElem?_eq_some_iff.mp t6.b.l).1
  have wl : (M6 ++ [MO.dic []]).length = M6.length + 1 := by simp
  have w7 : ((M6 ++ [MO.dic []]) ++ [W5 (sz : Int) (old.map Pg.toD) M6.length ((old.map Pg.toD).length : Nat)])[M6.length + 1]? = some (W5 (sz : Int) (old.map Pg.toD) M6.length ((old.map Pg.toD).length : Nat)) := by rw [← wl]; simp
  have n7 : ((M6 ++ [MO.dic []]) ++ [W5 (sz : Int) (old.map Pg.toD) M6.length ((old.map Pg.toD).length : Nat)])[M6.length]? = some (.dic []) := by simp
  have F7 : Fr [] M6 ((M6 ++ [MO.dic []]) ++ [W5 (sz : Int) (old.map Pg.toD) M6.length ((old.map Pg.toD).length : Nat)]) := Fr.app.trans Fr.app
  have tp7 := Tp.fr t6.tp F7 (by simp)
  have a7 := t6.a.fr F7 (by simp) (by simp) (by simp)
  have b7 := t6.b.fr F7 (by simp) (by simp) (by simp)
  have lm : (old.map Pg.toD).length = old.length := List.length_map ..
  rw [wl] at h8
  rw [lm] at h8 w7 n7 F7 tp7 a7 b7
  generalize (M6 ++ [MO.dic []]) ++ [W5 (sz : Int) (old.map Pg.toD) M6.length (old.length : Nat)] = M7 at *
  obtain ⟨m, M8, h9, m0, m1, E8⟩ := draw tp7 (m := 39) (by omega)
  have F8 := E8.fr
  have w8 := F8.at w7 (nz (by omega))
  have n8 := F8.at n7 (nz (by omega))
  have a8 := a7.fr F8 (nz (by omega)) (nz (by omega)) (nz (by omega))
  have b8 := b7.fr F8 (nz (by omega)) (nz (by omega)) (nz (by omega))
  have h10 : ∀ r, putAt (.obj (M6.length + 1)) (.str "most") (.lst [.int 2, .int (2 + m)]) r M8 = .nx r (M8.set (M6.length + 1) (WO sz old M6.length (old.length : Nat) (old.length : Nat) (2 + m))) := fun r => putAt_of (k := .inr "most") rfl w8 (by exact (by decide : (5 : Nat) ≤ 100000))
  have F9 : Fr [M6.length + 1] M8 (M8.set (M6.length + 1) (WO sz old M6.length (old.length : Nat) (old.length : Nat) (2 + m))) := Fr.set (by simp)
  have w9 : (M8.set (M6.length + 1) (WO sz old M6.length (old.length : Nat) (old.length : Nat) (2 + m)))[M6.length + 1]? = some (WO sz old M6.length (old.length : Nat) (old.length : Nat) (2 + m)) := at_set w8
  have n9 := F9.at n8 (by simp)
  have a9 := a8.fr F9 (by simp; omega) (by simp; omega) (by simp; omega)
  have b9 := b8.fr F9 (by simp; omega) (by simp; omega) (by simp; omega)
  have tp9 := Tp.fr E8.tp F9 (by simp)
  generalize M8.set (M6.length + 1) (WO sz old M6.length (old.length : Nat) (old.length : Nat) (2 + m)) = M9 at *
  have l9 : M6.length + 1 < M9.length := (List.getElem?_eq_some_iff.mp w9).1
  -- the shelves
  have mk1 := init_shelf (M := M9) (di := M1.length) (mo := 2) (by omega) (by omega)
  have FA : Fr [] M9 (M9 ++ [SO M1.length (M9.length + 1) (M9.length + 2) 2 0, .dic [], .dic []]) := Fr.app
  have sA : ShM (M9 ++ [SO M1.length (M9.length + 1) (M9.length + 2) 2 0, .dic [], .dic []]) M9.length M1.length (M9.length + 1) (M9.length + 2) 2 [] (ks []) := ⟨⟨0, by simp⟩, by simp [thD], by simp [alD, ks], by omega, by omega, by omega⟩
  have lA : (M9 ++ [SO M1.length (M9.length + 1) (M9.length + 2) 2 0, .dic [], .dic []]).length = M9.length + 3 := by simp
  have wA := FA.at w9 (by simp)
  have nA := FA.at n9 (by simp)
  have aA := a9.fr FA (by simp) (by simp) (by simp)
  have bA := b9.fr FA (by simp) (by simp) (by simp)
  have tpA := Tp.fr tp9 FA (by simp)
  generalize M9 ++ [SO M1.length (M9.length + 1) (M9.length + 2) 2 0, .dic [], .dic []] = MA at *
  have mk2 := init_shelf (M := MA) (di := M2.length) (mo := 2 + m) (by omega) (by omega)
  have FB : Fr [] MA (MA ++ [SO M2.length (MA.length + 1) (MA.length + 2) (2 + m) 0, .dic [], .dic []]) := Fr.app
  have sB : ShM (MA ++ [SO M2.length (MA.length + 1) (MA.length + 2) (2 + m) 0, .dic [], .dic []]) MA.length M2.length (MA.length + 1) (MA.length + 2) (2 + m) [] (ks []) := ⟨⟨0, by simp⟩, by simp [thD], by simp [alD, ks], by omega, by omega, by omega⟩
  have sA2 := sA.fr FB (by simp) (by simp) (by simp)
  have wB := FB.at wA (by simp)
  have nB := FB.at nA (by simp)
  have aB := aA.fr FB (by simp) (by simp) (by simp)
  have bB := bA.fr FB (by simp) (by simp) (by simp)
  have tpB := Tp.fr tpA FB (by simp)
  generalize MA ++ [SO M2.length (MA.length + 1) (MA.length + 2) (2 + m) 0, .dic [], .dic []] = MB at *
  have c1 := shelf_step (M := M9) (S := (sz : Int)) (d1 := M1.length) (d2 := M2.length) (N := 0) (x0 := some (.lst (ns.map .int))) (x1 := some (.obj 0)) (x4 := some (.lst (old.map Pg.toD))) (x5 := y5) (x6 := y6) (x7 := y7) (x9 := none) (x10 := none) (x11 := none) (fIx_lst (L2.atI_nat (j := 0) rfl)) (w_most w9) (fIx_lst (L2.atI_nat (j := 0) rfl)) rfl mk1
  have c2 := shelf_step (M := MA) (S := (sz : Int)) (d1 := M1.length) (d2 := M2.length) (N := 1) (x0 := some (.lst (ns.map .int))) (x1 := some (.obj 0)) (x4 := some (.lst (old.map Pg.toD))) (x5 := y5) (x6 := y6) (x7 := y7) (x9 := none) (x10 := none) (x11 := none) (fIx_lst (L2.atI_nat (j := 1) rfl)) (w_most wA) (fIx_lst (L2.atI_nat (j := 1) rfl)) rfl mk2
  have h11 : compL anyM (gSlot 12) dYes c4_law [some (.lst (ns.map .int)), some (.obj 0), some (.int (sz : Nat)), some (.lst [.obj M1.length, .obj M2.length]), some (.lst (old.map Pg.toD)), y5, y6, y7, some (.obj (M6.length + 1)), none, none, none, none] [.int 0, .int 1] [] M9 = .ok [.obj M9.length, .obj MA.length] MB := by
    obtain ⟨Z, hZ⟩ : ∃ Z : Int, (sz : Int) = Z := ⟨_, rfl⟩
    rw [hZ] at c1 c2 ⊢
    simp [compL_consA, c1, c2]
  have emp : ∀ mo : Int, ShI old [] mo [] := fun mo => ⟨List.nodup_nil, fun z hz => by simp at hz, fun n hn => by simp [ks] at hn, .inr (Nat.le_refl _)⟩
  have U : Un MB ⟨M9.length, M1.length, M1.length + 1, M1.length + 2, M9.length + 1, M9.length + 2⟩ sz 2 (old.length : Nat) old [] := ⟨⟨[], sA2, emp 2, by simp⟩, aB, ⟨by show M9.length + 2 ≠ M1.length; omega, by show M9.length + 2 ≠ M1.length + 1; omega, by show M9.length + 2 ≠ M1.length + 2; omega⟩, ⟨by show M9.length + 1 ≠ M1.length; omega, by show M9.length + 1 ≠ M1.length + 1; omega, by show M9.length + 1 ≠ M1.length + 2; omega⟩, ⟨by show M9.length ≠ M1.length; omega, by show M9.length ≠ M1.length + 1; omega, by show M9.length ≠ M1.length + 2; omega⟩⟩
  have V : Un MB ⟨MA.length, M2.length, M2.length + 1, M2.length + 2, MA.length + 1, MA.length + 2⟩ sz (2 + m) (old.length : Nat) old [] := ⟨⟨[], sB, emp (2 + m), by simp⟩, bB, ⟨by show MA.length + 2 ≠ M2.length; omega, by show MA.length + 2 ≠ M2.length + 1; omega, by show MA.length + 2 ≠ M2.length + 2; omega⟩, ⟨by show MA.length + 1 ≠ M2.length; omega, by show MA.length + 1 ≠ M2.length + 1; omega, by show MA.length + 1 ≠ M2.length + 2; omega⟩, ⟨by show MA.length ≠ M2.length; omega, by show MA.length ≠ M2.length + 1; omega, by show MA.length ≠ M2.length + 2; omega⟩⟩
  have St : State ns MB (M6.length + 1) M6.length ⟨M9.length, M1.length, M1.length + 1, M1.length + 2, M9.length + 1, M9.length + 2⟩ ⟨MA.length, M2.length, M2.length + 1, M2.length + 2, MA.length + 1, MA.length + 2⟩ sz (old.length : Nat) (old.length : Nat) (2 + m) old [] old.length := by
    refine ⟨tpB, wB, nB, U, V, fun j h1 h2 => ?_, ⟨?_, ?_, ?_⟩, ⟨?_, ?_, ?_⟩, ⟨by omega, by omega, by omega⟩, ⟨List.nodup_nil, og, fun z hz => by simp at hz, fun n hn => by simp [ks] at hn, fun n hn => .inl hn, Nat.le_refl _, by omega, by omega⟩, ⟨by omega, by omega⟩⟩
    · simp [fp] at h1 h2
      omega
    all_goals (simp [fp]; omega)
  obtain ⟨n, MC, h12, n0, n1, EC⟩ := draw tpB (m := 27) (by omega)
  have ls : LS ns MC (M6.length + 1) M9.length MA.length M1.length M2.length sz (2 + m) 12 := ⟨_, _, _, _, _, _, _, rfl, rfl, rfl, rfl, St.ext EC, by omega⟩
  have it3 := itR1K_ok (M := MC) (j := 4 + n) (by omega) (by omega)
  have rl3 : (irng 0 (4 + n).toNat).length = (4 + n).toNat := by simp [irng]
  generalize irng 0 (4 + n).toNat = R3 at *
  obtain ⟨y10, y11, MD, h13, k', ls2⟩ := turns z0 z1 (SC := .lst (ns.map .int)) (S := .int (sz : Nat)) (O := .lst (old.map Pg.toD)) (x5 := y5) (x6 := y6) (x7 := y7) (x12 := none) R3 12 MC none none ls (by omega)
  obtain ⟨wn, u, v, b, old', new', many', e1, e2, e3, e4, s2, _⟩ := ls2
  obtain ⟨ME, h14, s3⟩ := all_told s2
  obtain ⟨MF, h16, s4⟩ := disks_right s3
  rw [SHL, e1, e2] at h14
  rw [DKL, e3, e4] at h16
  exact ⟨MF, law_A h1 h2 rfl h3 rfl h4 h5 it h6 h7 h8 h9 h10 rfl h11 h12 it3 h13 h14 (w_begun s3.wo) h16⟩
end K10
set_option Elab.async false
set_option linter.all false
set_option maxRecDepth 100000
set_option maxHeartbeats 0
namespace K10
open PySem PySem.Spec PyProof.Rows L2 LF
theorem facts {P : Program} {w : World} {K : Frg} {h : Heap} {mg : Str → Option Value} {f : Addr} (X : K.In h) (G : h.Ns mainGlobals mg) (e : mg "law" = some (.ref f)) (c : SaysX xb fa fn K) :
    ∃ fd : FuncData, (∀ (s : Shared) (v : Value), BindsTo s fd ⟨[v], []⟩ [("_law_script", v)]) ∧ ∀ base : Heap, FnOk P w K mg base (L2.CX P w) 13 f fd ["_law_script"] (SpD K 1 f_law) := by
  have T := top_of X G c
  obtain ⟨fd, D⟩ := T.d_law
  have q := e.symm.trans T.g_law
  cases q
  have b := FunD.bindsA (ps := ["_law_script"]) D fun _ _ _ _ _ _ us hl => match us, hl with | [_], _ => rfl
  exact ⟨fd, fun s v => b s [v] rfl, fun base => fn_law T D⟩
end K10
set_option maxHeartbeats 0 in
theorem PySem.Challenge.cw_leafhouse_k10_whole_shelves_alike_holds : PySem.Challenge.rw_leafhouse_k10_whole_shelves_alike.Holds := by
  w_on; o_law
  refine HandSHeadRun.head_any (r := PySem.W.OpenLaw.row PySem.Challenge.rw_leafhouse_k10_whole_shelves_alike) (q := PySem.W.view (PySem.W.OpenLaw.row PySem.Challenge.rw_leafhouse_k10_whole_shelves_alike).prog [79]) (H := K10.hk) (ob := K10.ob) (M := 9000) (loose := K10.loose) (d := HandSHeadRun.topDef (PySem.W.OpenLaw.row PySem.Challenge.rw_leafhouse_k10_whole_shelves_alike).prog 79) (kwd := []) K10.ob_eq
    (by kernel_rfl) (fun s => by kernel_rfl) K10.run (by kernel_rfl) (by kernel_rfl) (by kernel_rfl) (by rfl) (by first | assumption | decide +kernel) (by decide +kernel) ⟨rfl, rfl, rfl, rfl, rfl, by decide +kernel⟩ ?hw ?hc
  case hw => w_witness2
  case hc =>
    refine LF.law_walk (l := PySem.Challenge.rw_leafhouse_k10_whole_shelves_alike) (n := 63) (k := 13) (x := "_law_script") (F := K10.f_law) rfl (by decide) (by kernel_rfl) ⟨rfl, by decide, by decide⟩ ?B (fun ns _ => K10.f_law_ok ns)
    intro w mg f h Y G m
    obtain ⟨K, KX, c⟩ := Y
    have e : mg ("law" : PySem.Str) = some (.ref f) := by
      have q : (HandSHeadRun.topDef (PySem.W.OpenLaw.row PySem.Challenge.rw_leafhouse_k10_whole_shelves_alike).prog 79).name = ("law" : PySem.Str) := by kernel_rfl
      rw [← q]
      exact m
    obtain ⟨fd, hb, hF⟩ := K10.facts (P := (PySem.Challenge.rw_leafhouse_k10_whole_shelves_alike).prog) (w := w) KX G e c
    exact ⟨K, fd, KX, hb, fun base _ _ => hF base⟩
