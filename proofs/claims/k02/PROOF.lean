import PyProof.Rows.All
import Wide.All
import OpenK.AllK
import Wide.FinOn
import HandS.ForMost
import HandS.Exc
import HandS.ExcOwn
import HandS.HeadHook2
import HandS.Defaults
import HandS.IsInst
import HandS.StrMore
import HandS.RevRange
import HandS.HotCalls
import HandS.ExcIs
import KE.KExcIs
import HandS.Base
import HandS.Call
import HandS.Ends
import HandS.More
import HandS.Words
import HandS.WordsExc
import HandS.Head0
import HandS.Head1
import HandS.Head2
import HandS.HeadEnd
import HandS.HeadHook1
import KE.KStateDown
import HandS.WideBits
import KE.BitLaws
import HandS.Text
import PyProof.Rows.StrLast
import PyProof.Rows.StrFirst
import PyProof.EnumMake
import PyProof.Draws
import HandS.Iter
import HandS.Replace
import HandS.Codes
import HandS.TupAny
import PySem.Challenge.RW_leafhouse_k02_checks
set_option Elab.async false
set_option linter.all false
set_option maxRecDepth 100000
set_option maxHeartbeats 2000000
/-! LF1: plain data, the arena, what ties them to the layer's values and abstract heap. -/
namespace LF
open PySem PySem.Spec PyProof.Rows L2

/-- plain data -/
inductive D where
  | non | bl (b : Bool) | int (i : Int) | str (x : Str)
  | tup (ds : List D) | lst (ds : List D) | dic (ks : List Key) (ds : List D)
  | obj (i : Nat)
  | exc (c : Str) (ns : List Str) (ds : List D)
  | ins (c : Str) (ns : List Str) (ds : List D)
/-- what may change: in the arena -/
inductive MO where
  | lst (ds : List D) | dic (kvs : List (Key × D)) | ins (c : Str) (fs : List (Str × D)) | ro (ds : List D)
abbrev Mem := List MO
abbrev Env' := List (Option D)
abbrev Frg := PySem.W.Frag

/-- the arena's places; places that are under construction (nothing may stand for them) -/
structure Wd where
  ar : List Addr
  lk : List Addr
abbrev Wd.out (w : Wd) (a : Addr) : Prop := a ∉ w.ar ∧ a ∉ w.lk
/-- an exception object -/
def IsX (a C : Addr) (dd : Option Addr) : Heap → Prop := fun h => ∃ o vs, h.get? a = some o ∧ o.cls = .ref C ∧ o.dict = dd ∧ o.data = .fields vs
/-- a list, a tuple that is not in the arena -/
def StL (K : Frg) (φ : Wd) (H : Hp) (a : Addr) (xs : List V) : Prop :=
  (φ.out a ∧ Rd H a (.lst xs)) ∨ ∃ (o : Obj) (its : Array Value) (n : Nat), K.lookup a = some o ∧ o.cls = .type "list" ∧ o.dict = none ∧ o.data = .seq its n ∧ its.size ≤ sizeLine ∧ Vals xs its.toList
def StT (K : Frg) (φ : Wd) (H : Hp) (a : Addr) (xs : List V) : Prop :=
  (φ.out a ∧ Rd H a (.tup xs)) ∨ ∃ (o : Obj) (its : Array Value) (n : Nat), K.lookup a = some o ∧ o.cls = .type "tuple" ∧ o.data = .seq its n ∧ its.size ≤ sizeLine ∧ Vals xs its.toList
theorem StL.sq {K : Frg} {φ : Wd} {H : Hp} {a : Addr} {xs : List V} (h : StL K φ H a xs) : SqL K H a xs := by
  rcases h with ⟨_, h⟩ | h
  · exact .inl h
  · exact .inr h
theorem StT.sq {K : Frg} {φ : Wd} {H : Hp} {a : Addr} {xs : List V} (h : StT K φ H a xs) : SqT K H a xs := by
  rcases h with ⟨_, h⟩ | h
  · exact .inl h
  · exact .inr h

mutual
/-- v stands for d -/
def Rep (K : Frg) (φ : Wd) (H : Hp) : D → V → Prop
  | .non, v => v = .non
  | .bl b, v => v = .bl b
  | .int i, v => v = .int i
  | .str x, v => v = .str x
  | .tup ds, v => ∃ a xs, v = .ref a ∧ StT K φ H a xs ∧ RepL K φ H ds xs
  | .lst ds, v => ∃ a xs, v = .ref a ∧ StL K φ H a xs ∧ RepL K φ H ds xs
  | .dic ks ds, v => ∃ a kv, v = .ref a ∧ φ.out a ∧ H a = some (.dK kv) ∧ kv.map (·.1) = ks ∧ RepL K φ H ds (kv.map (·.2))
  | .obj i, v => ∃ a, φ.ar[i]? = some a ∧ v = .ref a
  | .exc c ns ds, v => ∃ a dd, v = .ref a ∧ φ.out a ∧ H a = some (.ext (IsX a (He.ga K c) dd)) ∧ ∃ fv, ((dd = none ∧ fv = []) ∨ ∃ d, dd = some d ∧ φ.out d ∧ H d = some (.xd fv)) ∧ fv.map (·.1) = ns ∧ RepL K φ H ds (fv.map (·.2))
  | .ins c ns ds, v => ∃ a dx fv, v = .ref a ∧ φ.out a ∧ H a = some (.ins (He.ga K c) dx fv) ∧ fv.map (·.1) = ns ∧ RepL K φ H ds (fv.map (·.2))
def RepL (K : Frg) (φ : Wd) (H : Hp) : List D → List V → Prop
  | [], vs => vs = []
  | d :: ds, vs => ∃ v r, vs = v :: r ∧ Rep K φ H d v ∧ RepL K φ H ds r
end

/-- how a state may go on: new arena objects stand at new places; all that is not in the arena stays -/
structure Grow (φ : Wd) (H : Hp) (φ' : Wd) (H' : Hp) : Prop where
  ext : ∃ ψ, φ'.ar = φ.ar ++ ψ ∧ ∀ a ∈ ψ, H a = none
  lk : φ'.lk = φ.lk
  stay : ∀ a o, H a = some o → a ∉ φ.ar → H' a = some o
  dom : ∀ a, H' a = none → H a = none
theorem Grow.refl {φ : Wd} {H : Hp} : Grow φ H φ H := ⟨⟨[], by simp, by simp⟩, rfl, fun _ _ h _ => h, fun _ h => h⟩
theorem Grow.notin {φ φ' : Wd} {H H' : Hp} (g : Grow φ H φ' H') {a : Addr} {o : HO} (h : H a = some o) (n : a ∉ φ.ar) : a ∉ φ'.ar := by
  obtain ⟨⟨ψ, e, hψ⟩, _, _, _⟩ := g
  intro hm
  rw [e] at hm
  rcases List.mem_append.mp hm with q | q
  · exact n q
  · rw [hψ a q] at h; cases h
theorem Grow.out {φ φ' : Wd} {H H' : Hp} (g : Grow φ H φ' H') {a : Addr} {o : HO} (h : H a = some o) (n : φ.out a) : φ'.out a := ⟨g.notin h n.1, by rw [g.lk]; exact n.2⟩
theorem Grow.trans {φ φ1 φ2 : Wd} {H H1 H2 : Hp} (g : Grow φ H φ1 H1) (k : Grow φ1 H1 φ2 H2) : Grow φ H φ2 H2 := by
  refine ⟨?_, k.lk.trans g.lk, fun a o h n => k.stay a o (g.stay a o h n) (g.notin h n), fun a h => g.dom a (k.dom a h)⟩
  obtain ⟨ψ, e, hψ⟩ := g.ext
  obtain ⟨χ, e2, hχ⟩ := k.ext
  refine ⟨ψ ++ χ, by rw [e2, e, List.append_assoc], fun a ha => ?_⟩
  rcases List.mem_append.mp ha with q | q
  · exact hψ a q
  · exact g.dom a (hχ a q)
theorem Grow.get {φ φ' : Wd} {H H' : Hp} (g : Grow φ H φ' H') {i : Nat} {a : Addr} (h : φ.ar[i]? = some a) : φ'.ar[i]? = some a := by
  obtain ⟨ψ, e, _⟩ := g.ext
  rw [e, List.getElem?_append_left (List.getElem?_eq_some_iff.mp h).1]; exact h
/-- what keeps a standing-for -/
structure Mo (φ : Wd) (H : Hp) (φ' : Wd) (H' : Hp) : Prop where
  out : ∀ a u, φ.out a → H a = some u → φ'.out a ∧ H' a = some u
  get : ∀ (i : Nat) (a : Addr), φ.ar[i]? = some a → φ'.ar[i]? = some a
theorem Grow.mo {φ φ' : Wd} {H H' : Hp} (g : Grow φ H φ' H') : Mo φ H φ' H' := ⟨fun a u n h => ⟨g.out h n, g.stay _ _ h n.1⟩, fun _ _ h => g.get h⟩
theorem Mo.rd {φ φ' : Wd} {H H' : Hp} (g : Mo φ H φ' H') {a : Addr} {u : HO} (n : φ.out a) (h : Rd H a u) : φ'.out a ∧ Rd H' a u := by
  rcases h with h | ⟨o, h⟩
  · exact ⟨(g.out _ _ n h).1, .inl (g.out _ _ n h).2⟩
  · exact ⟨(g.out _ _ n h).1, .inr ⟨o, (g.out _ _ n h).2⟩⟩
theorem StL.mo {K : Frg} {φ φ' : Wd} {H H' : Hp} (g : Mo φ H φ' H') {a : Addr} {xs : List V} (h : StL K φ H a xs) : StL K φ' H' a xs := by
  rcases h with ⟨n, h⟩ | h
  · exact .inl (g.rd n h)
  · exact .inr h
theorem StT.mo {K : Frg} {φ φ' : Wd} {H H' : Hp} (g : Mo φ H φ' H') {a : Addr} {xs : List V} (h : StT K φ H a xs) : StT K φ' H' a xs := by
  rcases h with ⟨n, h⟩ | h
  · exact .inl (g.rd n h)
  · exact .inr h
section
variable {K : Frg} {φ φ' : Wd} {H H' : Hp}
mutual
theorem Rep.mo (g : Mo φ H φ' H') : ∀ (d : D) (v : V), Rep K φ H d v → Rep K φ' H' d v
  | .non, _, h => h
  | .bl _, _, h => h
  | .int _, _, h => h
  | .str _, _, h => h
  | .tup ds, v, h => by
    unfold Rep at h ⊢
    obtain ⟨a, xs, e, h1, h2⟩ := h
    exact ⟨a, xs, e, h1.mo g, RepL.mo g ds xs h2⟩
  | .lst ds, v, h => by
    unfold Rep at h ⊢
    obtain ⟨a, xs, e, h1, h2⟩ := h
    exact ⟨a, xs, e, h1.mo g, RepL.mo g ds xs h2⟩
  | .dic ks ds, v, h => by
    unfold Rep at h ⊢
    obtain ⟨a, kv, e, n, h1, h2, h3⟩ := h
    exact ⟨a, kv, e, (g.out _ _ n h1).1, (g.out _ _ n h1).2, h2, RepL.mo g ds _ h3⟩
  | .obj i, v, h => by
    unfold Rep at h ⊢
    obtain ⟨a, h1, h2⟩ := h
    exact ⟨a, g.get _ _ h1, h2⟩
  | .exc c ns ds, v, h => by
    unfold Rep at h ⊢
    obtain ⟨a, dd, e, n, h1, fv, h2, h3, h4⟩ := h
    refine ⟨a, dd, e, (g.out _ _ n h1).1, (g.out _ _ n h1).2, fv, ?_, h3, RepL.mo g ds _ h4⟩
    rcases h2 with h2 | ⟨d, h5, h6, h7⟩
    · exact .inl h2
    · exact .inr ⟨d, h5, (g.out _ _ h6 h7).1, (g.out _ _ h6 h7).2⟩
  | .ins c ns ds, v, h => by
    unfold Rep at h ⊢
    obtain ⟨a, dx, fv, e, n, h1, h2, h3⟩ := h
    exact ⟨a, dx, fv, e, (g.out _ _ n h1).1, (g.out _ _ n h1).2, h2, RepL.mo g ds _ h3⟩
theorem RepL.mo (g : Mo φ H φ' H') : ∀ (ds : List D) (vs : List V), RepL K φ H ds vs → RepL K φ' H' ds vs
  | [], _, h => h
  | d :: ds, vs, h => by
    unfold RepL at h ⊢
    obtain ⟨v, r, e, h1, h2⟩ := h
    exact ⟨v, r, e, Rep.mo g d v h1, RepL.mo g ds r h2⟩
end
theorem Rep.grow (g : Grow φ H φ' H') (d : D) (v : V) (h : Rep K φ H d v) : Rep K φ' H' d v := Rep.mo g.mo d v h
theorem RepL.grow (g : Grow φ H φ' H') (ds : List D) (vs : List V) (h : RepL K φ H ds vs) : RepL K φ' H' ds vs := RepL.mo g.mo ds vs h
theorem RepL.nil : RepL K φ H [] [] := by unfold RepL; rfl
theorem RepL.cons {d : D} {v : V} {ds : List D} {vs : List V} (h : Rep K φ H d v) (t : RepL K φ H ds vs) : RepL K φ H (d :: ds) (v :: vs) := by
  unfold RepL; exact ⟨v, vs, rfl, h, t⟩
theorem RepL.inv {d : D} {ds : List D} {vs : List V} (h : RepL K φ H (d :: ds) vs) : ∃ v r, vs = v :: r ∧ Rep K φ H d v ∧ RepL K φ H ds r := by
  unfold RepL at h; exact h
theorem RepL.inv0 {vs : List V} (h : RepL K φ H [] vs) : vs = [] := by
  unfold RepL at h; exact h
theorem RepL.len : ∀ {ds : List D} {vs : List V}, RepL K φ H ds vs → vs.length = ds.length
  | [], vs, h => by rw [h.inv0]; rfl
  | d :: ds, vs, h => by
    obtain ⟨v, r, rfl, _, h2⟩ := h.inv
    simp [RepL.len h2]
theorem RepL.get : ∀ {ds : List D} {vs : List V} {i : Nat} {d : D}, RepL K φ H ds vs → ds[i]? = some d → ∃ v, vs[i]? = some v ∧ Rep K φ H d v
  | [], _, _, _, _, e => by simp at e
  | d :: ds, vs, 0, x, h, e => by
    obtain ⟨v, r, rfl, h1, _⟩ := h.inv
    simp at e; subst e
    exact ⟨v, by simp, h1⟩
  | d :: ds, vs, i + 1, x, h, e => by
    obtain ⟨v, r, rfl, _, h2⟩ := h.inv
    obtain ⟨w, e1, e2⟩ := RepL.get (i := i) (d := x) h2 (by simpa using e)
    exact ⟨w, by simpa using e1, e2⟩
theorem RepL.got : ∀ {ds : List D} {vs : List V} {i : Nat} {v : V}, RepL K φ H ds vs → vs[i]? = some v → ∃ d, ds[i]? = some d ∧ Rep K φ H d v
  | [], vs, i, v, h, e => by rw [h.inv0] at e; simp at e
  | d :: ds, vs, 0, x, h, e => by
    obtain ⟨v, r, rfl, h1, _⟩ := h.inv
    simp at e; subst e
    exact ⟨d, by simp, h1⟩
  | d :: ds, vs, i + 1, x, h, e => by
    obtain ⟨v, r, rfl, _, h2⟩ := h.inv
    obtain ⟨w, e1, e2⟩ := RepL.got (i := i) (v := x) h2 (by simpa using e)
    exact ⟨w, by simpa using e1, e2⟩
theorem RepL.app : ∀ {ds es : List D} {vs ws : List V}, RepL K φ H ds vs → RepL K φ H es ws → RepL K φ H (ds ++ es) (vs ++ ws)
  | [], _, vs, _, h, k => by rw [h.inv0]; exact k
  | d :: ds, es, vs, ws, h, k => by
    obtain ⟨v, r, rfl, h1, h2⟩ := h.inv
    exact .cons h1 (RepL.app h2 k)
theorem RepL.take : ∀ {ds : List D} {vs : List V} (n : Nat), RepL K φ H ds vs → RepL K φ H (ds.take n) (vs.take n)
  | _, _, 0, _ => by simp [RepL.nil]
  | [], vs, n + 1, h => by rw [h.inv0]; simp [RepL.nil]
  | d :: ds, vs, n + 1, h => by
    obtain ⟨v, r, rfl, h1, h2⟩ := h.inv
    exact .cons h1 (RepL.take n h2)
theorem RepL.drop : ∀ {ds : List D} {vs : List V} (n : Nat), RepL K φ H ds vs → RepL K φ H (ds.drop n) (vs.drop n)
  | _, _, 0, h => by simpa using h
  | [], vs, n + 1, h => by rw [h.inv0]; simp [RepL.nil]
  | d :: ds, vs, n + 1, h => by
    obtain ⟨v, r, rfl, h1, h2⟩ := h.inv
    simpa using RepL.drop n h2
theorem RepL.setAt : ∀ {ds : List D} {vs : List V} {d : D} {v : V} (n : Nat), RepL K φ H ds vs → Rep K φ H d v → RepL K φ H (ds.set n d) (vs.set n v)
  | [], vs, _, _, n, h, _ => by rw [h.inv0]; simp [RepL.nil]
  | e :: ds, vs, d, v, 0, h, k => by
    obtain ⟨w, r, rfl, h1, h2⟩ := h.inv
    exact .cons k h2
  | e :: ds, vs, d, v, n + 1, h, k => by
    obtain ⟨w, r, rfl, h1, h2⟩ := h.inv
    exact .cons h1 (RepL.setAt n h2 k)
theorem RepL.rev {ds : List D} {vs : List V} (h : RepL K φ H ds vs) : RepL K φ H ds.reverse vs.reverse := by
  induction ds generalizing vs with
  | nil => rw [h.inv0]; exact .nil
  | cons d ds ih =>
    obtain ⟨v, r, rfl, h1, h2⟩ := h.inv
    rw [List.reverse_cons, List.reverse_cons]
    exact (ih h2).app (.cons h1 .nil)
end

/-- pairs: keys as they are, values stand for data -/
def RepK {κ : Type} (K : Frg) (φ : Wd) (H : Hp) : List (κ × D) → List (κ × V) → Prop
  | [], l => l = []
  | (k, d) :: r, l => ∃ v l', l = (k, v) :: l' ∧ Rep K φ H d v ∧ RepK K φ H r l'
section
variable {κ : Type} {K : Frg} {φ φ' : Wd} {H H' : Hp}
theorem RepK.nil : RepK K φ H ([] : List (κ × D)) [] := rfl
theorem RepK.cons {k : κ} {d : D} {v : V} {r : List (κ × D)} {l : List (κ × V)} (h : Rep K φ H d v) (t : RepK K φ H r l) : RepK K φ H ((k, d) :: r) ((k, v) :: l) := ⟨v, l, rfl, h, t⟩
theorem RepK.mo (g : Mo φ H φ' H') : ∀ {r : List (κ × D)} {l : List (κ × V)}, RepK K φ H r l → RepK K φ' H' r l
  | [], _, h => h
  | (k, d) :: r, _, ⟨v, l', e, h1, h2⟩ => ⟨v, l', e, Rep.mo g d v h1, RepK.mo g h2⟩
theorem RepK.len : ∀ {r : List (κ × D)} {l : List (κ × V)}, RepK K φ H r l → l.length = r.length
  | [], _, h => by
    have h : _ = [] := h
    rw [h]; rfl
  | (k, d) :: r, _, ⟨v, l', e, _, h2⟩ => by rw [e]; simp [RepK.len h2]
theorem RepK.keys : ∀ {r : List (κ × D)} {l : List (κ × V)}, RepK K φ H r l → l.map (·.1) = r.map (·.1)
  | [], _, h => by
    have h : _ = [] := h
    rw [h]; rfl
  | (k, d) :: r, _, ⟨v, l', e, _, h2⟩ => by rw [e]; simp [RepK.keys h2]
theorem RepK.vals : ∀ {r : List (κ × D)} {l : List (κ × V)}, RepK K φ H r l → RepL K φ H (r.map (·.2)) (l.map (·.2))
  | [], _, h => by
    have h : _ = [] := h
    rw [h]; exact .nil
  | (k, d) :: r, _, ⟨v, l', e, h1, h2⟩ => by rw [e]; exact .cons h1 (RepK.vals h2)
theorem RepK.app : ∀ {r r' : List (κ × D)} {l l' : List (κ × V)}, RepK K φ H r l → RepK K φ H r' l' → RepK K φ H (r ++ r') (l ++ l')
  | [], _, _, _, h, k => by
    have h : _ = [] := h
    rw [h]; exact k
  | (x, d) :: r, _, _, _, ⟨v, l', e, h1, h2⟩, k => by rw [e]; exact ⟨v, _, rfl, h1, RepK.app h2 k⟩
variable [DecidableEq κ]
def lookD (kvs : List (κ × D)) (k : κ) : Option D := (kvs.find? fun kv => decide (kv.1 = k)).map (·.2)
def putD (kvs : List (κ × D)) (k : κ) (d : D) : List (κ × D) := if (kvs.any fun kv => decide (kv.1 = k)) = true then kvs.map (fun kv => if kv.1 = k then (kv.1, d) else kv) else kvs ++ [(k, d)]
def dropD (kvs : List (κ × D)) (k : κ) : List (κ × D) := kvs.filter fun kv => decide (kv.1 ≠ k)
theorem RepK.look {k : κ} : ∀ {r : List (κ × D)} {l : List (κ × V)}, RepK K φ H r l → (lookD r k = none → valV l k = none) ∧ ∀ d, lookD r k = some d → ∃ v, valV l k = some v ∧ Rep K φ H d v
  | [], _, h => by
    have h : _ = [] := h
    rw [h]; exact ⟨fun _ => rfl, (fun d e => nomatch e)⟩
  | (x, d) :: r, _, ⟨v, l', e, h1, h2⟩ => by
    rw [e]
    by_cases q : x = k
    · rw [valV_pos (p := (x, v)) q]
      have z : lookD ((x, d) :: r) k = some d := by simp [lookD, List.find?_cons, q]
      rw [z]
      exact ⟨(fun z => nomatch z), fun d' e => ⟨v, rfl, Option.some.inj e ▸ h1⟩⟩
    · rw [valV_neg (p := (x, v)) q]
      have z : lookD ((x, d) :: r) k = lookD r k := by simp [lookD, List.find?_cons, q]
      rw [z]
      exact RepK.look h2
theorem RepK.any {k : κ} : ∀ {r : List (κ × D)} {l : List (κ × V)}, RepK K φ H r l → (l.any fun kv => decide (kv.1 = k)) = (r.any fun kv => decide (kv.1 = k))
  | [], _, h => by
    have h : _ = [] := h
    rw [h]; rfl
  | (x, d) :: r, _, ⟨v, l', e, h1, h2⟩ => by rw [e]; simp only [List.any_cons, RepK.any h2]
theorem RepK.map {k : κ} {d : D} {v : V} (hd : Rep K φ H d v) : ∀ {r : List (κ × D)} {l : List (κ × V)}, RepK K φ H r l → RepK K φ H (r.map fun kv => if kv.1 = k then (kv.1, d) else kv) (l.map fun kv => if kv.1 = k then (kv.1, v) else kv)
  | [], _, h => by
    have h : _ = [] := h
    rw [h]; rfl
  | (x, e) :: r, _, ⟨w, l', q, h1, h2⟩ => by
    rw [q, List.map_cons, List.map_cons]
    by_cases z : x = k
    · rw [if_pos z, if_pos z]; exact ⟨v, _, rfl, hd, RepK.map hd h2⟩
    · rw [if_neg z, if_neg z]; exact ⟨w, _, rfl, h1, RepK.map hd h2⟩
theorem RepK.put {k : κ} {d : D} {v : V} {r : List (κ × D)} {l : List (κ × V)} (h : RepK K φ H r l) (hd : Rep K φ H d v) : RepK K φ H (putD r k d) (putK l k v) := by
  unfold putD putK
  rw [h.any]
  split
  · exact RepK.map hd h
  · exact h.app ⟨v, [], rfl, hd, rfl⟩
theorem RepK.drop {k : κ} : ∀ {r : List (κ × D)} {l : List (κ × V)}, RepK K φ H r l → RepK K φ H (dropD r k) (dropK l k)
  | [], _, h => by
    have h : _ = [] := h
    rw [h]; rfl
  | (x, d) :: r, _, ⟨v, l', e, h1, h2⟩ => by
    rw [e]
    unfold dropD dropK
    by_cases q : x = k
    · rw [List.filter_cons_of_neg (by simp [q]), List.filter_cons_of_neg (by simp [q])]; exact RepK.drop h2
    · rw [List.filter_cons_of_pos (by simp [q]), List.filter_cons_of_pos (by simp [q])]; exact ⟨v, _, rfl, h1, RepK.drop h2⟩
end
/-- an attribute is stored -/
def putFD (f : Str) (d : D) : List (Str × D) → List (Str × D)
  | [] => [(f, d)]
  | (g, x) :: r => if g = f then (g, d) :: r else (g, x) :: putFD f d r
theorem RepK.putF {K : Frg} {φ : Wd} {H : Hp} {f : Str} {d : D} {v : V} (hd : Rep K φ H d v) : ∀ {r : List (Str × D)} {l : List (Str × V)}, RepK K φ H r l → RepK K φ H (putFD f d r) (putF f v l)
  | [], _, h => by
    have h : _ = [] := h
    rw [h]; exact ⟨v, [], rfl, hd, rfl⟩
  | (g, x) :: r, _, ⟨w, l', e, h1, h2⟩ => by
    rw [e]
    simp only [putFD, L2.putF]
    by_cases q : g = f
    · rw [if_pos q, if_pos q]; exact ⟨v, _, rfl, hd, h2⟩
    · rw [if_neg q, if_neg q]; exact ⟨w, _, rfl, h1, RepK.putF hd h2⟩
theorem RepK.lookup {K : Frg} {φ : Wd} {H : Hp} {f : Str} : ∀ {r : List (Str × D)} {l : List (Str × V)}, RepK K φ H r l → (r.lookup f = none → l.lookup f = none) ∧ ∀ d, r.lookup f = some d → ∃ v, l.lookup f = some v ∧ Rep K φ H d v
  | [], _, h => by
    have h : _ = [] := h
    rw [h]; exact ⟨fun _ => rfl, (fun d e => nomatch e)⟩
  | (x, d) :: r, _, ⟨v, l', e, h1, h2⟩ => by
    rw [e]
    rw [List.lookup_cons, List.lookup_cons]
    cases q : f == x with
    | true => exact ⟨(fun z => nomatch z), fun d' e => ⟨v, rfl, Option.some.inj e ▸ h1⟩⟩
    | false => exact RepK.lookup h2
/-- an object of the arena -/
def RepO (K : Frg) (φ : Wd) (H : Hp) (a : Addr) : MO → Prop
  | .lst ds => ∃ xs, H a = some (.lst xs) ∧ RepL K φ H ds xs
  | .dic kvs => ∃ kv, H a = some (.dK kv) ∧ RepK K φ H kvs kv
  | .ins c fs => ∃ dx fv, H a = some (.ins (He.ga K c) dx fv) ∧ RepK K φ H fs fv
  | .ro ds => ∃ xs, Rd H a (.lst xs) ∧ RepL K φ H ds xs
theorem RepO.there {K : Frg} {φ : Wd} {H : Hp} {a : Addr} {mo : MO} (h : RepO K φ H a mo) : H a ≠ none := by
  cases mo with
  | lst ds => obtain ⟨_, e, _⟩ := h; rw [e]; simp
  | dic kvs => obtain ⟨_, e, _⟩ := h; rw [e]; simp
  | ins c fs => obtain ⟨_, _, e, _⟩ := h; rw [e]; simp
  | ro ds =>
    obtain ⟨_, e, _⟩ := h
    rcases e with e | ⟨o, e⟩ <;> (rw [e]; simp)
/-- the arena stands in H -/
structure Sto (K : Frg) (φ : Wd) (M : Mem) (H : Hp) : Prop where
  len : φ.ar.length = M.length
  nd : φ.ar.Nodup
  lk : ∀ a ∈ φ.lk, H a ≠ none
  ob : ∀ (i : Nat) (a : Addr) (mo : MO), φ.ar[i]? = some a → M[i]? = some mo → RepO K φ H a mo
theorem Sto.get {K : Frg} {φ : Wd} {M : Mem} {H : Hp} (S : Sto K φ M H) {i : Nat} {mo : MO} (h : M[i]? = some mo) : ∃ a, φ.ar[i]? = some a ∧ RepO K φ H a mo := by
  have hi := (List.getElem?_eq_some_iff.mp h).1
  have hj : i < φ.ar.length := by rw [S.len]; exact hi
  have e : φ.ar[i]? = some (φ.ar[i]'hj) := List.getElem?_eq_getElem hj
  exact ⟨_, e, S.ob i _ mo e h⟩
theorem Sto.mem {K : Frg} {φ : Wd} {M : Mem} {H : Hp} (S : Sto K φ M H) {a : Addr} (h : a ∈ φ.ar) : H a ≠ none := by
  obtain ⟨i, hi, e⟩ := List.mem_iff_getElem.mp h
  have hi' : i < M.length := by rw [← S.len]; exact hi
  exact (S.ob i a M[i] (by rw [List.getElem?_eq_getElem hi, e]) (List.getElem?_eq_getElem hi')).there
theorem Sto.fresh {K : Frg} {φ : Wd} {M : Mem} {H : Hp} (S : Sto K φ M H) {a : Addr} (h : H a = none) : φ.out a := ⟨fun hm => S.mem hm h, fun hm => S.lk a hm h⟩
/-- a new thing outside of the arena -/
theorem Grow.new {φ : Wd} {H : Hp} {p : Addr} {o : HO} (h : H p = none) : Grow φ H φ (upd H p o) := by
  refine ⟨⟨[], by simp, by simp⟩, rfl, fun a u e _ => ?_, fun a e => ?_⟩
  · rw [upd_ne (ne_of_none e h)]; exact e
  · by_cases q : a = p
    · rw [q]; exact h
    · rw [upd_ne q] at e; exact e
theorem RepO.mo {K : Frg} {φ φ' : Wd} {H H' : Hp} (g : Mo φ H φ' H') {a : Addr} {mo : MO} (h : RepO K φ H a mo) (e : H' a = H a) : RepO K φ' H' a mo := by
  cases mo with
  | lst ds => obtain ⟨xs, h1, h2⟩ := h; exact ⟨xs, by rw [e]; exact h1, RepL.mo g _ _ h2⟩
  | dic kvs => obtain ⟨kv, h1, h2⟩ := h; exact ⟨kv, by rw [e]; exact h1, RepK.mo g h2⟩
  | ins c fs => obtain ⟨dx, fv, h1, h2⟩ := h; exact ⟨dx, fv, by rw [e]; exact h1, RepK.mo g h2⟩
  | ro ds =>
    obtain ⟨xs, h1, h2⟩ := h
    refine ⟨xs, ?_, RepL.mo g _ _ h2⟩
    rcases h1 with h1 | ⟨o, h1⟩
    · exact .inl (by rw [e]; exact h1)
    · exact .inr ⟨o, by rw [e]; exact h1⟩
theorem RepO.grow {K : Frg} {φ φ' : Wd} {H H' : Hp} (g : Grow φ H φ' H') {a : Addr} {mo : MO} (h : RepO K φ H a mo) (e : H' a = H a) : RepO K φ' H' a mo := h.mo g.mo e
theorem Sto.new {K : Frg} {φ : Wd} {M : Mem} {H : Hp} (S : Sto K φ M H) {p : Addr} {o : HO} (h : H p = none) : Sto K φ M (upd H p o) :=
  ⟨S.len, S.nd, fun a ha z => by
    by_cases q : a = p
    · rw [q, upd_same] at z; cases z
    · rw [upd_ne q] at z; exact S.lk a ha z, fun i a mo e1 e2 => (S.ob i a mo e1 e2).grow (Grow.new h) (upd_ne fun z => by
    have q := S.mem (List.mem_of_getElem? e1)
    rw [z] at q; exact q h)⟩
/-- a new object of the arena -/
abbrev Wd.add (φ : Wd) (p : Addr) : Wd := ⟨φ.ar ++ [p], φ.lk⟩
theorem Grow.alloc {φ : Wd} {H : Hp} {p : Addr} {o : HO} (h : H p = none) : Grow φ H (φ.add p) (upd H p o) := by
  refine ⟨⟨[p], rfl, fun a ha => by rw [List.mem_singleton.mp ha]; exact h⟩, rfl, fun a u e _ => ?_, fun a e => ?_⟩
  · rw [upd_ne (ne_of_none e h)]; exact e
  · by_cases q : a = p
    · rw [q]; exact h
    · rw [upd_ne q] at e; exact e
theorem Sto.alloc {K : Frg} {φ : Wd} {M : Mem} {H : Hp} (S : Sto K φ M H) {p : Addr} {o : HO} {mo : MO} (h : H p = none) (r : RepO K (φ.add p) (upd H p o) p mo) : Sto K (φ.add p) (M ++ [mo]) (upd H p o) := by
  refine ⟨by simp [S.len], ?_, fun a ha z => ?_, fun i a m e1 e2 => ?_⟩
  · refine List.nodup_append.mpr ⟨S.nd, by simp, fun a ha b hb => ?_⟩
    have hb' := List.mem_singleton.mp hb
    intro z
    rw [z, hb'] at ha
    exact (S.fresh h).1 ha
  · by_cases q : a = p
    · rw [q, upd_same] at z; cases z
    · rw [upd_ne q] at z; exact S.lk a ha z
  · have e1 : (φ.ar ++ [p])[i]? = some a := e1
    by_cases hi : i < φ.ar.length
    · rw [List.getElem?_append_left hi] at e1
      rw [List.getElem?_append_left (by rw [← S.len]; exact hi)] at e2
      refine (S.ob i a m e1 e2).grow (Grow.alloc h) (upd_ne fun z => ?_)
      have q := S.mem (List.mem_of_getElem? e1)
      rw [z] at q; exact q h
    · rw [List.getElem?_append_right (by omega)] at e1
      rw [List.getElem?_append_right (by rw [← S.len]; omega), ← S.len] at e2
      cases hk : i - φ.ar.length with
      | zero =>
        rw [hk] at e1 e2
        simp at e1 e2
        subst e1; subst e2
        exact r
      | succ k => rw [hk] at e1; simp at e1
/-- an object of the arena is changed -/
theorem Grow.put {φ : Wd} {H : Hp} {p : Addr} {o : HO} (h : p ∈ φ.ar) : Grow φ H φ (upd H p o) := by
  refine ⟨⟨[], by simp, by simp⟩, rfl, fun a u e n => ?_, fun a e => ?_⟩
  · have np : a ≠ p := fun z => n (by rw [z]; exact h)
    rw [upd_ne np]; exact e
  · by_cases q : a = p
    · rw [q, upd_same] at e; cases e
    · rw [upd_ne q] at e; exact e
theorem Sto.put {K : Frg} {φ : Wd} {M : Mem} {H : Hp} (S : Sto K φ M H) {i : Nat} {p : Addr} {o : HO} {mo : MO} (h : φ.ar[i]? = some p) (r : RepO K φ (upd H p o) p mo) : Sto K φ (M.set i mo) (upd H p o) := by
  refine ⟨by simp [S.len], S.nd, fun a ha z => ?_, fun j a m e1 e2 => ?_⟩
  · by_cases q : a = p
    · rw [q, upd_same] at z; cases z
    · rw [upd_ne q] at z; exact S.lk a ha z
  by_cases q : j = i
  · subst q
    rw [h] at e1; cases e1
    have hl : j < M.length := by rw [← S.len]; exact (List.getElem?_eq_some_iff.mp h).1
    rw [List.getElem?_set_self hl] at e2; cases e2
    exact r
  · rw [List.getElem?_set_ne (fun z => q z.symm)] at e2
    refine (S.ob j a m e1 e2).grow (Grow.put (List.mem_of_getElem? h)) (upd_ne fun z => ?_)
    subst z
    have hj := List.getElem?_eq_some_iff.mp e1
    have hi := List.getElem?_eq_some_iff.mp h
    exact q ((List.getElem_inj S.nd).mp (hj.2.trans hi.2.symm))

/-- the slots stand for the names' data -/
structure EnvR (K : Frg) (φ : Wd) (H : Hp) (r : Env') (σ : L2.St) : Prop where
  len : r.length = σ.length
  at_ : ∀ (i : Nat) (d : D), r[i]? = some (some d) → ∃ v, σ[i]? = some (some v) ∧ Rep K φ H d v
theorem EnvR.grow {K : Frg} {φ φ' : Wd} {H H' : Hp} {r : Env'} {σ : L2.St} (g : Grow φ H φ' H') (h : EnvR K φ H r σ) : EnvR K φ' H' r σ :=
  ⟨h.len, fun i d e => let ⟨v, e1, e2⟩ := h.at_ i d e; ⟨v, e1, Rep.grow g d v e2⟩⟩
theorem EnvR.set {K : Frg} {φ : Wd} {H : Hp} {r : Env'} {σ : L2.St} (h : EnvR K φ H r σ) {i : Nat} {d : D} {v : V} (k : Rep K φ H d v) : EnvR K φ H (r.set i (some d)) (σ.set i (some v)) := by
  refine ⟨by simp [h.len], fun j e ej => ?_⟩
  by_cases q : j = i
  · subst q
    by_cases hl : j < r.length
    · rw [List.getElem?_set_self hl] at ej; cases ej
      exact ⟨v, List.getElem?_set_self (by rw [← h.len]; exact hl), k⟩
    · rw [List.getElem?_eq_none (by simp; omega)] at ej; cases ej
  · rw [List.getElem?_set_ne (fun z => q z.symm)] at ej ⊢
    exact h.at_ j e ej
theorem EnvR.unset {K : Frg} {φ : Wd} {H : Hp} {r : Env'} {σ : L2.St} (h : EnvR K φ H r σ) {i : Nat} : EnvR K φ H (r.set i none) (σ.set i none) := by
  refine ⟨by simp [h.len], fun j e ej => ?_⟩
  by_cases q : j = i
  · subst q
    by_cases hl : j < r.length
    · rw [List.getElem?_set_self hl] at ej; cases ej
    · rw [List.getElem?_eq_none (by simp; omega)] at ej; cases ej
  · rw [List.getElem?_set_ne (fun z => q z.symm)] at ej ⊢
    exact h.at_ j e ej
theorem EnvR.start {K : Frg} {φ : Wd} {H : Hp} {ds : List D} {vs : List V} (N : List Str) (h : RepL K φ H ds vs) :
    EnvR K φ H (ds.map some ++ List.replicate (N.length - ds.length) none) (L2.start N vs) := by
  unfold L2.start
  rw [h.len]
  refine ⟨by simp [h.len], fun i d e => ?_⟩
  by_cases hi : i < ds.length
  · rw [List.getElem?_append_left (by simpa using hi), List.getElem?_map] at e
    cases q : ds[i]? with
    | none => rw [q] at e; cases e
    | some x =>
      rw [q] at e; cases e
      obtain ⟨v, e1, e2⟩ := h.get q
      exact ⟨v, by rw [List.getElem?_append_left (by simpa [h.len] using hi), List.getElem?_map, e1]; rfl, e2⟩
  · rw [List.getElem?_append_right (by simpa using hi), List.getElem?_replicate] at e
    split at e <;> cases e

/-! ### a place under construction -/
abbrev Wd.lock (φ : Wd) (p : Addr) : Wd := ⟨φ.ar, p :: φ.lk⟩
theorem Mo.lock {φ : Wd} {H : Hp} {p : Addr} {o : HO} (h : H p = none) : Mo φ H (φ.lock p) (upd H p o) :=
  ⟨fun a u n e => ⟨⟨n.1, fun z => (List.mem_cons.mp z).elim (fun q => ne_of_none e h q) n.2⟩, by rw [upd_ne (ne_of_none e h)]; exact e⟩, fun _ _ e => e⟩
theorem Mo.unlock {φ : Wd} {H : Hp} {p : Addr} : Mo (φ.lock p) H φ H := ⟨fun a u n e => ⟨⟨n.1, fun z => n.2 (List.mem_cons_of_mem _ z)⟩, e⟩, fun _ _ e => e⟩
theorem Mo.relock {φ : Wd} {H : Hp} {p : Addr} {o : HO} (hp : p ∈ φ.lk) : Mo φ H φ (upd H p o) :=
  ⟨fun a u n e => ⟨n, by rw [upd_ne (fun z => n.2 (by rw [z]; exact hp))]; exact e⟩, fun _ _ e => e⟩
theorem Sto.lock {K : Frg} {φ : Wd} {M : Mem} {H : Hp} {p : Addr} {o : HO} (S : Sto K φ M H) (h : H p = none) : Sto K (φ.lock p) M (upd H p o) := by
  refine ⟨S.len, S.nd, fun a ha z => ?_, fun i a mo e1 e2 => (S.ob i a mo e1 e2).mo (Mo.lock h) (upd_ne fun z => ?_)⟩
  · by_cases q : a = p
    · rw [q, upd_same] at z; cases z
    · rw [upd_ne q] at z
      rcases List.mem_cons.mp ha with w | w
      · exact q w
      · exact S.lk a w z
  · have q := S.mem (List.mem_of_getElem? e1)
    rw [z] at q; exact q h
theorem Sto.unlock {K : Frg} {φ : Wd} {M : Mem} {H : Hp} {p : Addr} (S : Sto K (φ.lock p) M H) : Sto K φ M H :=
  ⟨S.len, S.nd, fun a ha => S.lk a (List.mem_cons_of_mem _ ha), fun i a mo e1 e2 => (S.ob i a mo e1 e2).mo Mo.unlock rfl⟩
theorem Sto.relock {K : Frg} {φ : Wd} {M : Mem} {H : Hp} {p : Addr} {o : HO} (S : Sto K φ M H) (hp : p ∈ φ.lk) (na : p ∉ φ.ar) : Sto K φ M (upd H p o) := by
  refine ⟨S.len, S.nd, fun a ha z => ?_, fun i a mo e1 e2 => (S.ob i a mo e1 e2).mo (Mo.relock hp) (upd_ne fun z => na (z ▸ List.mem_of_getElem? e1))⟩
  by_cases q : a = p
  · rw [q, upd_same] at z; cases z
  · rw [upd_ne q] at z; exact S.lk a ha z
theorem EnvR.mo {K : Frg} {φ φ' : Wd} {H H' : Hp} {r : Env'} {σ : L2.St} (g : Mo φ H φ' H') (h : EnvR K φ H r σ) : EnvR K φ' H' r σ :=
  ⟨h.len, fun i d e => let ⟨v, e1, e2⟩ := h.at_ i d e; ⟨v, e1, Rep.mo g d v e2⟩⟩
end LF
set_option Elab.async false
set_option linter.all false
set_option maxRecDepth 100000
set_option maxHeartbeats 2000000
/-! LF2: what a construct does on plain data; the judgements; names, constants, operators, tests, displays, statements. -/
namespace LF
open PySem PySem.Spec PyProof.Rows L2

/-- a raised exception: its class by name, its fields -/
structure Exn where
  c : Str
  ns : List Str
  ds : List D
inductive Out (α : Type) where
  | ok (a : α) (M : Mem) | ex (e : Exn) (M : Mem) | no
/-- a statement's end -/
inductive SO where
  | nx (r : Env') (M : Mem) | rt (d : D) (M : Mem) | bk (r : Env') (M : Mem) | ct (r : Env') (M : Mem) | ex (e : Exn) (r : Env') (M : Mem) | no
def Out.bind {α β : Type} (o : Out α) (f : α → Mem → Out β) : Out β := match o with
  | .ok a M => f a M
  | .ex e M => .ex e M
  | .no => .no
def Out.bindS {α : Type} (o : Out α) (r : Env') (f : α → Mem → SO) : SO := match o with
  | .ok a M => f a M
  | .ex e M => .ex e r M
  | .no => .no
def liftO {α : Type} (o : Option α) (M : Mem) : Out α := match o with
  | some a => .ok a M
  | none => .no
abbrev DE := Env' → Mem → Out D
abbrev DT := Env' → Mem → Out Bool
abbrev DA := Env' → Mem → Out (List D)
abbrev DS := Env' → Mem → SO
abbrev DG := D → Env' → Mem → Out Env'
abbrev F1 := D → Mem → Out D
abbrev F2 := D → D → Mem → Out D
abbrev FN := List D → Mem → Out D
/-- an exception's own dict -/
def XF (K : Frg) (φ : Wd) (H : Hp) (ns : List Str) (ds : List D) (dd : Option Addr) : Prop := ∃ fv : List (Str × V), ((dd = none ∧ fv = []) ∨ ∃ d, dd = some d ∧ φ.out d ∧ H d = some (.xd fv)) ∧ fv.map (·.1) = ns ∧ RepL K φ H ds (fv.map (·.2))
def RepX (K : Frg) (φ : Wd) (H : Hp) (e : Exn) (cls : Value) (dd : Option Addr) : Prop := cls = .ref (He.ga K e.c) ∧ XF K φ H e.ns e.ds dd
theorem XF.mo {K : Frg} {φ φ' : Wd} {H H' : Hp} (g : Mo φ H φ' H') {ns : List Str} {ds : List D} {dd : Option Addr} (h : XF K φ H ns ds dd) : XF K φ' H' ns ds dd := by
  obtain ⟨fv, h1, h2, h3⟩ := h
  refine ⟨fv, ?_, h2, RepL.mo g _ _ h3⟩
  rcases h1 with h1 | ⟨d, h4, h5, h6⟩
  · exact .inl h1
  · exact .inr ⟨d, h4, (g.out _ _ h5 h6).1, (g.out _ _ h5 h6).2⟩
theorem RepX.mo {K : Frg} {φ φ' : Wd} {H H' : Hp} (g : Mo φ H φ' H') {e : Exn} {cls : Value} {dd : Option Addr} (h : RepX K φ H e cls dd) : RepX K φ' H' e cls dd := ⟨h.1, h.2.mo g⟩

/-- an outcome meets what is wanted -/
def Okd {α β : Type} (K : Frg) (φ : Wd) (H : Hp) (R : Wd → Hp → α → β → Prop) (o : Out α) (Q : β → Hp → Prop) (W : XK) : Prop := match o with
  | .ok a M => ∀ b φ' H', Grow φ H φ' H' → Sto K φ' M H' → R φ' H' a b → Q b H'
  | .ex e M => ∀ cls dd φ' H', Grow φ H φ' H' → Sto K φ' M H' → RepX K φ' H' e cls dd → W cls dd H'
  | .no => False
def OkS (K : Frg) (φ : Wd) (H : Hp) (o : SO) (E : Ends) (W : WX) : Prop := match o with
  | .nx r M => ∀ σ' φ' H', Grow φ H φ' H' → Sto K φ' M H' → EnvR K φ' H' r σ' → E.nx σ' H'
  | .rt d M => ∀ v φ' H', Grow φ H φ' H' → Sto K φ' M H' → Rep K φ' H' d v → E.rt v H'
  | .bk r M => ∀ σ' φ' H', Grow φ H φ' H' → Sto K φ' M H' → EnvR K φ' H' r σ' → E.bk σ' H'
  | .ct r M => ∀ σ' φ' H', Grow φ H φ' H' → Sto K φ' M H' → EnvR K φ' H' r σ' → E.ct σ' H'
  | .ex e r M => ∀ cls dd σ' φ' H', Grow φ H φ' H' → Sto K φ' M H' → EnvR K φ' H' r σ' → RepX K φ' H' e cls dd → W cls dd σ' H'
  | .no => False
abbrev RE (K : Frg) : Wd → Hp → D → V → Prop := fun φ H d v => Rep K φ H d v
abbrev RT : Wd → Hp → Bool → Bool → Prop := fun _ _ a b => b = a
abbrev RA (K : Frg) : Wd → Hp → List D → List V → Prop := fun φ H d v => RepL K φ H d v
section
variable {K : Frg} {φ φ1 : Wd} {H H1 : Hp} {α β γ δ : Type} {R1 : Wd → Hp → α → γ → Prop} {R2 : Wd → Hp → β → δ → Prop} {Q : δ → Hp → Prop} {Q1 : γ → Hp → Prop} {W : XK}
theorem Okd.grow {o : Out β} (g : Grow φ H φ1 H1) (h : Okd K φ H R2 o Q W) : Okd K φ1 H1 R2 o Q W := by
  cases o with
  | ok a M => exact fun b φ' H' g' => h b φ' H' (g.trans g')
  | ex e M => exact fun c d φ' H' g' => h c d φ' H' (g.trans g')
  | no => exact h
theorem Okd.bind {o : Out α} {f : α → Mem → Out β} (h : Okd K φ H R2 (o.bind f) Q W)
    (k : ∀ a M1 b φ1 H1, o = .ok a M1 → Grow φ H φ1 H1 → Sto K φ1 M1 H1 → R1 φ1 H1 a b → Okd K φ1 H1 R2 (f a M1) Q W → Q1 b H1) : Okd K φ H R1 o Q1 W := by
  cases o with
  | ok a M => exact fun b φ' H' g S r => k a M b φ' H' rfl g S r (Okd.grow g h)
  | ex e M => exact h
  | no => exact h
/-- nothing changes -/
theorem Okd.here {M : Mem} {b : β} {v : δ} (S : Sto K φ M H) (r : R2 φ H b v) (h : Okd K φ H R2 (.ok b M) Q W) : Q v H := h v φ H Grow.refl S r
end
section
variable {K : Frg} {φ φ1 : Wd} {H H1 : Hp} {E : Ends} {W : WX}
theorem OkS.grow {o : SO} (g : Grow φ H φ1 H1) (h : OkS K φ H o E W) : OkS K φ1 H1 o E W := by
  cases o with
  | nx r M => exact fun b φ' H' g' => h b φ' H' (g.trans g')
  | rt r M => exact fun b φ' H' g' => h b φ' H' (g.trans g')
  | bk r M => exact fun b φ' H' g' => h b φ' H' (g.trans g')
  | ct r M => exact fun b φ' H' g' => h b φ' H' (g.trans g')
  | ex e r M => exact fun c d s φ' H' g' => h c d s φ' H' (g.trans g')
  | no => exact h
theorem OkS.bind {α γ : Type} {R1 : Wd → Hp → α → γ → Prop} {Q1 : γ → Hp → Prop} {o : Out α} {r : Env'} {σ : L2.St} {f : α → Mem → SO} (er : EnvR K φ H r σ) (h : OkS K φ H (o.bindS r f) E W)
    (k : ∀ a M1 b φ1 H1, o = .ok a M1 → Grow φ H φ1 H1 → Sto K φ1 M1 H1 → R1 φ1 H1 a b → OkS K φ1 H1 (f a M1) E W → Q1 b H1) : Okd K φ H R1 o Q1 (fun c d H' => W c d σ H') := by
  cases o with
  | ok a M => exact fun b φ' H' g S r => k a M b φ' H' rfl g S r (OkS.grow g h)
  | ex e M => exact fun c d φ' H' g S x => h c d σ φ' H' g S (er.grow g) x
  | no => exact h
end

/-! ### the judgements -/
def SimE (K : Frg) (W : WX) (te : TE) (de : DE) : Prop := ∀ φ M H σ r Q, Sto K φ M H → EnvR K φ H r σ → Okd K φ H (RE K) (de r M) Q (fun c d H' => W c d σ H') → te σ H Q
def SimT (K : Frg) (W : WX) (te : TT) (de : DT) : Prop := ∀ φ M H σ r Q, Sto K φ M H → EnvR K φ H r σ → Okd K φ H RT (de r M) Q (fun c d H' => W c d σ H') → te σ H Q
def SimA (K : Frg) (W : WX) (te : TA) (de : DA) : Prop := ∀ φ M H σ r Q, Sto K φ M H → EnvR K φ H r σ → Okd K φ H (RA K) (de r M) Q (fun c d H' => W c d σ H') → te σ H Q
def SimS (K : Frg) (W : WX) (ts : TS) (ds : DS) : Prop := ∀ φ M H σ r E, Sto K φ M H → EnvR K φ H r σ → OkS K φ H (ds r M) E W → ts E σ H
def SimG (K : Frg) (W : WX) (g : TG) (dg : DG) : Prop := ∀ φ M H σ r x d Q, Sto K φ M H → EnvR K φ H r σ → Rep K φ H d x → (match dg d r M with
  | .ok r1 M1 => ∀ σ' φ' H', Grow φ H φ' H' → Sto K φ' M1 H' → EnvR K φ' H' r1 σ' → Q σ' H'
  | _ => False) → g x σ H Q
def SimGs (K : Frg) (W : WX) (g : TGs) (dg : List D → Env' → Mem → Out Env') : Prop := ∀ φ M H σ r xs ds Q, Sto K φ M H → EnvR K φ H r σ → RepL K φ H ds xs → (match dg ds r M with
  | .ok r1 M1 => ∀ σ' φ' H', Grow φ H φ' H' → Sto K φ' M1 H' → EnvR K φ' H' r1 σ' → Q σ' H'
  | _ => False) → g xs σ H Q
/-- by values -/
def Op1 (K : Frg) (r : V → Hp → VK → Prop) (f : F1) : Prop := ∀ φ M H x a Q W, Sto K φ M H → Rep K φ H a x → Okd K φ H (RE K) (f a M) Q W → r x H Q
def Op2 (K : Frg) (r : R2) (f : F2) : Prop := ∀ φ M H x y a b Q W, Sto K φ M H → Rep K φ H a x → Rep K φ H b y → Okd K φ H (RE K) (f a b M) Q W → r x y H Q
def OpN (K : Frg) (r : List V → Hp → VK → Prop) (f : FN) : Prop := ∀ φ M H xs ds Q W, Sto K φ M H → RepL K φ H ds xs → Okd K φ H (RE K) (f ds M) Q W → r xs H Q
def OpTr (K : Frg) (r : V → Hp → (Bool → Hp → Prop) → Prop) (f : D → Mem → Out Bool) : Prop := ∀ φ M H x a Q W, Sto K φ M H → Rep K φ H a x → Okd K φ H RT (f a M) Q W → r x H Q

def DEx (X : Cx) (W : WX) (e : Expr) (de : DE) : Prop := ∃ te, PE X e te ∧ SimE X.K W te de
def DTx (X : Cx) (W : WX) (e : Expr) (de : DT) : Prop := ∃ te, PT X e te ∧ SimT X.K W te de
def DWx (X : Cx) (W : WX) (e : Expr) (de : DT) : Prop := ∃ te, PW X e te ∧ SimT X.K W te de
def DAx (X : Cx) (W : WX) (es : List Expr) (de : DA) : Prop := ∃ te, PA X es te ∧ SimA X.K W te de
def DSx (X : Cx) (W : WX) (st : Stmt) (ds : DS) : Prop := ∃ ts, PS X st ts ∧ SimS X.K W ts ds
def DBx (X : Cx) (W : WX) (st : List Stmt) (ds : DS) : Prop := ∃ ts, PSs X st ts ∧ SimS X.K W ts ds
def DGx (X : Cx) (W : WX) (tg : Expr) (dg : DG) : Prop := ∃ g, PG X tg g ∧ SimG X.K W g dg
def DGsx (X : Cx) (W : WX) (tg : List Expr) (dg : List D → Env' → Mem → Out Env') : Prop := ∃ g, PGs X tg g ∧ SimGs X.K W g dg

/-! ### names and constants -/
def dVar (i : Nat) : DE := fun r M => match r[i]? with
  | some (some d) => .ok d M
  | _ => .no
def dC (d : D) : DE := fun _ M => .ok d M
section
variable {X : Cx} {W : WX} {pos : Pos}
theorem sim_var {K : Frg} {W : WX} {i : Nat} : SimE K W (tVar i) (dVar i) := by
  intro φ M H σ r Q S E h
  unfold dVar at h
  split at h
  · rename_i d e
    obtain ⟨v, e1, e2⟩ := E.at_ i d e
    exact ⟨v, e1, h.here S e2⟩
  · exact h.elim
theorem de_var {i : Nat} {x : Str} (hN : X.N[i]? = some x) (hv : Vis X.env.scope x) (hd : (x == ("__debug__" : Str)) = false := by decide) (hcd : (x == ("__classdict__" : Str)) = false := by decide) : DEx X W (.Name x pos) (dVar i) :=
  ⟨_, pe_var hN hv hd hcd, sim_var⟩
theorem sim_c {K : Frg} {v : V} {d : D} (h : ∀ φ H, Rep K φ H d v) : SimE K W (tC v) (dC d) := fun φ M H σ r Q S E k => k.here S (h φ H)
theorem de_int {i : Int} {j} : DEx X W (.Constant (.int i) j pos) (dC (.int i)) := ⟨_, pe_int, sim_c fun _ _ => by unfold Rep; rfl⟩
theorem de_bl {b : Bool} {j} : DEx X W (.Constant (.bool b) j pos) (dC (.bl b)) := ⟨_, pe_bl, sim_c fun _ _ => by unfold Rep; rfl⟩
theorem de_non {j} : DEx X W (.Constant .none j pos) (dC .non) := ⟨_, pe_non, sim_c fun _ _ => by unfold Rep; rfl⟩
theorem de_str {x : Str} {j} : DEx X W (.Constant (.str x) j pos) (dC (.str x)) := ⟨_, pe_str, sim_c fun _ _ => by unfold Rep; rfl⟩
/-- a module's constant -/
theorem de_gint {x : Str} {i : Int} (hg : Gl X x) (hm : ∃ t, X.mg x = some (.int i t)) (hd : (x == ("__debug__" : Str)) = false := by decide) : DEx X W (.Name x pos) (dC (.int i)) := by
  obtain ⟨t, hm⟩ := hm
  exact ⟨_, pe_glob (v := .int i) hg hm ⟨t, rfl⟩ hd, sim_c fun _ _ => by unfold Rep; rfl⟩
theorem de_gstr {x z : Str} (hg : Gl X x) (hm : ∃ t, X.mg x = some (.str z t)) (hd : (x == ("__debug__" : Str)) = false := by decide) : DEx X W (.Name x pos) (dC (.str z)) := by
  obtain ⟨t, hm⟩ := hm
  exact ⟨_, pe_glob (v := .str z) hg hm ⟨t, rfl⟩ hd, sim_c fun _ _ => by unfold Rep; rfl⟩

/-! ### operators, comparisons -/
def dBin (f : F2) (da db : DE) : DE := fun r M => (da r M).bind fun x M1 => (db r M1).bind fun y M2 => f x y M2
def dUn (f : F1) (da : DE) : DE := fun r M => (da r M).bind fun x M1 => f x M1
theorem sim_op {K : Frg} {r2 : R2} {f : F2} {ta tb : TE} {da db : DE} (ho : Op2 K r2 f) (ha : SimE K W ta da) (hb : SimE K W tb db) : SimE K W (tOp r2 ta tb) (dBin f da db) := by
  intro φ M H σ r Q S E h
  refine ha φ M H σ r _ S E (Okd.bind h fun a M1 x φ1 H1 _ g1 S1 r1 h1 => ?_)
  refine hb φ1 M1 H1 σ r _ S1 (E.grow g1) (Okd.bind h1 fun b M2 y φ2 H2 _ g2 S2 r2 h2 => ?_)
  exact ho φ2 M2 H2 x y a b Q _ S2 (Rep.grow g2 _ _ r1) r2 h2
variable {a b c : Expr} {da db dc : DE} {ta' tb' : DT}
theorem de_bin {op : Operator} {r2 : R2} {f : F2} (h1 : OpR X (binaryOp op) r2) (ho : Op2 X.K r2 f) (ha : DEx X W a da) (hb : DEx X W b db) : DEx X W (.BinOp a op b pos) (dBin f da db) := by
  obtain ⟨_, p1, s1⟩ := ha
  obtain ⟨_, p2, s2⟩ := hb
  exact ⟨_, pe_op h1 p1 p2, sim_op ho s1 s2⟩
theorem de_un {op : UnaryOp} {r1 : V → Hp → VK → Prop} {f : F1} (h1 : UnR X (unaryOp op) r1) (ho : Op1 X.K r1 f) (ha : DEx X W a da) : DEx X W (.UnaryOp op a pos) (dUn f da) := by
  obtain ⟨_, p1, s1⟩ := ha
  refine ⟨_, pe_un h1 p1, fun φ M H σ r Q S E h => ?_⟩
  refine s1 φ M H σ r _ S E (Okd.bind h fun a M1 x φ1 H1 _ g1 S1 r1 h1 => ?_)
  exact ho φ1 M1 H1 x a Q _ S1 r1 h1
theorem de_cmp {op : CmpOp} {r2 : R2} {f : F2} (h1 : OpR X (compareOp op) r2) (ho : Op2 X.K r2 f) (ha : DEx X W a da) (hb : DEx X W b db) (hm : behindInMarks op b = false := by first | exact nomark _ | rfl) : DEx X W (.Compare a [op] [b] pos) (dBin f da db) := by
  obtain ⟨_, p1, s1⟩ := ha
  obtain ⟨_, p2, s2⟩ := hb
  exact ⟨_, pe_cmpR h1 p1 p2 hm, sim_op ho s1 s2⟩
/-- a value that is True or False, as a test -/
def dTest (da : DE) : DT := fun r M => (da r M).bind fun x M1 => match x with
  | .bl b => .ok b M1
  | _ => .no
theorem sim_test {K : Frg} {ta : TE} (ha : SimE K W ta da) : SimT K W (tTest ta) (dTest da) := by
  intro φ M H σ r Q S E h
  refine ha φ M H σ r _ S E (Okd.bind h fun a M1 x φ1 H1 _ g1 S1 r1 h1 => ?_)
  cases a with
  | bl b =>
    unfold Rep at r1
    exact ⟨b, r1, h1.here S1 rfl⟩
  | _ => exact h1.elim
theorem dt_cmp {op : CmpOp} {r2 : R2} {f : F2} (h1 : OpR X (compareOp op) r2) (ho : Op2 X.K r2 f) (ha : DEx X W a da) (hb : DEx X W b db) (hm : behindInMarks op b = false := by first | exact nomark _ | rfl) : DTx X W (.Compare a [op] [b] pos) (dTest (dBin f da db)) := by
  obtain ⟨_, p1, s1⟩ := ha
  obtain ⟨_, p2, s2⟩ := hb
  exact ⟨_, pt_cmpR h1 p1 p2 hm, sim_test (sim_op ho s1 s2)⟩
theorem dt_val (ha : DEx X W a da) (he : ∀ whole, isTrue a X.env whole = (do let v ← whole; standAt a.pos; holding [v] (truthy v)) := by intro _; rfl) : DTx X W a (dTest da) := by
  obtain ⟨_, p1, s1⟩ := ha
  exact ⟨_, pt_val p1 he, sim_test s1⟩
/-- a < b < c -/
def dChain (f f' : F2) (da db dc : DE) : DE := fun r M => (da r M).bind fun x M1 => (db r M1).bind fun y M2 => (f x y M2).bind fun z M3 => match z with
  | .bl true => (dc r M3).bind fun w M4 => f' y w M4
  | .bl false => .ok (.bl false) M3
  | _ => .no
end
end LF
set_option Elab.async false
set_option linter.all false
set_option maxRecDepth 100000
set_option maxHeartbeats 2000000
/-! LF3: chains, and, or, not, conditional expressions, displays, calls, statements. -/
namespace LF
open PySem PySem.Spec PyProof.Rows L2
section
variable {X : Cx} {W : WX} {pos : Pos} {a b c : Expr} {da db dc : DE} {ta' tb' : DT} {rest : List Expr}
theorem sim_chain {K : Frg} {r2 r2' : R2} {f f' : F2} {ta tb tc : TE} (ho : Op2 K r2 f) (ho' : Op2 K r2' f') (ha : SimE K W ta da) (hb : SimE K W tb db) (hc : SimE K W tc dc) : SimE K W (tChain r2 r2' ta tb tc) (dChain f f' da db dc) := by
  intro φ M H σ r Q S E h
  refine ha φ M H σ r _ S E (Okd.bind h fun a M1 x φ1 H1 _ g1 S1 r1 h1 => ?_)
  refine hb φ1 M1 H1 σ r _ S1 (E.grow g1) (Okd.bind h1 fun b M2 y φ2 H2 _ g2 S2 r2 h2 => ?_)
  refine ho φ2 M2 H2 x y a b _ _ S2 (Rep.grow g2 _ _ r1) r2 (Okd.bind h2 fun z M3 v φ3 H3 _ g3 S3 r3 h3 => ?_)
  cases z with
  | bl k =>
    unfold Rep at r3
    refine ⟨k, r3, ?_⟩
    cases k with
    | true =>
      rw [if_pos rfl]
      refine hc φ3 M3 H3 σ r _ S3 ((E.grow g1).grow (g2.trans g3)) (Okd.bind h3 fun w M4 u φ4 H4 _ g4 S4 r4 h4 => ?_)
      exact ho' φ4 M4 H4 y u b w Q _ S4 (Rep.grow (g3.trans g4) _ _ r2) r4 h4
    | false =>
      rw [if_neg Bool.false_ne_true]
      exact h3.here S3 (by show Rep _ _ _ _ _; unfold Rep; rfl)
  | _ => exact h3.elim
theorem de_chain {op op' : CmpOp} {r2 r2' : R2} {f f' : F2} (h1 : OpR X (compareOp op) r2) (ho : Op2 X.K r2 f) (h2 : OpR X (compareOp op') r2') (ho' : Op2 X.K r2' f') (ha : DEx X W a da) (hb : DEx X W b db) (hc : DEx X W c dc)
    (hm : lastMarks [op, op'] [b, c] = false := by with_unfolding_all rfl) : DEx X W (.Compare a [op, op'] [b, c] pos) (dChain f f' da db dc) := by
  obtain ⟨_, p1, s1⟩ := ha
  obtain ⟨_, p2, s2⟩ := hb
  obtain ⟨_, p3, s3⟩ := hc
  exact ⟨_, pe_chain h1 h2 p1 p2 p3 hm, sim_chain ho ho' s1 s2 s3⟩
theorem dt_chain {op op' : CmpOp} {r2 r2' : R2} {f f' : F2} (h1 : OpR X (compareOp op) r2) (ho : Op2 X.K r2 f) (h2 : OpR X (compareOp op') r2') (ho' : Op2 X.K r2' f') (ha : DEx X W a da) (hb : DEx X W b db) (hc : DEx X W c dc)
    (hm : lastMarks [op, op'] [b, c] = false := by with_unfolding_all rfl) : DTx X W (.Compare a [op, op'] [b, c] pos) (dTest (dChain f f' da db dc)) := by
  obtain ⟨_, p1, s1⟩ := ha
  obtain ⟨_, p2, s2⟩ := hb
  obtain ⟨_, p3, s3⟩ := hc
  exact ⟨_, pt_chain h1 h2 p1 p2 p3 hm, sim_test (sim_chain ho ho' s1 s2 s3)⟩
/-! ### and, or, not as tests -/
def dAnd (t u : DT) : DT := fun r M => (t r M).bind fun b M1 => match b with
  | true => u r M1
  | false => .ok false M1
def dOr (t u : DT) : DT := fun r M => (t r M).bind fun b M1 => match b with
  | true => .ok true M1
  | false => u r M1
def dNot (t : DT) : DT := fun r M => (t r M).bind fun b M1 => .ok (!b) M1
theorem sim_and {K : Frg} {t u : TT} {dt du : DT} (ha : SimT K W t dt) (hb : SimT K W u du) : SimT K W (tAnd t u) (dAnd dt du) := by
  intro φ M H σ r Q S E h
  refine ha φ M H σ r _ S E (Okd.bind h fun b M1 x φ1 H1 _ g1 S1 r1 h1 => ?_)
  have e : x = b := r1
  subst e
  cases x with
  | true => rw [if_pos rfl]; exact hb φ1 M1 H1 σ r _ S1 (E.grow g1) h1
  | false => rw [if_neg Bool.false_ne_true]; exact h1.here S1 rfl
theorem sim_or {K : Frg} {t u : TT} {dt du : DT} (ha : SimT K W t dt) (hb : SimT K W u du) : SimT K W (tOr t u) (dOr dt du) := by
  intro φ M H σ r Q S E h
  refine ha φ M H σ r _ S E (Okd.bind h fun b M1 x φ1 H1 _ g1 S1 r1 h1 => ?_)
  have e : x = b := r1
  subst e
  cases x with
  | true => rw [if_pos rfl]; exact h1.here S1 rfl
  | false => rw [if_neg Bool.false_ne_true]; exact hb φ1 M1 H1 σ r _ S1 (E.grow g1) h1
theorem dt_w (h : DWx X W a ta') : DTx X W a ta' := let ⟨_, p, s⟩ := h; ⟨_, p.pt, s⟩
theorem dw_and1 (ha : DTx X W a ta') : DWx X W (.BoolOp .And [a] pos) ta' := let ⟨_, p, s⟩ := ha; ⟨_, pw_and1 p, s⟩
theorem dw_or1 (ha : DTx X W a ta') : DWx X W (.BoolOp .Or [a] pos) ta' := let ⟨_, p, s⟩ := ha; ⟨_, pw_or1 p, s⟩
theorem dw_and (ha : DTx X W a ta') (hb : DWx X W (.BoolOp .And (b :: rest) pos) tb') : DWx X W (.BoolOp .And (a :: b :: rest) pos) (dAnd ta' tb') := by
  obtain ⟨_, p1, s1⟩ := ha
  obtain ⟨_, p2, s2⟩ := hb
  exact ⟨_, pw_and p1 p2, sim_and s1 s2⟩
theorem dw_or (ha : DTx X W a ta') (hb : DWx X W (.BoolOp .Or (b :: rest) pos) tb') : DWx X W (.BoolOp .Or (a :: b :: rest) pos) (dOr ta' tb') := by
  obtain ⟨_, p1, s1⟩ := ha
  obtain ⟨_, p2, s2⟩ := hb
  exact ⟨_, pw_or p1 p2, sim_or s1 s2⟩
theorem dt_not (ha : DTx X W a ta') : DTx X W (.UnaryOp .Not a pos) (dNot ta') := by
  obtain ⟨_, p, s⟩ := ha
  refine ⟨_, pt_not p, fun φ M H σ r Q S E h => ?_⟩
  refine s φ M H σ r _ S E (Okd.bind h fun b M1 x φ1 H1 _ g1 S1 r1 h1 => ?_)
  have e : x = b := r1
  subst e
  exact h1.here S1 rfl
/-! ### .. as values -/
def dAndV (da db : DE) : DE := fun r M => (da r M).bind fun x M1 => match x with
  | .bl true => db r M1
  | .bl false => .ok (.bl false) M1
  | _ => .no
def dOrV (da db : DE) : DE := fun r M => (da r M).bind fun x M1 => match x with
  | .bl true => .ok (.bl true) M1
  | .bl false => db r M1
  | _ => .no
def dNotV (da : DE) : DE := fun r M => (da r M).bind fun x M1 => match x with
  | .bl b => .ok (.bl (!b)) M1
  | _ => .no
theorem rep_bl {K : Frg} {φ : Wd} {H : Hp} {b : Bool} : Rep K φ H (.bl b) (.bl b) := by unfold Rep; rfl
theorem rep_int {K : Frg} {φ : Wd} {H : Hp} {b : Int} : Rep K φ H (.int b) (.int b) := by unfold Rep; rfl
theorem rep_str {K : Frg} {φ : Wd} {H : Hp} {b : Str} : Rep K φ H (.str b) (.str b) := by unfold Rep; rfl
theorem rep_non {K : Frg} {φ : Wd} {H : Hp} : Rep K φ H .non .non := by unfold Rep; rfl
theorem de_one {op} (h : DEx X W a da) : DEx X W (.BoolOp op [a] pos) da := let ⟨_, p, s⟩ := h; ⟨_, pe_one p, s⟩
theorem de_and (ha : DEx X W a da) (hb : DEx X W (.BoolOp .And (b :: rest) pos) db) : DEx X W (.BoolOp .And (a :: b :: rest) pos) (dAndV da db) := by
  obtain ⟨_, p1, s1⟩ := ha
  obtain ⟨_, p2, s2⟩ := hb
  refine ⟨_, pe_and p1 p2, fun φ M H σ r Q S E h => ?_⟩
  refine s1 φ M H σ r _ S E (Okd.bind h fun d M1 x φ1 H1 _ g1 S1 r1 h1 => ?_)
  cases d with
  | bl k =>
    unfold RE Rep at r1
    refine ⟨k, r1, ?_⟩
    cases k with
    | true => rw [if_pos rfl]; exact s2 φ1 M1 H1 σ r _ S1 (E.grow g1) h1
    | false => rw [if_neg Bool.false_ne_true]; exact h1.here S1 rep_bl
  | _ => exact h1.elim
theorem de_or (ha : DEx X W a da) (hb : DEx X W (.BoolOp .Or (b :: rest) pos) db) : DEx X W (.BoolOp .Or (a :: b :: rest) pos) (dOrV da db) := by
  obtain ⟨_, p1, s1⟩ := ha
  obtain ⟨_, p2, s2⟩ := hb
  refine ⟨_, pe_or p1 p2, fun φ M H σ r Q S E h => ?_⟩
  refine s1 φ M H σ r _ S E (Okd.bind h fun d M1 x φ1 H1 _ g1 S1 r1 h1 => ?_)
  cases d with
  | bl k =>
    unfold RE Rep at r1
    refine ⟨k, r1, ?_⟩
    cases k with
    | true => rw [if_pos rfl]; exact h1.here S1 rep_bl
    | false => rw [if_neg Bool.false_ne_true]; exact s2 φ1 M1 H1 σ r _ S1 (E.grow g1) h1
  | _ => exact h1.elim
theorem de_not (ha : DEx X W a da) : DEx X W (.UnaryOp .Not a pos) (dNotV da) := by
  obtain ⟨_, p1, s1⟩ := ha
  refine ⟨_, pe_not p1, fun φ M H σ r Q S E h => ?_⟩
  refine s1 φ M H σ r _ S E (Okd.bind h fun d M1 x φ1 H1 _ g1 S1 r1 h1 => ?_)
  cases d with
  | bl k =>
    unfold RE Rep at r1
    exact ⟨k, r1, h1.here S1 rep_bl⟩
  | _ => exact h1.elim
def dIfE (t : DT) (da db : DE) : DE := fun r M => (t r M).bind fun b M1 => match b with
  | true => da r M1
  | false => db r M1
theorem de_ifexp (ht : DTx X W c ta') (ha : DEx X W a da) (hb : DEx X W b db) : DEx X W (.IfExp c a b pos) (dIfE ta' da db) := by
  obtain ⟨_, p, s⟩ := ht
  obtain ⟨_, p1, s1⟩ := ha
  obtain ⟨_, p2, s2⟩ := hb
  refine ⟨_, pe_ifExp p p1 p2, fun φ M H σ r Q S E h => ?_⟩
  refine s φ M H σ r _ S E (Okd.bind h fun k M1 x φ1 H1 _ g1 S1 r1 h1 => ?_)
  have e : x = k := r1
  subst e
  cases x with
  | true => rw [if_pos rfl]; exact s1 φ1 M1 H1 σ r _ S1 (E.grow g1) h1
  | false => rw [if_neg Bool.false_ne_true]; exact s2 φ1 M1 H1 σ r _ S1 (E.grow g1) h1
/-! ### argument lists, displays -/
def dNil : DA := fun _ M => .ok [] M
def dCons (da : DE) (dr : DA) : DA := fun r M => (da r M).bind fun x M1 => (dr r M1).bind fun xs M2 => .ok (x :: xs) M2
variable {es : List Expr} {dr : DA}
theorem da_nil : DAx X W [] dNil := ⟨_, pa_nil, fun φ M H σ r Q S E h => h.here S RepL.nil⟩
theorem da_cons (ha : DEx X W a da) (hr : DAx X W es dr) (hs : starEach (a :: es) X.env = (false, eval a X.env) :: starEach es X.env := by rfl) : DAx X W (a :: es) (dCons da dr) := by
  obtain ⟨_, p1, s1⟩ := ha
  obtain ⟨_, p2, s2⟩ := hr
  refine ⟨_, pa_cons p1 p2 hs, fun φ M H σ r Q S E h => ?_⟩
  refine s1 φ M H σ r _ S E (Okd.bind h fun d M1 x φ1 H1 _ g1 S1 r1 h1 => ?_)
  refine s2 φ1 M1 H1 σ r _ S1 (E.grow g1) (Okd.bind h1 fun ds M2 xs φ2 H2 _ g2 S2 r2 h2 => ?_)
  exact h2.here S2 (RepL.cons (Rep.grow g2 _ _ r1) r2)
def lineB (n : Nat) : Bool := Nat.ble n 100000
theorem lineB_ok {n : Nat} (h : lineB n = true) : n ≤ sizeLine := Nat.le_trans (Nat.le_of_ble_eq_true h) (by rw [sizeLine_eq]; decide)
/-- a tuple, a list that will never change, a list of the arena -/
def dTup (da : DA) : DE := fun r M => (da r M).bind fun ds M1 => match lineB ds.length with
  | true => .ok (.tup ds) M1
  | false => .no
def dLst (da : DA) : DE := fun r M => (da r M).bind fun ds M1 => match lineB ds.length with
  | true => .ok (.lst ds) M1
  | false => .no
def dLstA (da : DA) : DE := fun r M => (da r M).bind fun ds M1 => match lineB ds.length with
  | true => .ok (.obj M1.length) (M1 ++ [.lst ds])
  | false => .no
theorem rep_tup_new {K : Frg} {φ : Wd} {M : Mem} {H : Hp} {p : Addr} {ds : List D} {xs : List V} (S : Sto K φ M H) (h : H p = none) (r : RepL K φ H ds xs) : Rep K φ (upd H p (.tup xs)) (.tup ds) (.ref p) := by
  unfold Rep
  exact ⟨p, xs, rfl, .inl ⟨S.fresh h, .inl upd_same⟩, RepL.grow (Grow.new h) _ _ r⟩
theorem rep_lst_new {K : Frg} {φ : Wd} {M : Mem} {H : Hp} {p : Addr} {ds : List D} {xs : List V} (S : Sto K φ M H) (h : H p = none) (r : RepL K φ H ds xs) : Rep K φ (upd H p (.lst xs)) (.lst ds) (.ref p) := by
  unfold Rep
  exact ⟨p, xs, rfl, .inl ⟨S.fresh h, .inl upd_same⟩, RepL.grow (Grow.new h) _ _ r⟩
theorem de_tup {x1} (ha : DAx X W es dr) : DEx X W (.Tuple es x1 pos) (dTup dr) := by
  obtain ⟨_, p1, s1⟩ := ha
  refine ⟨_, pe_tup p1, fun φ M H σ r Q S E h => ?_⟩
  refine s1 φ M H σ r _ S E (Okd.bind h fun ds M1 xs φ1 H1 _ g1 S1 r1 h1 => ?_)
  have r1 : RepL X.K φ1 H1 ds xs := r1
  cases hl : lineB ds.length with
  | true =>
    rw [hl] at h1
    exact ⟨by rw [r1.len]; exact lineB_ok hl, fun p hp => h1 _ _ _ (Grow.new hp) (S1.new hp) (rep_tup_new S1 hp r1)⟩
  | false => rw [hl] at h1; exact h1.elim
theorem de_lst (ha : DAx X W es dr) : DEx X W (.List es pos) (dLst dr) := by
  obtain ⟨_, p1, s1⟩ := ha
  refine ⟨_, pe_lst p1, fun φ M H σ r Q S E h => ?_⟩
  refine s1 φ M H σ r _ S E (Okd.bind h fun ds M1 xs φ1 H1 _ g1 S1 r1 h1 => ?_)
  have r1 : RepL X.K φ1 H1 ds xs := r1
  cases hl : lineB ds.length with
  | true =>
    rw [hl] at h1
    exact ⟨by rw [r1.len]; exact lineB_ok hl, fun p hp => h1 _ _ _ (Grow.new hp) (S1.new hp) (rep_lst_new S1 hp r1)⟩
  | false => rw [hl] at h1; exact h1.elim
theorem rep_obj_new {K : Frg} {φ : Wd} {M : Mem} {H : Hp} {p : Addr} (S : φ.ar.length = M.length) : Rep K (φ.add p) H (.obj M.length) (.ref p) := by
  unfold Rep
  exact ⟨p, by show (φ.ar ++ [p])[M.length]? = some p; rw [← S]; simp, rfl⟩
theorem de_lstA (ha : DAx X W es dr) : DEx X W (.List es pos) (dLstA dr) := by
  obtain ⟨_, p1, s1⟩ := ha
  refine ⟨_, pe_lst p1, fun φ M H σ r Q S E h => ?_⟩
  refine s1 φ M H σ r _ S E (Okd.bind h fun ds M1 xs φ1 H1 _ g1 S1 r1 h1 => ?_)
  have r1 : RepL X.K φ1 H1 ds xs := r1
  cases hl : lineB ds.length with
  | true =>
    rw [hl] at h1
    refine ⟨by rw [r1.len]; exact lineB_ok hl, fun p hp => h1 _ _ _ (Grow.alloc hp) (S1.alloc hp ⟨xs, upd_same, RepL.grow (Grow.alloc hp) _ _ r1⟩) ?_⟩
    exact rep_obj_new S1.len
  | false => rw [hl] at h1; exact h1.elim
/-! ### calls of built-ins -/
def dCB (f : FN) (da : DA) : DE := fun r M => (da r M).bind f
variable {e : Expr} {p : Pos} {x : Str}
theorem sim_cb {K : Frg} {rN : List V → Hp → VK → Prop} {f : FN} {t : TA} (ho : OpN K rN f) (ha : SimA K W t dr) : SimE K W (tCB rN t) (dCB f dr) := by
  intro φ M H σ r Q S E h
  refine ha φ M H σ r _ S E (Okd.bind h fun ds M1 xs φ1 H1 _ g1 S1 r1 h1 => ?_)
  exact ho φ1 M1 H1 xs ds Q _ S1 r1 h1
theorem de_callB {id : String} {rN : List V → Hp → VK → Prop} {f : FN} (hc : CallR X (.builtin id) rN) (ho : OpN X.K rN f) (hg : Gl X x) (hm : X.mg x = none) (hv : bootBuiltins x = some (.builtin id)) (ha : DAx X W (e :: es) dr)
    (hn : x ≠ "__name__" := by decide) (hdb : (x == ("__debug__" : Str)) = false := by decide) (he : starEach (e :: es) X.env = (false, eval e X.env) :: starEach es X.env := by rfl) (hpl : (backTo pos (starEach es X.env)).any (·.1) = false := by rfl) :
    DEx X W (.Call (.Name x p) (e :: es) [] pos) (dCB f dr) := by
  obtain ⟨_, p1, s1⟩ := ha
  exact ⟨_, pe_callB hc hg hm hv p1 hn hdb he hpl, sim_cb ho s1⟩
theorem de_callTy {T : String} {rN : List V → Hp → VK → Prop} {f : FN} (hc : CallR X (.type T) rN) (ho : OpN X.K rN f) (hg : Gl X x) (hm : X.mg x = none) (hv : bootBuiltins x = some (.type T)) (ha : DAx X W (e :: es) dr)
    (hn : x ≠ "__name__" := by decide) (hdb : (x == ("__debug__" : Str)) = false := by decide) (he : starEach (e :: es) X.env = (false, eval e X.env) :: starEach es X.env := by rfl) (hpl : (backTo pos (starEach es X.env)).any (·.1) = false := by rfl) :
    DEx X W (.Call (.Name x p) (e :: es) [] pos) (dCB f dr) := by
  obtain ⟨_, p1, s1⟩ := ha
  exact ⟨_, pe_callTy hc hg hm hv p1 hn hdb he hpl, sim_cb ho s1⟩
/-! ### calls of defs -/
/-- a def's promise: it does what F does -/
def SpD (K : Frg) (n : Nat) (F : FN) : Sp := fun vs H Q E => ∃ φ M ds, ds.length = n ∧ Sto K φ M H ∧ RepL K φ H ds vs ∧ Okd K φ H (RE K) (F ds M) Q E
def dCall (n : Nat) (F : FN) (da : DA) : DE := fun r M => (da r M).bind fun ds M1 => match Nat.beq ds.length n with
  | true => F ds M1
  | false => .no
theorem sim_call {K : Frg} {n : Nat} {F : FN} {t : TA} (ha : SimA K W t dr) : SimE K W (tCallS (SpD K n F) (WE W) t) (dCall n F dr) := by
  intro φ M H σ r Q S E h
  refine ha φ M H σ r _ S E (Okd.bind h fun ds M1 xs φ1 H1 _ g1 S1 r1 h1 => ?_)
  cases hn : Nat.beq ds.length n with
  | true =>
    rw [hn] at h1
    exact ⟨φ1, M1, ds, Nat.eq_of_beq_eq_true hn, S1, r1, h1⟩
  | false => rw [hn] at h1; exact h1.elim
/-- a def that stands at the module's name x -/
structure DefOk (P : Program) (w : World) (K : Frg) (mg : Str → Option Value) (base : Heap) (k : Nat) (x : Str) (n : Nat) (F : FN) : Prop where
  ex : ∃ f fd ps, mg x = some (.ref f) ∧ PySem.W.keepIn K (.ref f) = true ∧ Binds K fd ps [] ∧ FnOk P w K mg base (L2.CX P w) k f fd ps (SpD K n F)
theorem de_call {k n : Nat} {F : FN} (G : DefOk X.prog X.w X.K X.mg X.base k x n F) (hr : Room k X.A) (tk : Takes X W) (hg : Gl X x) (ha : DAx X W (e :: es) dr)
    (hdb : (x == ("__debug__" : Str)) = false := by decide) (he : starEach (e :: es) X.env = (false, eval e X.env) :: starEach es X.env := by rfl) (hpl : (backTo pos (starEach es X.env)).any (·.1) = false := by rfl) :
    DEx X W (.Call (.Name x p) (e :: es) [] pos) (dCall n F dr) := by
  obtain ⟨f, fd, ps, hm, kp, hb, hF⟩ := G.ex
  obtain ⟨_, p1, s1⟩ := ha
  exact ⟨_, pe_callS hF hr hg hm kp hb (fun σ => passAt tk σ) p1 hdb he hpl, sim_call s1⟩
end
end LF
set_option Elab.async false
set_option linter.all false
set_option maxRecDepth 100000
set_option maxHeartbeats 2000000
/-! LF4: statements, loops, raise, a def by its body. -/
namespace LF
open PySem PySem.Spec PyProof.Rows L2
section
variable {X : Cx} {W : WX} {pos : Pos} {e : Expr} {de : DE} {dt : DT} {st : Stmt} {rest : List Stmt} {d1 d2 : DS}
def dNext : DS := fun r M => .nx r M
def dSeq (a b : DS) : DS := fun r M => match a r M with
  | .nx r1 M1 => b r1 M1
  | o => o
theorem db_nil : DBx X W [] dNext := ⟨_, pss_nil, fun φ M H σ r E S er h => h σ φ H Grow.refl S er⟩
theorem db_one (h : DSx X W st d1) : DBx X W [st] d1 := let ⟨_, p, s⟩ := h; ⟨_, pss_one p, s⟩
theorem sim_seq {K : Frg} {t u : TS} (h1 : SimS K W t d1) (h2 : SimS K W u d2) : SimS K W (tSeq t u) (dSeq d1 d2) := by
  intro φ M H σ r E S er h
  refine h1 φ M H σ r { E with nx := u E } S er ?_
  unfold dSeq at h
  cases q : d1 r M with
  | nx r1 M1 =>
    rw [q] at h
    exact fun σ' φ' H' g S' er' => h2 φ' M1 H' σ' r1 E S' er' (OkS.grow g h)
  | _ => rw [q] at h; exact h
theorem db_cons (h1 : DSx X W st d1) (h2 : DBx X W rest d2) : DBx X W (st :: rest) (dSeq d1 d2) := by
  obtain ⟨_, p1, s1⟩ := h1
  obtain ⟨_, p2, s2⟩ := h2
  exact ⟨_, pss_cons p1 p2, sim_seq s1 s2⟩
theorem ds_pass : DSx X W (.Pass pos) dNext := ⟨_, ps_pass, fun φ M H σ r E S er h => h σ φ H Grow.refl S er⟩
def dBrk : DS := fun r M => .bk r M
def dCnt : DS := fun r M => .ct r M
theorem ds_break : DSx X W (.Break pos) dBrk := ⟨_, ps_break, fun φ M H σ r E S er h => h σ φ H Grow.refl S er⟩
theorem ds_continue : DSx X W (.Continue pos) dCnt := ⟨_, ps_continue, fun φ M H σ r E S er h => h σ φ H Grow.refl S er⟩
def dExpr (de : DE) : DS := fun r M => (de r M).bindS r fun _ M1 => .nx r M1
theorem ds_expr (he : DEx X W e de) (hs : swapsWith e none pos.line X.env = pure false := by rfl) : DSx X W (.Expr e pos) (dExpr de) := by
  obtain ⟨_, p, s⟩ := he
  refine ⟨_, ps_expr p hs, fun φ M H σ r E S er h => ?_⟩
  exact s φ M H σ r _ S er (OkS.bind er h fun a M1 b φ1 H1 _ g1 S1 _ h1 => h1 σ φ1 H1 Grow.refl S1 (er.grow g1))
def dRet (de : DE) : DS := fun r M => (de r M).bindS r fun d M1 => .rt d M1
theorem ds_ret (he : DEx X W e de) : DSx X W (.Return (some e) pos) (dRet de) := by
  obtain ⟨_, p, s⟩ := he
  refine ⟨_, ps_ret p, fun φ M H σ r E S er h => ?_⟩
  exact s φ M H σ r _ S er (OkS.bind er h fun a M1 b φ1 H1 _ g1 S1 r1 h1 => h1 b φ1 H1 Grow.refl S1 r1)
def dRetN : DS := fun r M => .rt .non M
theorem ds_retN : DSx X W (.Return none pos) dRetN := ⟨_, ps_retN, fun φ M H σ r E S er h => h _ φ H Grow.refl S rep_non⟩
def dIf (t : DT) (a b : DS) : DS := fun r M => (t r M).bindS r fun k M1 => match k with
  | true => a r M1
  | false => b r M1
theorem ds_if {c : Expr} {a b : List Stmt} (hc : DTx X W c dt) (ha : DBx X W a d1) (hb : DBx X W b d2) : DSx X W (.If c a b pos) (dIf dt d1 d2) := by
  obtain ⟨_, p, s⟩ := hc
  obtain ⟨_, p1, s1⟩ := ha
  obtain ⟨_, p2, s2⟩ := hb
  refine ⟨_, ps_if p p1 p2, fun φ M H σ r E S er h => ?_⟩
  refine s φ M H σ r _ S er (OkS.bind er h fun k M1 b φ1 H1 _ g1 S1 r1 h1 => ?_)
  have q : b = k := r1
  subst q
  cases b with
  | true => rw [if_pos rfl]; exact s1 φ1 M1 H1 σ r E S1 (er.grow g1) h1
  | false => rw [if_neg Bool.false_ne_true]; exact s2 φ1 M1 H1 σ r E S1 (er.grow g1) h1
/-! ### targets, assignments -/
def gSlot (i : Nat) : DG := fun d r M => .ok (r.set i (some d)) M
theorem sim_gName {K : Frg} {i : Nat} : SimG K W (gName i) (gSlot i) := fun φ M H σ r x d Q S er rx h => h _ φ H Grow.refl S (er.set rx)
theorem dg_name {i : Nat} {x : Str} (hN : X.N.Nodup) (hi : X.N[i]? = some x) (hx : Loc X.env.scope x) (hf : X.fn x = true ∨ X.env.scope.names.lookup x = some .local := by first | exact .inl rfl | exact .inr rfl | assumption) : DGx X W (.Name x pos) (gSlot i) :=
  ⟨_, pg_name hN hi hx hf, sim_gName⟩
def gsNil : List D → Env' → Mem → Out Env' := fun ds r M => match ds with
  | [] => .ok r M
  | _ => .no
def gsCons (g : DG) (gs : List D → Env' → Mem → Out Env') : List D → Env' → Mem → Out Env' := fun ds r M => match ds with
  | d :: ds => (match g d r M with
    | .ok r1 M1 => gs ds r1 M1
    | _ => .no)
  | [] => .no
theorem dgs_nil : DGsx X W [] gsNil := ⟨_, pgs_nil, fun φ M H σ r xs ds Q S er rx h => by
  cases ds with
  | nil => exact ⟨rx.inv0, h σ φ H Grow.refl S er⟩
  | cons d ds => exact h.elim⟩
theorem dgs_cons {e : Expr} {es : List Expr} {g : DG} {gs : List D → Env' → Mem → Out Env'} (h1 : DGx X W e g) (h2 : DGsx X W es gs)
    (hs : (assignEach (e :: es) X.env).map (·.2) = assign e X.env :: (assignEach es X.env).map (·.2) := by rfl) : DGsx X W (e :: es) (gsCons g gs) := by
  obtain ⟨_, p1, s1⟩ := h1
  obtain ⟨_, p2, s2⟩ := h2
  refine ⟨_, pgs_cons p1 p2 hs, fun φ M H σ r xs ds Q S er rx h => ?_⟩
  cases ds with
  | nil => exact h.elim
  | cons d ds =>
    obtain ⟨v, rr, rfl, r1, r2⟩ := rx.inv
    have h : (match (match g d r M with
      | .ok r1 M1 => gs ds r1 M1
      | _ => .no) with
      | .ok r1 M1 => ∀ σ' φ' H', Grow φ H φ' H' → Sto X.K φ' M1 H' → EnvR X.K φ' H' r1 σ' → Q σ' H'
      | _ => False) := h
    refine ⟨v, rr, rfl, s1 φ M H σ r v d _ S er r1 ?_⟩
    cases q : g d r M with
    | ok r3 M3 =>
      rw [q] at h
      dsimp only at h
      intro σ' φ' H' g' S' er'
      refine s2 φ' M3 H' σ' r3 rr ds _ S' er' (RepL.grow g' _ _ r2) ?_
      cases q2 : gs ds r3 M3 with
      | ok r4 M4 => rw [q2] at h; exact fun σ2 φ2 H2 g2 => h σ2 φ2 H2 (g'.trans g2)
      | _ => rw [q2] at h; exact h.elim
    | _ => rw [q] at h; exact h.elim
def gTupD (n : Nat) (gs : List D → Env' → Mem → Out Env') : DG := fun d r M => match d with
  | .tup ds => (match Nat.beq ds.length n with
    | true => gs ds r M
    | false => .no)
  | _ => .no
theorem dg_tup {es : List Expr} {k n : Nat} {gs : List D → Env' → Mem → Out Env'} (hc : X.calm = true) (h : DGsx X W es gs) (hn : (assignEach es X.env).length = n := by rfl) (hst : (assignEach es X.env).findIdx? (·.1) = none := by rfl) : DGx X W (.Tuple es k pos) (gTupD n gs) := by
  obtain ⟨_, p, s⟩ := h
  refine ⟨_, pg_tup hc p hn hst, fun φ M H σ r x d Q S er rx h => ?_⟩
  cases d with
  | tup ds =>
    unfold Rep at rx
    obtain ⟨a, xs, rfl, h1, h2⟩ := rx
    have h : (match (match Nat.beq ds.length n with
      | true => gs ds r M
      | false => .no) with
      | .ok r1 M1 => ∀ σ' φ' H', Grow φ H φ' H' → Sto X.K φ' M1 H' → EnvR X.K φ' H' r1 σ' → Q σ' H'
      | _ => False) := h
    cases hb : Nat.beq ds.length n with
    | true =>
      rw [hb] at h
      exact ⟨a, xs, rfl, h1.sq, by rw [h2.len]; exact Nat.eq_of_beq_eq_true hb, s φ M H σ r xs ds Q S er h2 h⟩
    | false => rw [hb] at h; exact h.elim
  | _ => exact h.elim
def dAsg (de : DE) (g : DG) : DS := fun r M => (de r M).bindS r fun d M1 => match g d r M1 with
  | .ok r1 M2 => .nx r1 M2
  | _ => .no
theorem sim_asg {K : Frg} {te : TE} {g : TG} {dg : DG} (he : SimE K W te de) (hg : SimG K W g dg) : SimS K W (tAsg te g) (dAsg de dg) := by
  intro φ M H σ r E S er h
  refine he φ M H σ r _ S er (OkS.bind er h fun d M1 x φ1 H1 _ g1 S1 r1 h1 => ?_)
  refine hg φ1 M1 H1 σ r x d _ S1 (er.grow g1) r1 ?_
  cases q : dg d r M1 with
  | ok r2 M2 => rw [q] at h1; exact h1
  | _ => rw [q] at h1; exact h1.elim
theorem ds_set {i : Nat} {x : Str} {pos' : Pos} (hN : X.N.Nodup) (hi : X.N[i]? = some x) (hx : Loc X.env.scope x) (he : DEx X W e de) (hs : swapsWith e (some (.Name x pos')) pos.line X.env = pure false := by rfl)
    (hf : X.fn x = true ∨ X.env.scope.names.lookup x = some .local := by first | exact .inl rfl | exact .inr rfl | assumption) : DSx X W (.Assign [.Name x pos'] e pos) (dAsg de (gSlot i)) := by
  obtain ⟨_, p, s⟩ := he
  exact ⟨_, ps_set hN hi hx p hs hf, sim_asg s sim_gName⟩
theorem ds_asg {tg : Expr} {dg : DG} (he : DEx X W e de) (hg : DGx X W tg dg) (hs : swapsWithSole [tg] e pos.line X.env = pure false := by rfl) (hw : swappedStores [tg] e X.env = pure none := by rfl)
    (h1 : (assignEach [tg] X.env).map (·.2) = [assign tg X.env] := by rfl) : DSx X W (.Assign [tg] e pos) (dAsg de dg) := by
  obtain ⟨_, p, s⟩ := he
  obtain ⟨_, p2, s2⟩ := hg
  exact ⟨_, ps_asg p p2 hs hw h1, sim_asg s s2⟩
/-- x op= e -/
def dAug (i : Nat) (f : F2) (de : DE) : DS := fun r M => match r[i]? with
  | some (some x) => (de r M).bindS r fun y M1 => match f x y M1 with
    | .ok z M2 => .nx (r.set i (some z)) M2
    | _ => .no
  | _ => .no
theorem ds_aug {i : Nat} {x : Str} {op : Operator} {ti : TIp} {f : F2} {pos' : Pos} (hN : X.N.Nodup) (hi : X.N[i]? = some x) (hx : Loc X.env.scope x) (he : DEx X W e de) (ho : PIp X op ti) (hf2 : Op2 X.K ti f)
    (hf : X.fn x = true ∨ X.env.scope.names.lookup x = some .local := by first | exact .inl rfl | exact .inr rfl | assumption) : DSx X W (.AugAssign (.Name x pos') op e pos) (dAug i f de) := by
  obtain ⟨_, p, s⟩ := he
  refine ⟨_, ps_aug hN hi hx p ho hf, fun φ M H σ r E S er h => ?_⟩
  unfold dAug at h
  split at h
  · rename_i d ed
    obtain ⟨v, e1, e2⟩ := er.at_ i d ed
    refine ⟨v, e1, s φ M H σ r _ S er (OkS.bind er h fun y M1 w φ1 H1 _ g1 S1 r1 h1 => ?_)⟩
    cases q : f d y M1 with
    | ok z M2 =>
      rw [q] at h1
      refine hf2 φ1 M1 H1 v w d y _ (fun _ _ _ => False) S1 (Rep.grow g1 _ _ e2) r1 ?_
      rw [q]
      exact fun b φ' H' g' S' r' => h1 _ φ' H' g' S' ((er.grow (g1.trans g')).set r')
    | _ => rw [q] at h1; exact h1.elim
  · exact h.elim
/-! ### loops -/
structure Src where
  items : List D
  chk : Mem → Bool
def Serves (K : Frg) (φ1 : Wd) (H1 : Hp) (src : Src) (J : It) : Prop := ∀ (i : Nat) φ M H, Mo φ1 H1 φ H → Sto K φ M H → src.chk M = true → (i = src.items.length → J.stop i H) ∧
  ∀ d, src.items[i]? = some d → J.go i H ∧ ∀ x H', J.yld i H x H' → ∃ φ', Grow φ H φ' H' ∧ Sto K φ' M H' ∧ Rep K φ' H' d x
abbrev DI := Env' → Mem → Out Src
def SimI (K : Frg) (W : WX) (wi : TI) (di : DI) : Prop := ∀ φ M H σ r R, Sto K φ M H → EnvR K φ H r σ → Okd K φ H (fun φ H => Serves K φ H) (di r M) R (fun c d H' => W c d σ H') → wi σ H R
def DIx (X : Cx) (W : WX) (tg iter : Expr) (di : DI) : Prop := ∃ wi, PI X tg iter wi ∧ SimI X.K W wi di
def forL (chk : Mem → Bool) (dg : DG) (body : DS) : List D → Env' → Mem → SO
  | [], r, M => (match chk M with
    | true => .nx r M
    | false => .no)
  | d :: ds, r, M => match chk M with
    | true => (match dg d r M with
      | .ok r1 M1 => (match body r1 M1 with
        | .nx r2 M2 => forL chk dg body ds r2 M2
        | .ct r2 M2 => forL chk dg body ds r2 M2
        | .bk r2 M2 => .nx r2 M2
        | o => o)
      | _ => .no)
    | false => .no
def dFor (di : DI) (dg : DG) (body : DS) : DS := fun r M => (di r M).bindS r fun src M1 => forL src.chk dg body src.items r M1
theorem sim_for {K : Frg} {wi : TI} {g : TG} {tb : TS} {di : DI} {dg : DG} {body : DS} (hi : SimI K W wi di) (hg : SimG K W g dg) (hb : SimS K W tb body) : SimS K W (tFor wi g tb) (dFor di dg body) := by
  intro φ M H σ r E S er h
  refine hi φ M H σ r _ S er (OkS.bind er h fun src M1 J φ1 H1 _ g1 S1 sv h1 => ?_)
  refine ⟨fun i m σ H => m = src.items.length - i ∧ i ≤ src.items.length ∧ ∃ φ M r, Grow φ1 H1 φ H ∧ Sto K φ M H ∧ EnvR K φ H r σ ∧ OkS K φ H (forL src.chk dg body (src.items.drop i) r M) E W,
    ⟨_, rfl, Nat.zero_le _, φ1, M1, r, Grow.refl, S1, er.grow g1, h1⟩, ?_⟩
  rintro i m σ2 H2 ⟨rfl, hi, φ2, M2, r2, g2, S2, er2, h2⟩
  by_cases hlt : i < src.items.length
  · have hd : src.items.drop i = src.items[i] :: src.items.drop (i + 1) := List.drop_eq_getElem_cons hlt
    rw [hd] at h2
    unfold forL at h2
    cases hc : src.chk M2 with
    | false => rw [hc] at h2; exact h2.elim
    | true =>
      rw [hc] at h2
      obtain ⟨_, sv2⟩ := sv i φ2 M2 H2 g2.mo S2 hc
      obtain ⟨go, yl⟩ := sv2 src.items[i] (List.getElem?_eq_getElem hlt)
      refine .inr ⟨go, fun σ' H' => ∃ φ M r, Grow φ1 H1 φ H' ∧ Sto K φ M H' ∧ EnvR K φ H' r σ' ∧ OkS K φ H' (forL src.chk dg body (src.items.drop (i + 1)) r M) E W, fun σ' H' n => ⟨_, by omega, rfl, hlt, n⟩, fun x H3 hy => ?_⟩
      obtain ⟨φ3, g3, S3, r3⟩ := yl x H3 hy
      refine hg φ3 M2 H3 σ2 r2 x src.items[i] _ S3 (er2.grow g3) r3 ?_
      cases q : dg src.items[i] r2 M2 with
      | ok r4 M4 =>
        rw [q] at h2
        dsimp only at h2
        intro σ' φ' H' g' S' er'
        refine hb φ' M4 H' σ' r4 _ S' er' ?_
        have h3 := OkS.grow (g3.trans g') h2
        cases q2 : body r4 M4 with
        | nx r5 M5 => rw [q2] at h3; exact fun σ5 φ5 H5 g5 S5 er5 => ⟨φ5, M5, r5, (g2.trans (g3.trans g')).trans g5, S5, er5, OkS.grow g5 h3⟩
        | ct r5 M5 => rw [q2] at h3; exact fun σ5 φ5 H5 g5 S5 er5 => ⟨φ5, M5, r5, (g2.trans (g3.trans g')).trans g5, S5, er5, OkS.grow g5 h3⟩
        | bk r5 M5 => rw [q2] at h3; exact h3
        | rt d M5 => rw [q2] at h3; exact h3
        | ex x r5 M5 => rw [q2] at h3; exact h3
        | no => rw [q2] at h3; exact h3
      | _ => rw [q] at h2; exact h2.elim
  · have e : i = src.items.length := by omega
    subst e
    rw [List.drop_length] at h2
    unfold forL at h2
    cases hc : src.chk M2 with
    | false => rw [hc] at h2; exact h2.elim
    | true =>
      rw [hc] at h2
      exact .inl ⟨(sv _ φ2 M2 H2 g2.mo S2 hc).1 rfl, h2 σ2 φ2 H2 Grow.refl S2 er2⟩
theorem ds_for {tg iter : Expr} {body : List Stmt} {di : DI} {dg : DG} {db : DS} (hp : PassesOwn (model X.prog X.w) X.A X.env X.xe) (hc : X.calm = true) (hi : DIx X W tg iter di) (hg : DGx X W tg dg) (hb : DBx X W body db)
    (hs : ∀ x, foldedSetIterable iter X.env x = pure x := by intro _; rfl) : DSx X W (.For tg iter body [] pos) (dFor di dg db) := by
  obtain ⟨_, p, s⟩ := hi
  obtain ⟨_, p1, s1⟩ := hg
  obtain ⟨_, p2, s2⟩ := hb
  exact ⟨_, ps_for hp hc p p1 p2 hs, sim_for s s1 s2⟩
def whileN (c : DT) (b : DS) : Nat → Env' → Mem → SO
  | 0, _, _ => .no
  | n + 1, r, M => (c r M).bindS r fun k M1 => match k with
    | true => (match b r M1 with
      | .nx r2 M2 => whileN c b n r2 M2
      | .ct r2 M2 => whileN c b n r2 M2
      | .bk r2 M2 => .nx r2 M2
      | o => o)
    | false => .nx r M1
def dWhile (n : Nat) (c : DT) (b : DS) : DS := fun r M => whileN c b n r M
theorem ds_while {c : Expr} {body : List Stmt} {db : DS} (n : Nat) (hp : PassesOwn (model X.prog X.w) X.A X.env X.xe) (hc : DTx X W c dt) (hb : DBx X W body db) : DSx X W (.While c body [] pos) (dWhile n dt db) := by
  obtain ⟨_, p, s⟩ := hc
  obtain ⟨_, p1, s1⟩ := hb
  refine ⟨_, ps_while hp p p1, fun φ M H σ r E S er h => ?_⟩
  refine ⟨fun m σ H => ∃ φ M r, Sto X.K φ M H ∧ EnvR X.K φ H r σ ∧ OkS X.K φ H (whileN dt db m r M) E W, ⟨n, φ, M, r, S, er, h⟩, ?_⟩
  rintro m σ2 H2 ⟨φ2, M2, r2, S2, er2, h2⟩
  cases m with
  | zero => exact h2.elim
  | succ m =>
    unfold whileN at h2
    refine s φ2 M2 H2 σ2 r2 _ S2 er2 (OkS.bind er2 h2 fun k M3 b φ3 H3 _ g3 S3 r3 h3 => ?_)
    have q : b = k := r3
    subst q
    cases b with
    | false => rw [if_neg Bool.false_ne_true]; exact h3 σ2 φ3 H3 Grow.refl S3 (er2.grow g3)
    | true =>
      rw [if_pos rfl]
      refine ⟨fun σ' H' => ∃ φ M r, Sto X.K φ M H' ∧ EnvR X.K φ H' r σ' ∧ OkS X.K φ H' (whileN dt db m r M) E W, fun σ' H' n => ⟨m, Nat.lt_succ_self m, n⟩, ?_⟩
      refine s1 φ3 M3 H3 σ2 r2 _ S3 (er2.grow g3) ?_
      have h3 : OkS X.K φ3 H3 (match db r2 M3 with
        | .nx r2 M2 => whileN dt db m r2 M2
        | .ct r2 M2 => whileN dt db m r2 M2
        | .bk r2 M2 => .nx r2 M2
        | o => o) E W := h3
      cases q2 : db r2 M3 with
      | nx r5 M5 => rw [q2] at h3; exact fun σ5 φ5 H5 g5 S5 er5 => ⟨φ5, M5, r5, S5, er5, OkS.grow g5 h3⟩
      | ct r5 M5 => rw [q2] at h3; exact fun σ5 φ5 H5 g5 S5 er5 => ⟨φ5, M5, r5, S5, er5, OkS.grow g5 h3⟩
      | bk r5 M5 => rw [q2] at h3; exact h3
      | rt d M5 => rw [q2] at h3; exact h3
      | ex x r5 M5 => rw [q2] at h3; exact h3
      | no => rw [q2] at h3; exact h3
/-! ### raise X('..'), X an own class without __init__ -/
def dRaise (c : Str) : DS := fun r M => .ex ⟨c, [], []⟩ r M
/-- what the top says of such a class -/
structure ExcOk (K : Frg) (mg : Str → Option Value) (x : Str) : Prop where
  g : mg x = some (.ref (He.ga K x))
  e : PySem.W.excIn K (He.ga K x) He.veBase "ValueError.__new__" = true
  k : PySem.W.keepIn K (.ref (He.ga K x)) = true
  b : PySem.W.subIn K (.ref (He.ga K x)) (.type "BaseException") = some true
  t : PySem.W.typeIn K (.ref (He.ga K x)) = some (.type "type")
theorem ds_raise {x m : Str} {j : Nat} {p p2 pos pos2 : Pos} (T : ExcOk X.K X.mg x) (hc : X.calm = true) (tk : Takes X W) (hg : Gl X x) (hdb : (x == ("__debug__" : Str)) = false := by decide) :
    DSx X W (.Raise (some (.Call (.Name x p) [.Constant (.str m) j p2] [] pos)) none pos2) (dRaise x) := by
  refine ⟨_, ps_raise hc tk (pmk_own PySem.F.excBase_ValueError T.e T.g T.k (raises_own T.b T.t) hg hdb), fun φ M H σ r E S er h => ?_⟩
  exact h _ _ σ φ H Grow.refl S er ⟨rfl, [], .inl ⟨rfl, rfl⟩, rfl, RepL.nil⟩
end

/-! ### a def by its body -/
def runB (n : Nat) (b : DS) : FN := fun ds M => match b (ds.map some ++ List.replicate (n - ds.length) none) M with
  | .nx _ M1 => .ok .non M1
  | .rt d M1 => .ok d M1
  | .ex e _ M1 => .ex e M1
  | _ => .no
section
variable {P : Program} {w : World} {K : Frg} {mg : Str → Option Value} {base : Heap}
theorem fn_by {x qual : Str} {params : Arguments} {body : List Stmt} {scope : Scope} {dvs : List V} {kws : List (Str × V)} {f : Addr} {fd : FuncData} {N ps : List Str} {k : Nat} {b : DS} {F : FN} (G : FunD K x qual params body scope dvs kws f fd) (S : FnScope N ps scope)
    (hb : ∀ (cdv : Value) (A : Around) (outer : List Env) (s : Shared) (H : Hp) (E : XK), Room k (A.deeper (envOfC qual scope s.heap.objs.size f cdv)) → Takes (cxOf (L2.CX P w) P w K mg base N qual scope f cdv A outer s H E) (fun cls d _ H => E cls d H) →
      PassesOwn (model P w) (A.deeper (envOfC qual scope s.heap.objs.size f cdv)) (envOfC qual scope s.heap.objs.size f cdv) (cxOf (L2.CX P w) P w K mg base N qual scope f cdv A outer s H E).xe →
      DBx (cxOf (L2.CX P w) P w K mg base N qual scope f cdv A outer s H E) (fun cls d _ H => E cls d H) body b)
    (hF : ∀ ds M, ds.length = ps.length → F ds M ≠ .no → F ds M = runB N.length b ds M) : FnOk P w K mg base (L2.CX P w) (k + 1) f fd ps (SpD K ps.length F) := by
  refine G.ok S (fun vs H Q E h => ?_) (fun cdv A outer s H vs Q E hr h => ?_)
  · obtain ⟨φ, M, ds, e, _, r, _⟩ := h
    rw [r.len, e]
  · obtain ⟨φ, M, ds, e, St, r, h⟩ := h
    obtain ⟨t, p, sim⟩ := hb cdv A outer s H E hr (takes_of rfl rfl rfl rfl) (passes_of rfl)
    refine ⟨t, p, sim φ M H _ (ds.map some ++ List.replicate (N.length - ds.length) none) _ St (EnvR.start N r) ?_⟩
    have ne : F ds M ≠ .no := fun z => by rw [z] at h; exact h
    rw [hF ds M e ne] at h
    unfold runB at h
    cases q : b (ds.map some ++ List.replicate (N.length - ds.length) none) M with
    | nx r1 M1 => rw [q] at h; exact fun σ' φ' H' g S' er' => h _ φ' H' g S' rep_non
    | rt d M1 => rw [q] at h; exact h
    | ex x r1 M1 => rw [q] at h; exact fun c dd σ' φ' H' g S' _ x => h c dd φ' H' g S' x
    | bk r1 M1 => rw [q] at h; exact h.elim
    | ct r1 M1 => rw [q] at h; exact h.elim
    | no => rw [q] at h; exact h.elim
end
end LF
set_option Elab.async false
set_option linter.all false
set_option maxRecDepth 100000
set_option maxHeartbeats 2000000
/-! LF5: what operators and built-ins do on plain data. -/
namespace LF
open PySem PySem.Spec PyProof.Rows L2
section
variable {K : Frg} {φ : Wd} {M : Mem} {H : Hp} {W : XK} {Q : VK}
theorem okI {i : Int} (S : Sto K φ M H) (h : Okd K φ H (RE K) (.ok (.int i) M) Q W) : Q (.int i) H := h.here S rep_int
theorem okB {i : Bool} (S : Sto K φ M H) (h : Okd K φ H (RE K) (.ok (.bl i) M) Q W) : Q (.bl i) H := h.here S rep_bl
theorem okT {i : Str} (S : Sto K φ M H) (h : Okd K φ H (RE K) (.ok (.str i) M) Q W) : Q (.str i) H := h.here S rep_str
theorem rep_int_inv {i : Int} {v : V} (h : Rep K φ H (.int i) v) : v = .int i := by unfold Rep at h; exact h
theorem rep_str_inv {i : Str} {v : V} (h : Rep K φ H (.str i) v) : v = .str i := by unfold Rep at h; exact h
theorem rep_bl_inv {i : Bool} {v : V} (h : Rep K φ H (.bl i) v) : v = .bl i := by unfold Rep at h; exact h
theorem rep_non_inv {v : V} (h : Rep K φ H .non v) : v = .non := by unfold Rep at h; exact h
end
/-! ### arithmetic -/
def fI2 (p : Int → Int → Bool) (g : Int → Int → D) : F2 := fun x y M => match x, y with
  | .int i, .int j => (match p i j with
    | true => .ok (g i j) M
    | false => .no)
  | _, _ => .no
theorem op2_I {K : Frg} {C : Int → Int → Prop} {p : Int → Int → Bool} {g : Int → Int → Int} (hp : ∀ i j, p i j = true → C i j) : Op2 K (rI C fun i j => .int (g i j)) (fI2 p fun i j => .int (g i j)) := by
  intro φ M H x y a b Q W S ra rb h
  cases a with
  | int i =>
    cases b with
    | int j =>
      have h : Okd K φ H (RE K) (match p i j with
        | true => .ok (.int (g i j)) M
        | false => .no) Q W := h
      cases q : p i j with
      | true => rw [q] at h; exact ⟨i, j, rep_int_inv ra, rep_int_inv rb, hp i j q, okI S h⟩
      | false => rw [q] at h; exact h.elim
    | _ => exact h.elim
  | _ => cases b <;> exact h.elim
def yes2 : Int → Int → Bool := fun _ _ => true
theorem op2_I0 {K : Frg} {g : Int → Int → Int} : Op2 K (rI0 fun i j => .int (g i j)) (fI2 yes2 fun i j => .int (g i j)) := by
  intro φ M H x y a b Q W S ra rb h
  cases a with
  | int i =>
    cases b with
    | int j => exact ⟨i, j, rep_int_inv ra, rep_int_inv rb, okI S h⟩
    | _ => exact h.elim
  | _ => cases b <;> exact h.elim
theorem op2_B0 {K : Frg} {g : Int → Int → Bool} : Op2 K (rI0 fun i j => .bl (g i j)) (fI2 yes2 fun i j => .bl (g i j)) := by
  intro φ M H x y a b Q W S ra rb h
  cases a with
  | int i =>
    cases b with
    | int j => exact ⟨i, j, rep_int_inv ra, rep_int_inv rb, okB S h⟩
    | _ => exact h.elim
  | _ => cases b <;> exact h.elim
def small64 (i : Int) : Bool := decide (-(2 ^ 64) < i) && decide (i < 2 ^ 64)
theorem small64_ok {i : Int} (h : small64 i = true) : -(2 ^ 64) < i ∧ i < 2 ^ 64 := by
  obtain ⟨a, b⟩ := Bool.and_eq_true_iff.mp h
  exact ⟨of_decide_eq_true a, of_decide_eq_true b⟩
def fSub : F2 := fI2 yes2 fun i j => .int (i - j)
def fFdiv : F2 := fI2 (fun _ j => decide (0 < j) && decide (j < 1073741824)) fun i j => .int (i / j)
def fMod : F2 := fI2 (fun _ j => decide (0 < j)) fun i j => .int (i % j)
def fShr : F2 := fI2 (fun _ j => decide (0 ≤ j)) fun i j => .int (i / 2 ^ j.toNat)
def fShl : F2 := fI2 (fun i j => (decide (0 ≤ j) && decide (j ≤ 1000000)) && small64 i) fun i j => .int (i * 2 ^ j.toNat)
def fBitAnd : F2 := fI2 yes2 fun i j => .int (Builtin.bitAnd i j)
def fBitOr : F2 := fI2 yes2 fun i j => .int (Builtin.bitOr i j)
def fLt : F2 := fI2 yes2 fun i j => .bl (decide (i < j))
def fLe : F2 := fI2 yes2 fun i j => .bl (decide (i ≤ j))
def fGt : F2 := fI2 yes2 fun i j => .bl (decide (j < i))
def fGe : F2 := fI2 yes2 fun i j => .bl (decide (j ≤ i))
theorem o_sub {K : Frg} : Op2 K (rI0 fun i j => .int (i - j)) fSub := op2_I0
theorem o_fdiv {K : Frg} : Op2 K (rI CDiv fun i j => .int (i / j)) fFdiv := op2_I fun i j h => by
  obtain ⟨a, b⟩ := Bool.and_eq_true_iff.mp h
  exact ⟨of_decide_eq_true a, of_decide_eq_true b⟩
theorem o_mod {K : Frg} : Op2 K (rI (fun _ j => 0 < j) fun i j => .int (i % j)) fMod := op2_I fun i j h => of_decide_eq_true h
theorem o_shr {K : Frg} : Op2 K (rI (fun _ j => 0 ≤ j) fun i j => .int (i / 2 ^ j.toNat)) fShr := op2_I fun i j h => of_decide_eq_true h
theorem o_shl {K : Frg} : Op2 K (rI CPow fun i j => .int (i * 2 ^ j.toNat)) fShl := op2_I fun i j h => by
  obtain ⟨a, b⟩ := Bool.and_eq_true_iff.mp h
  obtain ⟨c, d⟩ := Bool.and_eq_true_iff.mp a
  obtain ⟨e, f⟩ := small64_ok b
  exact ⟨of_decide_eq_true c, of_decide_eq_true d, by omega⟩
theorem o_and {K : Frg} : Op2 K (rI0 fun i j => .int (Builtin.bitAnd i j)) fBitAnd := op2_I0
theorem o_or {K : Frg} : Op2 K (rI0 fun i j => .int (Builtin.bitOr i j)) fBitOr := op2_I0
theorem o_lt {K : Frg} : Op2 K (rI0 fun i j => .bl (decide (i < j))) fLt := op2_B0
theorem o_le {K : Frg} : Op2 K (rI0 fun i j => .bl (decide (i ≤ j))) fLe := op2_B0
theorem o_gt {K : Frg} : Op2 K (rI0 fun i j => .bl (decide (j < i))) fGt := op2_B0
theorem o_ge {K : Frg} : Op2 K (rI0 fun i j => .bl (decide (j ≤ i))) fGe := op2_B0
def fNeg : F1 := fun x M => match x with
  | .int i => .ok (.int (-i)) M
  | _ => .no
theorem o_neg {K : Frg} : Op1 K (rU fun i => .int (-i)) fNeg := by
  intro φ M H x a Q W S ra h
  cases a with
  | int i => exact ⟨i, rep_int_inv ra, okI S h⟩
  | _ => exact h.elim
/-! ### + and * of ints and texts -/
def rAddX : R2 := fun x y H Q => (∃ i j, x = .int i ∧ y = .int j ∧ Q (.int (i + j)) H) ∨ ∃ i j, x = .str i ∧ y = .str j ∧ i.length + j.length ≤ sizeLine ∧ Q (.str (i ++ j)) H
theorem opr_add {X : Cx} : OpR X (binaryOp .Add) rAddX := OpR.or (r := fun x y H Q => ∃ i j, x = .int i ∧ y = .int j ∧ Q (.int (i + j)) H) op_add op_add_str
def fAdd : F2 := fun x y M => match x, y with
  | .int i, .int j => .ok (.int (i + j)) M
  | .str a, .str b => (match lineB (a.length + b.length) with
    | true => .ok (.str (a ++ b)) M
    | false => .no)
  | _, _ => .no
theorem o_add {K : Frg} : Op2 K rAddX fAdd := by
  intro φ M H x y a b Q W S ra rb h
  cases a with
  | int i =>
    cases b with
    | int j => exact .inl ⟨i, j, rep_int_inv ra, rep_int_inv rb, okI S h⟩
    | _ => exact h.elim
  | str s =>
    cases b with
    | str t =>
      have h : Okd K φ H (RE K) (match lineB (s.length + t.length) with
        | true => .ok (.str (s ++ t)) M
        | false => .no) Q W := h
      cases q : lineB (s.length + t.length) with
      | true => rw [q] at h; exact .inr ⟨s, t, rep_str_inv ra, rep_str_inv rb, lineB_ok q, okT S h⟩
      | false => rw [q] at h; exact h.elim
    | _ => exact h.elim
  | _ => cases b <;> exact h.elim
def fMul : F2 := fI2 (fun i j => small64 i || small64 j) fun i j => .int (i * j)
theorem o_mul {K : Frg} : Op2 K (rI CMul fun i j => .int (i * j)) fMul := op2_I fun i j h => by
  rcases Bool.or_eq_true_iff.mp h with a | a
  · exact .inl (small64_ok a)
  · exact .inr (small64_ok a)
/-! ### == and != -/
mutual
/-- data without objects, at most so deep, texts of Python's signs -/
def D.lay : Nat → D → Bool
  | _, .non => true
  | _, .bl _ => true
  | _, .int _ => true
  | _, .str x => PyData.strOk x
  | 0, .tup _ => false
  | 0, .lst _ => false
  | n + 1, .tup ds => D.layL n ds
  | n + 1, .lst ds => D.layL n ds
  | _, .dic _ _ => false
  | _, .obj _ => false
  | _, .exc _ _ _ => false
  | _, .ins _ _ _ => false
def D.layL : Nat → List D → Bool
  | _, [] => true
  | n, d :: ds => D.lay n d && D.layL n ds
end
mutual
def D.eqb : D → D → Bool
  | .non, .non => true
  | .bl a, .bl b => a == b
  | .bl a, .int j => (if a then 1 else 0) == j
  | .int i, .bl b => i == (if b then 1 else 0)
  | .int i, .int j => i == j
  | .str x, .str y => x == y
  | .tup xs, .tup ys => D.eqbL xs ys
  | .lst xs, .lst ys => D.eqbL xs ys
  | _, _ => false
def D.eqbL : List D → List D → Bool
  | [], [] => true
  | x :: xs, y :: ys => D.eqb x y && D.eqbL xs ys
  | _, _ => false
end
mutual
def D.pd : D → PyData
  | .non => .none
  | .bl b => .bool b
  | .int i => .int i
  | .str x => .str x
  | .tup ds => .tuple (D.pdL ds)
  | .lst ds => .list (D.pdL ds)
  | _ => .none
def D.pdL : List D → List PyData
  | [] => []
  | d :: ds => D.pd d :: D.pdL ds
end
mutual
theorem lay_pd : ∀ (n : Nat) (d : D), D.lay n d = true → (D.pd d).canLay0 = true ∧ (D.pd d).depth ≤ n
  | _, .non, _ => ⟨rfl, Nat.zero_le _⟩
  | _, .bl _, _ => ⟨rfl, Nat.zero_le _⟩
  | _, .int _, _ => ⟨rfl, Nat.zero_le _⟩
  | n, .str x, h => by
    cases n <;> exact ⟨(show PyData.strOk x = true by simpa [D.lay] using h), Nat.zero_le _⟩
  | 0, .tup _, h => by simp [D.lay] at h
  | 0, .lst _, h => by simp [D.lay] at h
  | n + 1, .tup ds, h => by
    obtain ⟨a, b⟩ := layL_pd n ds (by simpa [D.lay] using h)
    exact ⟨a, by show PyData.depthAll _ + 1 ≤ n + 1; omega⟩
  | n + 1, .lst ds, h => by
    obtain ⟨a, b⟩ := layL_pd n ds (by simpa [D.lay] using h)
    exact ⟨a, by show PyData.depthAll _ + 1 ≤ n + 1; omega⟩
  | n, .dic _ _, h => by cases n <;> simp [D.lay] at h
  | n, .obj _, h => by cases n <;> simp [D.lay] at h
  | n, .exc _ _ _, h => by cases n <;> simp [D.lay] at h
  | n, .ins _ _ _, h => by cases n <;> simp [D.lay] at h
theorem layL_pd : ∀ (n : Nat) (ds : List D), D.layL n ds = true → PyData.canLayAll0 (D.pdL ds) = true ∧ PyData.depthAll (D.pdL ds) ≤ n
  | _, [], _ => ⟨rfl, Nat.zero_le _⟩
  | n, d :: ds, h => by
    unfold D.layL at h
    obtain ⟨h1, h2⟩ := Bool.and_eq_true_iff.mp h
    obtain ⟨a, b⟩ := lay_pd n d h1
    obtain ⟨c, e⟩ := layL_pd n ds h2
    exact ⟨by show ((D.pd d).canLay0 && _) = true; rw [a, c]; rfl, by show max _ _ ≤ n; omega⟩
end
theorem lay_shaped {d : D} (h : D.lay 64 d = true) : SeqAt.shaped (D.pd d) = true := by
  obtain ⟨a, b⟩ := lay_pd 64 d h
  unfold SeqAt.shaped
  rw [a, decide_eq_true b]; rfl
mutual
theorem eqb_pd : ∀ (n m : Nat) (d e : D), D.lay n d = true → D.lay m e = true → PyData.eqv (D.pd d) (D.pd e) = D.eqb d e
  | n, m, d, e, h, k => by
    cases d <;> cases e <;> first
      | rfl
      | (simp only [D.pd, PyData.eqv, D.eqb]; done)
      | (cases n <;> simp [D.lay] at h; done)
      | (cases m <;> simp [D.lay] at k; done)
      | (rename_i xs ys
         cases n with
         | zero => simp [D.lay] at h
         | succ n =>
           cases m with
           | zero => simp [D.lay] at k
           | succ m =>
             have q := eqbL_pd n m xs ys (by simpa [D.lay] using h) (by simpa [D.lay] using k)
             simpa only [D.pd, PyData.eqv, D.eqb] using q)
theorem eqbL_pd : ∀ (n m : Nat) (ds es : List D), D.layL n ds = true → D.layL m es = true → PyData.eqvAll (D.pdL ds) (D.pdL es) = D.eqbL ds es
  | _, _, [], [], _, _ => rfl
  | _, _, [], _ :: _, _, _ => rfl
  | _, _, _ :: _, [], _, _ => rfl
  | n, m, d :: ds, e :: es, h, k => by
    unfold D.layL at h k
    obtain ⟨h1, h2⟩ := Bool.and_eq_true_iff.mp h
    obtain ⟨k1, k2⟩ := Bool.and_eq_true_iff.mp k
    have a := eqb_pd n m d e h1 k1
    have b := eqbL_pd n m ds es h2 k2
    simp only [D.pdL, PyData.eqvAll, D.eqbL, a, b]
end
section
variable {K : Frg} {φ : Wd} {H : Hp}
mutual
theorem rep_dp : ∀ (n : Nat) (d : D) (v : V), D.lay n d = true → Rep K φ H d v → Dp K H v (D.pd d)
  | _, .non, v, _, h => by rw [rep_non_inv h]; exact .non
  | _, .bl b, v, _, h => by rw [rep_bl_inv h]; exact .bl b
  | _, .int i, v, _, h => by rw [rep_int_inv h]; exact .int i
  | _, .str x, v, _, h => by rw [rep_str_inv h]; exact .str x
  | 0, .tup _, _, h, _ => by simp [D.lay] at h
  | 0, .lst _, _, h, _ => by simp [D.lay] at h
  | n + 1, .tup ds, v, h, r => by
    unfold Rep at r
    obtain ⟨a, xs, rfl, h1, h2⟩ := r
    exact .tup h1.sq (repL_dp n ds xs (by simpa [D.lay] using h) h2)
  | n + 1, .lst ds, v, h, r => by
    unfold Rep at r
    obtain ⟨a, xs, rfl, h1, h2⟩ := r
    exact .lst h1.sq (repL_dp n ds xs (by simpa [D.lay] using h) h2)
  | n, .dic _ _, _, h, _ => by cases n <;> simp [D.lay] at h
  | n, .obj _, _, h, _ => by cases n <;> simp [D.lay] at h
  | n, .exc _ _ _, _, h, _ => by cases n <;> simp [D.lay] at h
  | n, .ins _ _ _, _, h, _ => by cases n <;> simp [D.lay] at h
theorem repL_dp : ∀ (n : Nat) (ds : List D) (vs : List V), D.layL n ds = true → RepL K φ H ds vs → DpAll K H vs (D.pdL ds)
  | _, [], vs, _, h => by rw [h.inv0]; exact .nil
  | n, d :: ds, vs, h, r => by
    obtain ⟨v, w, rfl, r1, r2⟩ := r.inv
    unfold D.layL at h
    obtain ⟨h1, h2⟩ := Bool.and_eq_true_iff.mp h
    exact .cons (rep_dp n d v h1 r1) (repL_dp n ds w h2 r2)
end
end
def fEq : F2 := fun x y M => match D.lay 64 x && D.lay 64 y with
  | true => .ok (.bl (D.eqb x y)) M
  | false => .no
def fNe : F2 := fun x y M => match D.lay 64 x && D.lay 64 y with
  | true => .ok (.bl (!D.eqb x y)) M
  | false => .no
theorem o_eq {K : Frg} : Op2 K (rEqD K) fEq := by
  intro φ M H x y a b Q W S ra rb h
  unfold fEq at h
  cases q : D.lay 64 a && D.lay 64 b with
  | false => rw [q] at h; exact h.elim
  | true =>
    rw [q] at h
    obtain ⟨h1, h2⟩ := Bool.and_eq_true_iff.mp q
    refine ⟨_, _, rep_dp 64 a x h1 ra, rep_dp 64 b y h2 rb, lay_shaped h1, lay_shaped h2, ?_⟩
    rw [eqb_pd 64 64 a b h1 h2]
    exact okB S h
theorem o_ne {K : Frg} : Op2 K (rNeD K) fNe := by
  intro φ M H x y a b Q W S ra rb h
  unfold fNe at h
  cases q : D.lay 64 a && D.lay 64 b with
  | false => rw [q] at h; exact h.elim
  | true =>
    rw [q] at h
    obtain ⟨h1, h2⟩ := Bool.and_eq_true_iff.mp q
    refine ⟨_, _, rep_dp 64 a x h1 ra, rep_dp 64 b y h2 rb, lay_shaped h1, lay_shaped h2, ?_⟩
    rw [eqb_pd 64 64 a b h1 h2]
    exact okB S h
/-! ### s in t, s not in t: one sign -/
def fInS (neg : Bool) : F2 := fun x y M => match x, y with
  | .str a, .str b => (match a.cps.toList with
    | [c] => .ok (.bl (if neg then !decide (c ∈ b.cps.toList) else decide (c ∈ b.cps.toList))) M
    | _ => .no)
  | _, _ => .no
theorem str_one {a : Str} {c : Nat} (h : a.cps.toList = [c]) : a = ⟨#[c]⟩ := by
  obtain ⟨l⟩ := a
  obtain ⟨l⟩ := l
  simp only at h
  rw [h]
def rInX : R2 := fun x y H Q => ∃ (c : Nat) (z : Str), x = .str ⟨#[c]⟩ ∧ y = .str z ∧ Q (.bl (decide (c ∈ z.cps.toList))) H
def rNotInX : R2 := fun x y H Q => ∃ (c : Nat) (z : Str), x = .str ⟨#[c]⟩ ∧ y = .str z ∧ Q (.bl (!decide (c ∈ z.cps.toList))) H
theorem opr_in {X : Cx} : OpR X (compareOp .In) rInX := op_in_sign
theorem opr_notin {X : Cx} : OpR X (compareOp .NotIn) rNotInX := op_notIn_sign
theorem o_in {K : Frg} : Op2 K rInX (fInS false) := by
  intro φ M H x y a b Q W S ra rb h
  cases a with
  | str s =>
    cases b with
    | str t =>
      have h : Okd K φ H (RE K) (match s.cps.toList with
        | [c] => .ok (.bl (if false then !decide (c ∈ t.cps.toList) else decide (c ∈ t.cps.toList))) M
        | _ => .no) Q W := h
      split at h
      · rename_i c q
        exact ⟨c, t, by rw [rep_str_inv ra, str_one q], rep_str_inv rb, okB S h⟩
      · exact h.elim
    | _ => exact h.elim
  | _ => cases b <;> exact h.elim
theorem o_notin {K : Frg} : Op2 K rNotInX (fInS true) := by
  intro φ M H x y a b Q W S ra rb h
  cases a with
  | str s =>
    cases b with
    | str t =>
      have h : Okd K φ H (RE K) (match s.cps.toList with
        | [c] => .ok (.bl (if true then !decide (c ∈ t.cps.toList) else decide (c ∈ t.cps.toList))) M
        | _ => .no) Q W := h
      split at h
      · rename_i c q
        exact ⟨c, t, by rw [rep_str_inv ra, str_one q], rep_str_inv rb, okB S h⟩
      · exact h.elim
    | _ => exact h.elim
  | _ => cases b <;> exact h.elim
end LF
set_option Elab.async false
set_option linter.all false
set_option maxRecDepth 100000
set_option maxHeartbeats 2000000
/-! LF6: items by place, lengths, what is walked, comprehensions. -/
namespace LF
open PySem PySem.Spec PyProof.Rows L2
section
variable {K : Frg} {φ : Wd} {M : Mem} {H : Hp}
theorem rep_atI {ds : List D} {xs : List V} {i : Int} {d : D} (r : RepL K φ H ds xs) (h : atI ds i = some d) : ∃ v, atI xs i = some v ∧ Rep K φ H d v := by
  unfold atI at h ⊢
  rw [r.len]
  cases e : ixN ds.length i with
  | none => rw [e] at h; cases h
  | some j =>
    rw [e] at h
    exact r.get h
/-- what a thing's items are: a tuple's, a list's -/
def seqOf (M : Mem) : D → Option (List D)
  | .tup ds => some ds
  | .lst ds => some ds
  | .obj n => (match M[n]? with
    | some (.lst ds) => some ds
    | some (.ro ds) => some ds
    | _ => none)
  | _ => none
theorem seq_rep {d : D} {v : V} {ds : List D} (S : Sto K φ M H) (r : Rep K φ H d v) (h : seqOf M d = some ds) : ∃ a xs, v = .ref a ∧ (SqL K H a xs ∨ SqT K H a xs) ∧ RepL K φ H ds xs := by
  cases d with
  | tup es =>
    unfold Rep at r
    obtain ⟨a, xs, e, h1, h2⟩ := r
    cases h
    exact ⟨a, xs, e, .inr h1.sq, h2⟩
  | lst es =>
    unfold Rep at r
    obtain ⟨a, xs, e, h1, h2⟩ := r
    cases h
    exact ⟨a, xs, e, .inl h1.sq, h2⟩
  | obj n =>
    unfold Rep at r
    obtain ⟨a, h1, h2⟩ := r
    have h : (match M[n]? with
      | some (.lst ds) => some ds
      | some (.ro ds) => some ds
      | _ => none) = some ds := h
    split at h
    · rename_i es q
      cases h
      obtain ⟨xs, e1, e2⟩ := S.ob n a _ h1 q
      exact ⟨a, xs, h2, .inl (SqL.of e1), e2⟩
    · rename_i es q
      cases h
      obtain ⟨xs, e1, e2⟩ := S.ob n a _ h1 q
      exact ⟨a, xs, h2, .inl (.inl e1), e2⟩
    · cases h
  | _ => cases h
end
/-! ### x[i] -/
def fIx : F2 := fun x y M => match x, y with
  | .str s, .int i => (match lineB s.length, atI s.cps.toList i with
    | true, some c => .ok (.str ⟨#[c]⟩) M
    | _, _ => .no)
  | d, .int i => (match seqOf M d with
    | some ds => liftO (atI ds i) M
    | none => .no)
  | _, _ => .no
theorem o_ix {K : Frg} : Op2 K (rIx K) fIx := by
  intro φ M H x y a b Q W S ra rb h
  cases b with
  | int i =>
    have hy := rep_int_inv rb
    have seq : Okd K φ H (RE K) (match seqOf M a with
      | some ds => liftO (atI ds i) M
      | none => .no) Q W → rIx K x y H Q := fun h => by
      cases e : seqOf M a with
      | none => rw [e] at h; exact h.elim
      | some ds =>
        rw [e] at h
        obtain ⟨p, xs, hx, hs, r⟩ := seq_rep S ra e
        have h : Okd K φ H (RE K) (liftO (atI ds i) M) Q W := h
        cases e2 : atI ds i with
        | none => rw [e2] at h; exact h.elim
        | some d =>
          rw [e2] at h
          obtain ⟨v, h1, h2⟩ := rep_atI r e2
          have q : Q v H := h.here S h2
          rcases hs with hs | hs
          · exact .inl ⟨p, xs, i, v, hx, hy, hs, h1, q⟩
          · exact .inr (.inl ⟨p, xs, i, v, hx, hy, hs, h1, q⟩)
    cases a with
    | str s =>
      have h : Okd K φ H (RE K) (match lineB s.length, atI s.cps.toList i with
        | true, some c => .ok (.str ⟨#[c]⟩) M
        | _, _ => .no) Q W := h
      cases e1 : lineB s.length with
      | false => rw [e1] at h; exact h.elim
      | true =>
        cases e2 : atI s.cps.toList i with
        | none => rw [e1, e2] at h; exact h.elim
        | some c =>
          rw [e1, e2] at h
          exact .inr (.inr ⟨s, i, c, rep_str_inv ra, hy, lineB_ok e1, e2, okT S h⟩)
    | _ => exact seq h
  | _ => cases a <;> exact h.elim
section
variable {X : Cx} {W : WX} {pos : Pos} {a b : Expr} {da db : DE}
theorem de_ix (ha : DEx X W a da) (hb : DEx X W b db) (hs : PlainIx b := by intro _ _; rfl) : DEx X W (.Subscript a b pos) (dBin fIx da db) := by
  obtain ⟨_, p1, s1⟩ := ha
  obtain ⟨_, p2, s2⟩ := hb
  exact ⟨_, pe_ix ix_seq p1 p2 hs, sim_op o_ix s1 s2⟩
end
/-! ### len -/
theorem CallR.or' {X : Cx} {f : Value} {r r' : List V → Hp → VK → Prop} (h : CallR X f r) (h' : CallR X f r') : CallR X f (fun xs H Q => r xs H Q ∨ r' xs H Q) := by
  intro pins s σ H xs us Q I r q
  rcases q with q | q
  · exact h pins s σ H xs us Q I r q
  · exact h' pins s σ H xs us Q I r q
def rLenX (K : Frg) : List V → Hp → VK → Prop := fun xs H Q => (∃ x n, xs = [x] ∧ LenV K x H n ∧ Q (.int n) H) ∨ ∃ d kvs, xs = [.ref d] ∧ H d = some (.dK kvs) ∧ Q (.int kvs.length) H
def fLen : FN := fun ds M => match ds with
  | [.str s] => (match lineB s.length with
    | true => .ok (.int s.length) M
    | false => .no)
  | [.dic ks _] => .ok (.int ks.length) M
  | [.obj n] => (match M[n]? with
    | some (.dic kvs) => .ok (.int kvs.length) M
    | some (.lst es) => .ok (.int es.length) M
    | some (.ro es) => .ok (.int es.length) M
    | _ => .no)
  | [.tup es] => .ok (.int es.length) M
  | [.lst es] => .ok (.int es.length) M
  | _ => .no
theorem o_len {K : Frg} : OpN K (rLenX K) fLen := by
  intro φ M H xs ds Q W S r h
  have seq : ∀ (d : D) (es : List D) (v : V), xs = [v] → Rep K φ H d v → seqOf M d = some es → Okd K φ H (RE K) (.ok (.int es.length) M) Q W → rLenX K xs H Q := fun d es v hx rv e h => by
    obtain ⟨p, ys, hv, hs, r⟩ := seq_rep S rv e
    have q := okI S h
    rw [← r.len] at q
    refine .inl ⟨v, ys.length, hx, ?_, q⟩
    rw [hv]
    rcases hs with hs | hs
    · exact .inl ⟨ys, hs, rfl⟩
    · exact .inr ⟨ys, hs, rfl⟩
  cases ds with
  | nil => exact h.elim
  | cons d r2 =>
    cases r2 with
    | cons d2 r3 => cases d <;> exact h.elim
    | nil =>
      obtain ⟨v, vr, e, rv, rr⟩ := r.inv
      have e2 := rr.inv0
      subst e2
      cases d with
      | str s =>
        have h : Okd K φ H (RE K) (match lineB s.length with
          | true => .ok (.int s.length) M
          | false => .no) Q W := h
        cases q : lineB s.length with
        | false => rw [q] at h; exact h.elim
        | true =>
          rw [q] at h
          exact .inl ⟨v, s.length, e, by rw [rep_str_inv rv]; exact ⟨lineB_ok q, rfl⟩, okI S h⟩
      | dic ks es =>
        unfold Rep at rv
        obtain ⟨a, kv, h1, _, h2, h3, _⟩ := rv
        have q := okI S h
        refine .inr ⟨a, kv, by rw [e, h1], h2, ?_⟩
        rw [← h3, List.length_map] at q
        exact q
      | obj n =>
        have h : Okd K φ H (RE K) (match M[n]? with
          | some (.dic kvs) => .ok (.int kvs.length) M
          | some (.lst es) => .ok (.int es.length) M
          | some (.ro es) => .ok (.int es.length) M
          | _ => .no) Q W := h
        split at h
        · rename_i kvs q
          unfold Rep at rv
          obtain ⟨a, h1, h2⟩ := rv
          obtain ⟨kv, h3, h4⟩ := S.ob n a _ h1 q
          have q := okI S h
          refine .inr ⟨a, kv, by rw [e, h2], h3, ?_⟩
          rw [← h4.len] at q
          exact q
        · rename_i es q
          have sq : seqOf M (.obj n) = some es := by
            simp only [seqOf, q]
          exact seq (.obj n) es v e rv sq h
        · rename_i es q
          have sq : seqOf M (.obj n) = some es := by
            simp only [seqOf, q]
          exact seq (.obj n) es v e rv sq h
        · exact h.elim
      | tup es => exact seq _ es v e rv rfl h
      | lst es => exact seq _ es v e rv rfl h
      | _ => exact h.elim
theorem c_len {X : Cx} : CallR X (.builtin "len") (rLenX X.K) := CallR.or' call_len call_lenD
/-! ### what is walked -/
theorem Mo.trans {φ φ1 φ2 : Wd} {H H1 H2 : Hp} (g : Mo φ H φ1 H1) (k : Mo φ1 H1 φ2 H2) : Mo φ H φ2 H2 :=
  ⟨fun a u n h => let ⟨n1, h1⟩ := g.out a u n h; k.out a u n1 h1, fun i a h => k.get i a (g.get i a h)⟩
noncomputable def isAt (M : Mem) (n : Nat) (mo : MO) : Bool := @decide (M[n]? = some mo) (Classical.propDecidable _)
theorem isAt_ok {M : Mem} {n : Nat} {mo : MO} (h : isAt M n mo = true) : M[n]? = some mo := @of_decide_eq_true _ (Classical.propDecidable _) h
theorem isAt_of {M : Mem} {n : Nat} {mo : MO} (h : M[n]? = some mo) : isAt M n mo = true := @decide_eq_true _ (Classical.propDecidable _) h
def anyM : Mem → Bool := fun _ => true
/-- over a list -/
noncomputable def dItL (de : DE) : DI := fun r M => (de r M).bind fun d M1 => match d with
  | .lst ds => .ok ⟨ds, anyM⟩ M1
  | .obj n => (match M1[n]? with
    | some (.lst ds) => .ok ⟨ds, fun M => isAt M n (.lst ds)⟩ M1
    | some (.ro ds) => .ok ⟨ds, fun M => isAt M n (.ro ds)⟩ M1
    | _ => .no)
  | _ => .no
theorem serves_list {K : Frg} {φ1 : Wd} {H1 : Hp} {a : Addr} {ds : List D} {chk : Mem → Bool} (h : ∀ φ M H, Mo φ1 H1 φ H → Sto K φ M H → chk M = true → ∃ xs, SqL K H a xs ∧ RepL K φ H ds xs) : Serves K φ1 H1 ⟨ds, chk⟩ (Itl K a) := by
  intro i φ M H g S c
  obtain ⟨xs, h1, h2⟩ := h φ M H g S c
  refine ⟨fun e => ⟨xs, h1, by rw [h2.len, e]; exact Nat.le_refl _⟩, fun d e => ?_⟩
  obtain ⟨v, e1, e2⟩ := h2.get e
  refine ⟨⟨xs, v, h1, e1⟩, fun x H' y => ?_⟩
  obtain ⟨rfl, y⟩ := y
  have q := y xs h1
  rw [e1] at q; cases q
  exact ⟨φ, Grow.refl, S, e2⟩
section
variable {X : Cx} {W : WX} {pos : Pos} {tg e : Expr} {de : DE}
theorem di_list (he : DEx X W e de) : DIx X W tg e (dItL de) := by
  obtain ⟨_, p, s⟩ := he
  refine ⟨_, pi_list p, fun φ M H σ r R S E h => ?_⟩
  refine s φ M H σ r _ S E (Okd.bind h fun d M1 v φ1 H1 _ g1 S1 rv h1 => ?_)
  cases d with
  | lst ds =>
    unfold RE Rep at rv
    obtain ⟨a, xs, e, st, rl⟩ := rv
    exact ⟨a, e, ⟨xs, st.sq⟩, h1 _ φ1 H1 Grow.refl S1 (serves_list fun φ M H g S c => ⟨xs, (st.mo g).sq, RepL.mo g _ _ rl⟩)⟩
  | obj n =>
    unfold RE Rep at rv
    obtain ⟨a, ha, e⟩ := rv
    have h1 : Okd X.K φ1 H1 (fun φ H => Serves X.K φ H) (match M1[n]? with
      | some (.lst ds) => .ok ⟨ds, fun M => isAt M n (.lst ds)⟩ M1
      | some (.ro ds) => .ok ⟨ds, fun M => isAt M n (.ro ds)⟩ M1
      | _ => .no) R (fun c d H' => W c d σ H') := h1
    split at h1
    · rename_i ds q
      obtain ⟨xs, e1, e2⟩ := S1.ob n a _ ha q
      refine ⟨a, e, ⟨xs, SqL.of e1⟩, h1 _ φ1 H1 Grow.refl S1 (serves_list fun φ M H g S c => ?_)⟩
      obtain ⟨ys, k1, k2⟩ := S.ob n a _ (g.get n a ha) (isAt_ok c)
      exact ⟨ys, SqL.of k1, k2⟩
    · rename_i ds q
      obtain ⟨xs, e1, e2⟩ := S1.ob n a _ ha q
      refine ⟨a, e, ⟨xs, .inl e1⟩, h1 _ φ1 H1 Grow.refl S1 (serves_list fun φ M H g S c => ?_)⟩
      obtain ⟨ys, k1, k2⟩ := S.ob n a _ (g.get n a ha) (isAt_ok c)
      exact ⟨ys, .inl k1, k2⟩
    · exact h1.elim
  | _ => exact h1.elim
/-- over a tuple -/
def dItT (de : DE) : DI := fun r M => (de r M).bind fun d M1 => match d with
  | .tup ds => .ok ⟨ds, anyM⟩ M1
  | _ => .no
theorem di_tup (he : DEx X W e de) : DIx X W tg e (dItT de) := by
  obtain ⟨_, p, s⟩ := he
  refine ⟨_, pi_tup p, fun φ M H σ r R S E h => ?_⟩
  refine s φ M H σ r _ S E (Okd.bind h fun d M1 v φ1 H1 _ g1 S1 rv h1 => ?_)
  cases d with
  | tup ds =>
    unfold RE Rep at rv
    obtain ⟨a, xs, e, st, rl⟩ := rv
    refine ⟨a, e, ⟨xs, st.sq⟩, h1 _ φ1 H1 Grow.refl S1 fun i φ M H g S c => ?_⟩
    have h2 := RepL.mo g _ _ rl
    have h1 := (st.mo g).sq
    refine ⟨fun e => ⟨xs, h1, by rw [h2.len, e]; exact Nat.le_refl _⟩, fun d e => ?_⟩
    obtain ⟨v, e1, e2⟩ := h2.get e
    refine ⟨⟨xs, v, h1, e1⟩, fun x H' y => ?_⟩
    obtain ⟨rfl, y⟩ := y
    have q := y xs h1
    rw [e1] at q; cases q
    exact ⟨φ, Grow.refl, S, e2⟩
  | _ => exact h1.elim
/-- over a text -/
def signs (s : Str) : List D := s.cps.toList.map fun c => .str ⟨#[c]⟩
def dItS (de : DE) : DI := fun r M => (de r M).bind fun d M1 => match d with
  | .str s => .ok ⟨signs s, anyM⟩ M1
  | _ => .no
theorem di_str (he : DEx X W e de) : DIx X W tg e (dItS de) := by
  obtain ⟨_, p, s⟩ := he
  refine ⟨_, pi_str p, fun φ M H σ r R S E h => ?_⟩
  refine s φ M H σ r _ S E (Okd.bind h fun d M1 v φ1 H1 _ g1 S1 rv h1 => ?_)
  cases d with
  | str s =>
    refine ⟨s, rep_str_inv rv, h1 _ φ1 H1 Grow.refl S1 fun i φ M H g S c => ?_⟩
    refine ⟨fun e => ?_, fun d e => ?_⟩
    · have e : i = (signs s).length := e
      unfold signs at e
      rw [List.length_map, Array.length_toList] at e
      exact Nat.le_of_eq e.symm
    · have e : (signs s)[i]? = some d := e
      unfold signs at e
      rw [List.getElem?_map] at e
      cases q : s.cps.toList[i]? with
      | none => rw [q] at e; cases e
      | some c =>
        rw [q] at e; cases e
        have hi := (List.getElem?_eq_some_iff.mp q).1
        rw [Array.length_toList] at hi
        refine ⟨hi, fun x H' y => ?_⟩
        obtain ⟨rfl, c', h3, rfl⟩ := y
        have q' : s.cps[i]? = some c := by rw [← Array.getElem?_toList]; exact q
        rw [q'] at h3; cases h3
        exact ⟨φ, Grow.refl, S, rep_str⟩
  | _ => exact h1.elim
/-- range(n), range(a, b) -/
def irng (lo : Int) (n : Nat) : List D := (List.range n).map fun (i : Nat) => .int (lo + (i : Nat))
def small62 (i : Int) : Bool := decide (-(2 ^ 62) ≤ i) && decide (i < 2 ^ 62)
theorem small62_ok {i : Int} (h : small62 i = true) : -(2 ^ 62) ≤ i ∧ i < 2 ^ 62 := by
  obtain ⟨a, b⟩ := Bool.and_eq_true_iff.mp h
  exact ⟨of_decide_eq_true a, of_decide_eq_true b⟩
theorem serves_range {K : Frg} {φ1 : Wd} {H1 : Hp} {lo : Int} {n : Nat} : Serves K φ1 H1 ⟨irng lo n, anyM⟩ (Itr lo n) := by
  intro i φ M H g S c
  refine ⟨fun e => ?_, fun d e => ?_⟩
  · have e : i = (irng lo n).length := e
    unfold irng at e
    rw [List.length_map, List.length_range] at e
    exact Nat.le_of_eq e.symm
  · have e : (irng lo n)[i]? = some d := e
    unfold irng at e
    rw [List.getElem?_map] at e
    have hi : i < n := by
      by_cases h : i < n
      · exact h
      · rw [List.getElem?_eq_none (by simpa using h)] at e; cases e
    rw [List.getElem?_range hi] at e
    cases e
    refine ⟨hi, fun x H' y => ?_⟩
    obtain ⟨rfl, rfl⟩ := y
    exact ⟨φ, Grow.refl, S, rep_int⟩
def dItR1 (da : DE) : DI := fun r M => (da r M).bind fun d M1 => match d with
  | .int j => (match small62 j with
    | true => .ok ⟨irng 0 j.toNat, anyM⟩ M1
    | false => .no)
  | _ => .no
theorem di_range1 {a : Expr} {da : DE} {p : Pos} (hg : Gl X "range") (hm : X.mg "range" = none) (ha : DEx X W a da) (hs : starEach [a] X.env = [(false, eval a X.env)] := by rfl) : DIx X W tg (.Call (.Name "range" p) [a] [] pos) (dItR1 da) := by
  obtain ⟨_, p1, s1⟩ := ha
  refine ⟨_, pi_range1 hg hm (pa_cons p1 pa_nil hs) hs, fun φ M H σ r R S E h => ?_⟩
  refine s1 φ M H σ r _ S E (Okd.bind h fun d M1 v φ1 H1 _ g1 S1 rv h1 => ?_)
  cases d with
  | int j =>
    have h1 : Okd X.K φ1 H1 (fun φ H => Serves X.K φ H) (match small62 j with
      | true => .ok ⟨irng 0 j.toNat, anyM⟩ M1
      | false => .no) R (fun c d H' => W c d σ H') := h1
    cases q : small62 j with
    | false => rw [q] at h1; exact h1.elim
    | true =>
      rw [q] at h1
      obtain ⟨k1, k2⟩ := small62_ok q
      exact ⟨j, by rw [rep_int_inv rv], k1, k2, h1 _ φ1 H1 Grow.refl S1 serves_range⟩
  | _ => exact h1.elim
def dItR2 (da db : DE) : DI := fun r M => (da r M).bind fun d M1 => (db r M1).bind fun e M2 => match d, e with
  | .int i, .int j => (match small62 i && small62 j with
    | true => .ok ⟨irng i (j - i).toNat, anyM⟩ M2
    | false => .no)
  | _, _ => .no
theorem di_range2 {a b : Expr} {da db : DE} {p : Pos} (hg : Gl X "range") (hm : X.mg "range" = none) (ha : DEx X W a da) (hb : DEx X W b db) (hs : starEach [a, b] X.env = [(false, eval a X.env), (false, eval b X.env)] := by rfl) (hs2 : starEach [b] X.env = [(false, eval b X.env)] := by rfl) :
    DIx X W tg (.Call (.Name "range" p) [a, b] [] pos) (dItR2 da db) := by
  obtain ⟨_, p1, s1⟩ := ha
  obtain ⟨_, p2, s2⟩ := hb
  refine ⟨_, pi_range2 hg hm (pa_cons p1 (pa_cons p2 pa_nil hs2) (by rw [hs, hs2])) hs hs2, fun φ M H σ r R S E h => ?_⟩
  refine s1 φ M H σ r _ S E (Okd.bind h fun d M1 v φ1 H1 _ g1 S1 rv h1 => ?_)
  refine s2 φ1 M1 H1 σ r _ S1 (E.grow g1) (Okd.bind h1 fun e M2 u φ2 H2 _ g2 S2 ru h2 => ?_)
  cases d with
  | int i =>
    cases e with
    | int j =>
      have h2 : Okd X.K φ2 H2 (fun φ H => Serves X.K φ H) (match small62 i && small62 j with
        | true => .ok ⟨irng i (j - i).toNat, anyM⟩ M2
        | false => .no) R (fun c d H' => W c d σ H') := h2
      cases q : small62 i && small62 j with
      | false => rw [q] at h2; exact h2.elim
      | true =>
        rw [q] at h2
        obtain ⟨q1, q2⟩ := Bool.and_eq_true_iff.mp q
        obtain ⟨k1, k2⟩ := small62_ok q1
        obtain ⟨k3, k4⟩ := small62_ok q2
        exact ⟨i, j, by rw [rep_int_inv rv, rep_int_inv ru], ⟨k1, k2, k3, k4⟩, h2 _ φ2 H2 Grow.refl S2 serves_range⟩
    | _ => exact h2.elim
  | _ => cases e <;> exact h2.elim
/-- reversed(range(n)) -/
def dItRR1 (da : DE) : DI := fun r M => (da r M).bind fun d M1 => match d with
  | .int j => (match small62 j with
    | true => .ok ⟨(irng 0 j.toNat).reverse, anyM⟩ M1
    | false => .no)
  | _ => .no
theorem irng_rev {n i : Nat} {d : D} (h : (irng 0 n).reverse[i]? = some d) : i < n ∧ d = .int ((n : Int) - 1 - (i : Nat)) := by
  have hl : (irng 0 n).length = n := by unfold irng; rw [List.length_map, List.length_range]
  have hi : i < n := by
    have z := (List.getElem?_eq_some_iff.mp h).1
    rw [List.length_reverse, hl] at z; exact z
  refine ⟨hi, ?_⟩
  rw [List.getElem?_reverse (by rw [hl]; exact hi), hl] at h
  unfold irng at h
  rw [List.getElem?_map, List.getElem?_range (by omega)] at h
  cases h
  have z : (0 : Int) + ((n - 1 - i : Nat) : Int) = (n : Int) - 1 - (i : Nat) := by omega
  exact congrArg D.int z
theorem di_rrange1 {a : Expr} {da : DE} {p p2 pos2 : Pos} (hg : Gl X "reversed") (hm : X.mg "reversed" = none) (hg2 : Gl X "range") (hm2 : X.mg "range" = none) (ha : DEx X W a da) (na : starEach [a] X.env = (false, eval a X.env) :: starEach [] X.env := by rfl)
    (hs : starEach [.Call (.Name "range" p2) [a] [] pos2] X.env = (false, eval (.Call (.Name "range" p2) [a] [] pos2) X.env) :: starEach [] X.env := by rfl) :
    DIx X W tg (.Call (.Name "reversed" p) [.Call (.Name "range" p2) [a] [] pos2] [] pos) (dItRR1 da) := by
  obtain ⟨_, p1, s1⟩ := ha
  refine ⟨_, pi_revR hg hm (prg_1 hg2 hm2 p1 na) hs, fun φ M H σ r R S E h => ?_⟩
  refine s1 φ M H σ r _ S E (Okd.bind h fun d M1 v φ1 H1 _ g1 S1 rv h1 => ?_)
  cases d with
  | int j =>
    have h1 : Okd X.K φ1 H1 (fun φ H => Serves X.K φ H) (match small62 j with
      | true => .ok ⟨(irng 0 j.toNat).reverse, anyM⟩ M1
      | false => .no) R (fun c d H' => W c d σ H') := h1
    cases q : small62 j with
    | false => rw [q] at h1; exact h1.elim
    | true =>
      rw [q] at h1
      obtain ⟨k1, k2⟩ := small62_ok q
      refine ⟨j, rep_int_inv rv, by decide, by decide, k1, k2, h1 _ φ1 H1 Grow.refl S1 fun i φ M H g S c => ⟨fun e => ?_, fun d e => ?_⟩⟩
      · have e : i = (irng 0 j.toNat).reverse.length := e
        unfold irng at e
        rw [List.length_reverse, List.length_map, List.length_range] at e
        have z : (j - 0).toNat = j.toNat := by omega
        show (j - 0).toNat ≤ i
        omega
      · obtain ⟨hi, hd⟩ := irng_rev e
        refine ⟨by show i < (j - 0).toNat; omega, fun x H' y => ?_⟩
        obtain ⟨rfl, rfl⟩ := y
        refine ⟨φ, Grow.refl, S, ?_⟩
        subst hd
        unfold Rep
        congr 1
        omega
  | _ => exact h1.elim
end
end LF
set_option Elab.async false
set_option linter.all false
set_option maxRecDepth 100000
set_option maxHeartbeats 2000000
/-! LF7: list comprehensions. -/
namespace LF
open PySem PySem.Spec PyProof.Rows L2
/-- the names' data with the places vs forgotten -/
def wipeD (r : Env') : List Nat → Env'
  | [] => r
  | v :: vs => (wipeD r vs).set v none
theorem EnvR.wipe {K : Frg} {φ : Wd} {H : Hp} {r : Env'} {σ : L2.St} (h : EnvR K φ H r σ) : ∀ vs : List Nat, EnvR K φ H (wipeD r vs) (L2.wipe σ vs)
  | [] => h
  | v :: vs => by unfold wipeD L2.wipe; exact (EnvR.wipe h vs).unset
theorem wipe_set_in {σ : L2.St} {i : Nat} {x : Option V} : ∀ {vs : List Nat}, i ∈ vs → L2.wipe (σ.set i x) vs = L2.wipe σ vs
  | v :: vs, h => by
    unfold L2.wipe
    by_cases hv : i ∈ vs
    · rw [wipe_set_in hv]
    · have e : i = v := by
        rcases List.mem_cons.mp h with q | q
        · exact q
        · exact absurd q hv
      subst e
      have out : ∀ {ws : List Nat}, i ∉ ws → L2.wipe (σ.set i x) ws = (L2.wipe σ ws).set i x := by
        intro ws
        induction ws with
        | nil => intro _; rfl
        | cons w ws ih =>
          intro hn
          unfold L2.wipe
          rw [ih (fun z => hn (List.mem_cons_of_mem _ z)), List.set_comm _ _ (fun z => hn (by rw [z]; exact List.mem_cons_self))]
      rw [out hv, List.set_set]
theorem wipe_get {σ : L2.St} {j : Nat} : ∀ {vs : List Nat}, (L2.wipe σ vs)[j]? = if j ∈ vs ∧ j < σ.length then some none else σ[j]?
  | [] => by simp [L2.wipe]
  | v :: vs => by
    have ih := wipe_get (σ := σ) (j := j) (vs := vs)
    unfold L2.wipe
    by_cases e : v = j
    · subst e
      by_cases hl : v < σ.length
      · rw [List.getElem?_set_self (by rw [L2.wipe_length]; exact hl), if_pos ⟨List.mem_cons_self, hl⟩]
      · rw [List.getElem?_eq_none (by rw [List.length_set, L2.wipe_length]; omega), if_neg (fun z => hl z.2), List.getElem?_eq_none (by omega)]
    · rw [List.getElem?_set_ne e, ih]
      by_cases hm : j ∈ vs
      · simp [hm]
      · have : j ∉ v :: vs := fun z => (List.mem_cons.mp z).elim (fun q => e q.symm) hm
        rw [if_neg (fun z => hm z.1), if_neg (fun z => this z.1)]
theorem wipe_idem (σ : L2.St) (vs : List Nat) : L2.wipe (L2.wipe σ vs) vs = L2.wipe σ vs := by
  refine List.ext_getElem? fun j => ?_
  rw [wipe_get, wipe_get, L2.wipe_length]
  split
  · rfl
  · rfl
/-- a target within a comprehension: it stores its own names alone -/
def SimC (K : Frg) (vs : List Nat) (g : TG) (dg : DG) : Prop := ∀ φ M H σ r x d Q, Sto K φ M H → EnvR K φ H r σ → Rep K φ H d x → (match dg d r M with
  | .ok r1 M1 => ∀ σ' φ' H', Grow φ H φ' H' → Sto K φ' M1 H' → EnvR K φ' H' r1 σ' → L2.wipe σ' vs = L2.wipe σ vs → Q σ' H'
  | _ => False) → g x σ H Q
def SimCs (K : Frg) (vs : List Nat) (g : TGs) (dg : List D → Env' → Mem → Out Env') : Prop := ∀ φ M H σ r xs ds Q, Sto K φ M H → EnvR K φ H r σ → RepL K φ H ds xs → (match dg ds r M with
  | .ok r1 M1 => ∀ σ' φ' H', Grow φ H φ' H' → Sto K φ' M1 H' → EnvR K φ' H' r1 σ' → L2.wipe σ' vs = L2.wipe σ vs → Q σ' H'
  | _ => False) → g xs σ H Q
def DCx (X : Cx) (vs : List Nat) (tg : Expr) (dg : DG) : Prop := ∃ g, PG X tg g ∧ SimC X.K vs g dg
def DCsx (X : Cx) (vs : List Nat) (tg : List Expr) (dg : List D → Env' → Mem → Out Env') : Prop := ∃ g, PGs X tg g ∧ SimCs X.K vs g dg
section
variable {X : Cx} {vs : List Nat} {pos : Pos}
theorem dc_name {i : Nat} {x : Str} (hN : X.N.Nodup) (hi : X.N[i]? = some x) (hx : Loc X.env.scope x) (hv : i ∈ vs) (hf : X.fn x = true ∨ X.env.scope.names.lookup x = some .local := by first | exact .inl rfl | exact .inr rfl | assumption) : DCx X vs (.Name x pos) (gSlot i) :=
  ⟨_, pg_name hN hi hx hf, fun φ M H σ r x d Q S er rx h => h _ φ H Grow.refl S (er.set rx) (wipe_set_in hv)⟩
theorem dcs_nil : DCsx X vs [] gsNil := ⟨_, pgs_nil, fun φ M H σ r xs ds Q S er rx h => by
  cases ds with
  | nil => exact ⟨rx.inv0, h σ φ H Grow.refl S er rfl⟩
  | cons d ds => exact h.elim⟩
theorem dcs_cons {e : Expr} {es : List Expr} {g : DG} {gs : List D → Env' → Mem → Out Env'} (h1 : DCx X vs e g) (h2 : DCsx X vs es gs)
    (hs : (assignEach (e :: es) X.env).map (·.2) = assign e X.env :: (assignEach es X.env).map (·.2) := by rfl) : DCsx X vs (e :: es) (gsCons g gs) := by
  obtain ⟨_, p1, s1⟩ := h1
  obtain ⟨_, p2, s2⟩ := h2
  refine ⟨_, pgs_cons p1 p2 hs, fun φ M H σ r xs ds Q S er rx h => ?_⟩
  cases ds with
  | nil => exact h.elim
  | cons d ds =>
    obtain ⟨v, rr, rfl, r1, r2⟩ := rx.inv
    have h : (match (match g d r M with
      | .ok r1 M1 => gs ds r1 M1
      | _ => .no) with
      | .ok r1 M1 => ∀ σ' φ' H', Grow φ H φ' H' → Sto X.K φ' M1 H' → EnvR X.K φ' H' r1 σ' → L2.wipe σ' vs = L2.wipe σ vs → Q σ' H'
      | _ => False) := h
    refine ⟨v, rr, rfl, s1 φ M H σ r v d _ S er r1 ?_⟩
    cases q : g d r M with
    | ok r3 M3 =>
      rw [q] at h
      dsimp only at h
      intro σ' φ' H' g' S' er' w'
      refine s2 φ' M3 H' σ' r3 rr ds _ S' er' (RepL.grow g' _ _ r2) ?_
      cases q2 : gs ds r3 M3 with
      | ok r4 M4 => rw [q2] at h; exact fun σ2 φ2 H2 g2 S2 er2 w2 => h σ2 φ2 H2 (g'.trans g2) S2 er2 (w2.trans w')
      | _ => rw [q2] at h; exact h.elim
    | _ => rw [q] at h; exact h.elim
theorem dc_tup {es : List Expr} {k n : Nat} {gs : List D → Env' → Mem → Out Env'} (hc : X.calm = true) (h : DCsx X vs es gs) (hn : (assignEach es X.env).length = n := by rfl) (hst : (assignEach es X.env).findIdx? (·.1) = none := by rfl) : DCx X vs (.Tuple es k pos) (gTupD n gs) := by
  obtain ⟨_, p, s⟩ := h
  refine ⟨_, pg_tup hc p hn hst, fun φ M H σ r x d Q S er rx h => ?_⟩
  cases d with
  | tup ds =>
    unfold Rep at rx
    obtain ⟨a, xs, rfl, h1, h2⟩ := rx
    have h : (match (match Nat.beq ds.length n with
      | true => gs ds r M
      | false => .no) with
      | .ok r1 M1 => ∀ σ' φ' H', Grow φ H φ' H' → Sto X.K φ' M1 H' → EnvR X.K φ' H' r1 σ' → L2.wipe σ' vs = L2.wipe σ vs → Q σ' H'
      | _ => False) := h
    cases hb : Nat.beq ds.length n with
    | true =>
      rw [hb] at h
      exact ⟨a, xs, rfl, h1.sq, by rw [h2.len]; exact Nat.eq_of_beq_eq_true hb, s φ M H σ r xs ds Q S er h2 h⟩
    | false => rw [hb] at h; exact h.elim
  | _ => exact h.elim
end
/-! ### readings that hang on plain data alone -/
def tDE (K : Frg) (W : WX) (de : DE) : TE := fun σ H Q => ∃ φ M r, Sto K φ M H ∧ EnvR K φ H r σ ∧ Okd K φ H (RE K) (de r M) Q (fun c d H' => W c d σ H')
def tDT (K : Frg) (W : WX) (dt : DT) : TT := fun σ H Q => ∃ φ M r, Sto K φ M H ∧ EnvR K φ H r σ ∧ Okd K φ H RT (dt r M) Q (fun c d H' => W c d σ H')
def tDC (K : Frg) (vs : List Nat) (dg : DG) : TG := fun x σ H Q => ∃ φ M r d, Sto K φ M H ∧ EnvR K φ H r σ ∧ Rep K φ H d x ∧ (match dg d r M with
  | .ok r1 M1 => ∀ σ' φ' H', Grow φ H φ' H' → Sto K φ' M1 H' → EnvR K φ' H' r1 σ' → L2.wipe σ' vs = L2.wipe σ vs → Q σ' H'
  | _ => False)
theorem DEx.pe {X : Cx} {W : WX} {e : Expr} {de : DE} (h : DEx X W e de) : PE X e (tDE X.K W de) := by
  obtain ⟨t, p, s⟩ := h
  exact ⟨fun pins sh σ H Q I ⟨φ, M, r, S, E, o⟩ => p.run pins sh σ H Q I (s φ M H σ r Q S E o)⟩
theorem DTx.pt {X : Cx} {W : WX} {e : Expr} {dt : DT} (h : DTx X W e dt) : PT X e (tDT X.K W dt) := by
  obtain ⟨t, p, s⟩ := h
  exact ⟨fun pins sh σ H Q I ⟨φ, M, r, S, E, o⟩ => p.run pins sh σ H Q I (s φ M H σ r Q S E o)⟩
theorem DCx.pg {X : Cx} {vs : List Nat} {e : Expr} {dg : DG} (h : DCx X vs e dg) : PG X e (tDC X.K vs dg) := by
  obtain ⟨t, p, s⟩ := h
  exact ⟨fun pins sh σ H v u Q I rv ⟨φ, M, r, d, S, E, rd, o⟩ => p.run pins sh σ H v u Q I rv (s φ M H σ r v d Q S E rd o)⟩
/-- a clause's tests -/
def dYes : DT := fun _ M => .ok true M
def DPx (X : Cx) (W : WX) (ifs : List Expr) (dt : DT) : Prop := PTs X ifs (tDT X.K W dt)
theorem dp_nil {X : Cx} {W : WX} : DPx X W [] dYes := ⟨fun pins sh σ H Q I ⟨φ, M, r, S, E, o⟩ => (pts_nil (X := X)).run pins sh σ H Q I (o.here S rfl)⟩
theorem dp_one {X : Cx} {W : WX} {c : Expr} {dt : DT} (h : DTx X W c dt) : DPx X W [c] dt := pts_one h.pt
/-- the turns -/
def compL (chk : Mem → Bool) (dg : DG) (dt : DT) (de : DE) (r0 : Env') : List D → List D → Mem → Out (List D)
  | [], acc, M => (match chk M with
    | true => .ok acc M
    | false => .no)
  | d :: ds, acc, M => match chk M with
    | true => (match dg d r0 M with
      | .ok r1 M1 => (match dt r1 M1 with
        | .ok true M2 => (match de r1 M2 with
          | .ok y M3 => (match lineB acc.length with
            | true => compL chk dg dt de r0 ds (acc ++ [y]) M3
            | false => .no)
          | _ => .no)
        | .ok false M2 => compL chk dg dt de r0 ds acc M2
        | _ => .no)
      | _ => .no)
    | false => .no
def dComp (di : DI) (dg : DG) (dt : DT) (de : DE) (vs : List Nat) : DE := fun r M => (di r M).bind fun src M1 => (compL src.chk dg dt de (wipeD r vs) src.items [] M1).bind fun ys M2 => .ok (.lst ys) M2
abbrev Wf : WX := fun _ _ _ _ => False
theorem lineB_lt {n : Nat} (h : lineB n = true) : n < sizeLine := Nat.lt_of_le_of_lt (Nat.le_of_ble_eq_true h) (by rw [sizeLine_eq]; decide)
/-- the state within: D is under construction -/
structure Wk (K : Frg) (φ1 : Wd) (H1 : Hp) (D : Addr) (σ0 : L2.St) (r0 : Env') (φ : Wd) (M : Mem) (H : Hp) (acc : List LF.D) (xs : List V) : Prop where
  S : Sto K φ M H
  lk : φ.lk = D :: φ1.lk
  g : Grow φ1 H1 ⟨φ.ar, φ1.lk⟩ H
  na : D ∉ φ.ar
  hD : H D = some (.lst xs)
  r : RepL K φ H acc xs
  mo : Mo φ1 H1 φ H
  E : EnvR K φ H r0 σ0
theorem sim_comp {K : Frg} {W : WX} {wi : TI} {di : DI} {dg : DG} {dt : DT} {de : DE} {vs : List Nat} (hi : SimI K W wi di) : SimE K W (tLc wi (tDC K vs dg) (tDT K Wf dt) (tDE K Wf de) vs) (dComp di dg dt de vs) := by
  intro φ M H σ r Q S E h
  refine hi φ M H σ r _ S E (Okd.bind h fun src M1 J φ1 H1 _ g1 S1 sv h1 => ?_)
  intro D hD
  have E1 := E.grow g1
  have Wk0 : Wk K φ1 H1 D (L2.wipe σ vs) (wipeD r vs) (φ1.lock D) M1 (upd H1 D (.lst [])) [] [] :=
    ⟨S1.lock hD, rfl, Grow.new hD, fun z => S1.mem z hD, upd_same, RepL.nil, Mo.lock hD, (E1.wipe vs).mo (Mo.lock hD)⟩
  refine ⟨fun i m H => m = src.items.length - i ∧ i ≤ src.items.length ∧ ∃ φ M acc xs, Wk K φ1 H1 D (L2.wipe σ vs) (wipeD r vs) φ M H acc xs ∧
    Okd K φ1 H1 (RE K) ((compL src.chk dg dt de (wipeD r vs) (src.items.drop i) acc M).bind fun ys M2 => .ok (.lst ys) M2) Q (fun c d H' => W c d σ H'), ⟨_, rfl, Nat.zero_le _, _, M1, [], [], Wk0, h1⟩, ?_⟩
  rintro i m H2 ⟨rfl, hi, φ2, M2, acc, xs, w, h2⟩
  by_cases hlt : i < src.items.length
  · have hd : src.items.drop i = src.items[i] :: src.items.drop (i + 1) := List.drop_eq_getElem_cons hlt
    rw [hd] at h2
    unfold compL at h2
    cases hc : src.chk M2 with
    | false => rw [hc] at h2; exact h2.elim
    | true =>
      rw [hc] at h2
      obtain ⟨_, sv2⟩ := sv i φ2 M2 H2 w.mo w.S hc
      obtain ⟨go, yl⟩ := sv2 src.items[i] (List.getElem?_eq_getElem hlt)
      refine .inr ⟨go, fun H' => ∃ φ M acc xs, Wk K φ1 H1 D (L2.wipe σ vs) (wipeD r vs) φ M H' acc xs ∧
        Okd K φ1 H1 (RE K) ((compL src.chk dg dt de (wipeD r vs) (src.items.drop (i + 1)) acc M).bind fun ys M2 => .ok (.lst ys) M2) Q (fun c d H' => W c d σ H'), fun H' n => ⟨_, by omega, rfl, hlt, n⟩, fun x H3 hy => ?_⟩
      obtain ⟨φ3, g3, S3, r3⟩ := yl x H3 hy
      -- a state that has grown
      have up : ∀ {φ4 : Wd} {H4 : Hp} {M4 : Mem}, Grow φ2 H2 φ4 H4 → Sto K φ4 M4 H4 → Wk K φ1 H1 D (L2.wipe σ vs) (wipeD r vs) φ4 M4 H4 acc xs := fun {φ4 H4 M4} g S4 =>
        ⟨S4, g.lk.trans w.lk, ⟨by
          obtain ⟨ψ, e, hψ⟩ := w.g.ext
          obtain ⟨χ, e2, hχ⟩ := g.ext
          refine ⟨ψ ++ χ, by show φ4.ar = _; rw [e2]; have e : φ2.ar = φ1.ar ++ ψ := e; rw [e, List.append_assoc], fun a ha => ?_⟩
          rcases List.mem_append.mp ha with q | q
          · exact hψ a q
          · exact w.g.dom a (hχ a q), rfl, fun a o h n => g.stay a o (w.g.stay a o h n) (by
            intro z
            obtain ⟨ψ, e, hψ⟩ := w.g.ext
            have e : φ2.ar = φ1.ar ++ ψ := e
            rw [e] at z
            rcases List.mem_append.mp z with q | q
            · exact n q
            · rw [hψ a q] at h; cases h), fun a h => w.g.dom a (g.dom a h)⟩,
          g.notin w.hD w.na, g.stay _ _ w.hD w.na, RepL.grow g _ _ w.r, w.mo.trans g.mo, w.E.grow g⟩
      refine ⟨φ3, M2, wipeD r vs, src.items[i], S3, w.E.grow g3, r3, ?_⟩
      cases q : dg src.items[i] (wipeD r vs) M2 with
      | ok r4 M4 =>
        rw [q] at h2
        dsimp only at h2
        intro σ4 φ4 H4 g4 S4 er4 w4
        refine ⟨w4.trans (wipe_idem _ _), φ4, M4, r4, S4, er4, ?_⟩
        cases q2 : dt r4 M4 with
        | ok b M5 =>
          rw [q2] at h2
          intro b' φ5 H5 g5 S5 e5
          have e5 : b' = b := e5
          subst e5
          cases b' with
          | false =>
            rw [if_neg Bool.false_ne_true]
            exact ⟨φ5, M5, acc, xs, up ((g3.trans g4).trans g5) S5, h2⟩
          | true =>
            rw [if_pos rfl]
            dsimp only at h2
            refine ⟨φ5, M5, r4, S5, er4.grow g5, ?_⟩
            cases q3 : de r4 M5 with
            | ok y M6 =>
              rw [q3] at h2
              dsimp only at h2
              intro v φ6 H6 g6 S6 r6
              have w6 := up (((g3.trans g4).trans g5).trans g6) S6
              cases q4 : lineB acc.length with
              | false => rw [q4] at h2; exact h2.elim
              | true =>
                rw [q4] at h2
                have hp : D ∈ φ6.lk := by rw [w6.lk]; exact List.mem_cons_self
                have re : Mo φ6 H6 φ6 (upd H6 D (.lst (xs ++ [v]))) := Mo.relock hp
                refine ⟨xs, w6.hD, by rw [w6.r.len]; exact lineB_lt q4, φ6, M6, acc ++ [y], xs ++ [v], ⟨w6.S.relock hp w6.na, w6.lk, ⟨w6.g.ext, rfl, fun a o h n => ?_, fun a h => ?_⟩, w6.na, upd_same, (RepL.mo re _ _ w6.r).app (.cons (Rep.mo re _ _ r6) .nil), w6.mo.trans re, w6.E.mo re⟩, h2⟩
                · rw [upd_ne (ne_of_none h hD)]; exact w6.g.stay a o h n
                · by_cases z : a = D
                  · rw [z, upd_same] at h; cases h
                  · rw [upd_ne z] at h; exact w6.g.dom a h
            | _ => rw [q3] at h2; exact h2.elim
        | _ => rw [q2] at h2; exact h2.elim
      | _ => rw [q] at h2; exact h2.elim
  · have e : i = src.items.length := by omega
    subst e
    rw [List.drop_length] at h2
    unfold compL at h2
    cases hc : src.chk M2 with
    | false => rw [hc] at h2; exact h2.elim
    | true =>
      rw [hc] at h2
      refine .inl ⟨(sv _ φ2 M2 H2 w.mo w.S hc).1 rfl, ?_⟩
      have un : Mo φ2 H2 ⟨φ2.ar, φ1.lk⟩ H2 := ⟨fun a u n e => ⟨⟨n.1, fun z => n.2 (by rw [w.lk]; exact List.mem_cons_of_mem _ z)⟩, e⟩, fun _ _ e => e⟩
      have Su : Sto K ⟨φ2.ar, φ1.lk⟩ M2 H2 := ⟨w.S.len, w.S.nd, fun a ha => w.S.lk a (by rw [w.lk]; exact List.mem_cons_of_mem _ ha), fun i a mo e1 e2 => (w.S.ob i a mo e1 e2).mo un rfl⟩
      refine h2 (.ref D) ⟨φ2.ar, φ1.lk⟩ H2 w.g Su ?_
      show Rep K _ _ _ _
      unfold Rep
      exact ⟨D, xs, rfl, .inl ⟨⟨w.na, fun z => S1.lk D z hD⟩, .inl w.hD⟩, RepL.mo un _ _ w.r⟩
end LF
set_option Elab.async false
set_option linter.all false
set_option maxRecDepth 100000
set_option maxHeartbeats 2000000
/-! LF8: rules for comprehensions, methods of texts, isinstance, dicts, some built-ins. -/
namespace LF
open PySem PySem.Spec PyProof.Rows L2
section
variable {X : Cx} {W : WX} {pos : Pos}
theorem de_comp {elt tg iter : Expr} {ifs : List Expr} {scope : Scope} {own : List (Str × Nat)} {di : DI} {dg : DG} {dt : DT} {de : DE} (hc : X.calm = true) (hN : X.N.Nodup) (hi : DIx X W tg iter di) (ok : BlkOk X.N X.env.scope scope own)
    (hg : ∀ (s : Shared) (H : Hp) (C : Addr) (cl : List (Str × Addr)) (fp : List Addr), DCx (X.blk s H scope (compEnvC scope cl C X.env) fp) (own.map (·.2)) tg dg) (ht : ∀ (s : Shared) (H : Hp) (C : Addr) (cl : List (Str × Addr)) (fp : List Addr), DPx (X.blk s H scope (compEnvC scope cl C X.env) fp) Wf ifs dt)
    (he : ∀ (s : Shared) (H : Hp) (C : Addr) (cl : List (Str × Addr)) (fp : List Addr), DEx (X.blk s H scope (compEnvC scope cl C X.env) fp) Wf elt de) (hs : ∀ x, foldedSetIterable iter X.env x = pure x := by intro _; rfl) :
    DEx X W (.ListComp elt [⟨tg, iter, ifs, 0⟩] scope pos) (dComp di dg dt de (own.map (·.2))) := by
  obtain ⟨_, p, s⟩ := hi
  exact ⟨_, pe_lc (g := tDC X.K (own.map (·.2)) dg) (tt := tDT X.K Wf dt) (te := tDE X.K Wf de) hc hN p ok (fun s H C cl fp => (hg s H C cl fp).pg) ht (fun s H C cl fp => (he s H C cl fp).pe) hs, sim_comp s⟩
theorem ds_setComp {i : Nat} {y : Str} {py : Pos} {elt tg iter : Expr} {ifs : List Expr} {scope : Scope} {own : List (Str × Nat)} {spos : Pos} {di : DI} {dg : DG} {dt : DT} {de : DE} (hc : X.calm = true) (hN : X.N.Nodup) (hy : X.N[i]? = some y) (hyl : X.env.scope.names.lookup y = some .local)
    (hsw : swapsWith (.ListComp elt [⟨tg, iter, ifs, 0⟩] scope pos) (some (.Name y py)) spos.line X.env = pure true) (hi : DIx X W tg iter di) (ok : BlkOk X.N X.env.scope scope own)
    (hg : ∀ (s : Shared) (H : Hp) (C : Addr) (cl : List (Str × Addr)) (fp : List Addr), DCx (X.blk s H scope (compEnvC scope cl C X.env) fp) (own.map (·.2)) tg dg) (ht : ∀ (s : Shared) (H : Hp) (C : Addr) (cl : List (Str × Addr)) (fp : List Addr), DPx (X.blk s H scope (compEnvC scope cl C X.env) fp) Wf ifs dt)
    (he : ∀ (s : Shared) (H : Hp) (C : Addr) (cl : List (Str × Addr)) (fp : List Addr), DEx (X.blk s H scope (compEnvC scope cl C X.env) fp) Wf elt de) (hs : ∀ x, foldedSetIterable iter X.env x = pure x := by intro _; rfl) :
    DSx X W (.Assign [.Name y py] (.ListComp elt [⟨tg, iter, ifs, 0⟩] scope pos) spos) (dAsg (dComp di dg dt de (own.map (·.2))) (gSlot i)) := by
  obtain ⟨_, p, s⟩ := hi
  exact ⟨_, ps_setLc (g := tDC X.K (own.map (·.2)) dg) (tt := tDT X.K Wf dt) (te := tDE X.K Wf de) hc hN hy hyl hsw p ok (fun s H C cl fp => (hg s H C cl fp).pg) ht (fun s H C cl fp => (he s H C cl fp).pe) hs, sim_asg (sim_comp s) sim_gName⟩
/-! ### s.m(e): methods of texts -/
def dM1 (f : Str → F1) (da db : DE) : DE := fun r M => (da r M).bind fun x M1 => match x with
  | .str s => (db r M1).bind fun y M2 => f s y M2
  | _ => .no
def OpM (K : Frg) (r : V → List V → Hp → VK → Prop) (f : Str → F1) : Prop := ∀ φ M H s y b Q W, Sto K φ M H → Rep K φ H b y → Okd K φ H (RE K) (f s b M) Q W → r (.str s) [y] H Q
theorem de_m1 {id : String} {name : Str} {apos : Pos} {rr : V → List V → Hp → VK → Prop} {f : Str → F1} {o e : Expr} {da db : DE} (slot : Slot "str" name id) (ty : typeOf (.builtin id) = pure (.type "method_descriptor")) (rule : MtR X id rr) (hf : OpM X.K rr f) (ho : DEx X W o da) (he : DEx X W e db)
    (hs : starEach [e] X.env = [(false, eval e X.env)] := by rfl) (hbase : attributeBase o name X.env (eval o X.env) = eval o X.env := by rfl) (hline : (apos.endLine == pos.line) = true := by rfl) :
    DEx X W (.Call (.Attribute o name apos) [e] [] pos) (dM1 f da db) := by
  obtain ⟨_, p1, s1⟩ := ho
  obtain ⟨_, p2, s2⟩ := he
  refine ⟨_, pe_m1 slot ty rule p1 p2 hs hbase hline, fun φ M H σ r Q S E h => ?_⟩
  refine s1 φ M H σ r _ S E (Okd.bind h fun d M1 v φ1 H1 _ g1 S1 rv h1 => ?_)
  cases d with
  | str s =>
    refine ⟨⟨s, rep_str_inv rv⟩, s2 φ1 M1 H1 σ r _ S1 (E.grow g1) (Okd.bind h1 fun y M2 u φ2 H2 _ g2 S2 ru h2 => ?_)⟩
    rw [rep_str_inv rv]
    exact hf φ2 M2 H2 s u y Q _ S2 ru h2
  | _ => exact h1.elim
/-- the texts of a row -/
def strsOf : List D → Option (List Str)
  | [] => some []
  | .str s :: r => (strsOf r).map (s :: ·)
  | _ :: _ => none
theorem strs_rep {K : Frg} {φ : Wd} {H : Hp} : ∀ {ds : List D} {xs : List V} {ss : List Str}, RepL K φ H ds xs → strsOf ds = some ss → xs = ss.map V.str
  | [], xs, ss, r, h => by cases h; exact r.inv0
  | d :: ds, xs, ss, r, h => by
    cases d with
    | str s =>
      obtain ⟨v, w, rfl, r1, r2⟩ := r.inv
      unfold strsOf at h
      cases e : strsOf ds with
      | none => rw [e] at h; cases h
      | some l =>
        rw [e] at h; cases h
        rw [List.map_cons, rep_str_inv r1, strs_rep r2 e]
    | _ => cases h
def mJoin : Str → F1 := fun s y M => match (seqOf M y).bind strsOf with
  | some ss => (match lineB ((ss.map (·.length)).sum + ss.length * s.length) with
    | true => .ok (.str (Txt.join s ss)) M
    | false => .no)
  | none => .no
theorem o_join {K : Frg} : OpM K (fun x xs H Q => ∃ a p, ∃ ys : List Str, x = .str a ∧ xs = [.ref p] ∧ (SqL K H p (ys.map V.str) ∨ SqT K H p (ys.map V.str)) ∧ (ys.map (·.length)).sum + ys.length * a.length ≤ 16777216 ∧ Q (.str (Txt.join a ys)) H) mJoin := by
  intro φ M H s y b Q W S rb h
  unfold mJoin at h
  cases e : seqOf M b with
  | none => rw [e] at h; exact h.elim
  | some ds =>
    rw [e] at h
    cases e2 : strsOf ds with
    | none => rw [Option.bind_some, e2] at h; exact h.elim
    | some ss =>
      rw [Option.bind_some, e2] at h
      dsimp only at h
      obtain ⟨p, xs, hx, hs, r⟩ := seq_rep S rb e
      have ex := strs_rep r e2
      subst ex
      cases q : lineB ((ss.map (·.length)).sum + ss.length * s.length) with
      | false => rw [q] at h; exact h.elim
      | true =>
        rw [q] at h
        exact ⟨s, p, ss, rfl, by rw [hx], hs, by have z := lineB_ok q; rw [sizeLine_eq] at z; exact z, okT S h⟩
theorem de_join {o e : Expr} {apos : Pos} {da db : DE} (ho : DEx X W o da) (he : DEx X W e db) (hs : starEach [e] X.env = [(false, eval e X.env)] := by rfl) (hbase : attributeBase o "join" X.env (eval o X.env) = eval o X.env := by rfl) (hline : (apos.endLine == pos.line) = true := by rfl) :
    DEx X W (.Call (.Attribute o "join" apos) [e] [] pos) (dM1 mJoin da db) := de_m1 F.slot_str_join F.type_str_join mt_join o_join ho he hs hbase hline
def mInt (g : Str → Str → Int) : Str → F1 := fun s y M => match y with
  | .str t => .ok (.int (g s t)) M
  | _ => .no
theorem o_mInt {K : Frg} {g : Str → Str → Int} : OpM K (fun x xs H Q => ∃ a b, x = .str a ∧ xs = [.str b] ∧ Q (.int (g a b)) H) (mInt g) := by
  intro φ M H s y b Q W S rb h
  cases b with
  | str t => exact ⟨s, t, rfl, by rw [rep_str_inv rb], okI S h⟩
  | _ => exact h.elim
theorem de_find {o e : Expr} {apos : Pos} {da db : DE} (ho : DEx X W o da) (he : DEx X W e db) (hs : starEach [e] X.env = [(false, eval e X.env)] := by rfl) (hbase : attributeBase o "find" X.env (eval o X.env) = eval o X.env := by rfl) (hline : (apos.endLine == pos.line) = true := by rfl) :
    DEx X W (.Call (.Attribute o "find" apos) [e] [] pos) (dM1 (mInt Txt.find) da db) := de_m1 F.slot_str_find F.type_str_find mt_find o_mInt ho he hs hbase hline
theorem de_rfind {o e : Expr} {apos : Pos} {da db : DE} (ho : DEx X W o da) (he : DEx X W e db) (hs : starEach [e] X.env = [(false, eval e X.env)] := by rfl) (hbase : attributeBase o "rfind" X.env (eval o X.env) = eval o X.env := by rfl) (hline : (apos.endLine == pos.line) = true := by rfl) :
    DEx X W (.Call (.Attribute o "rfind" apos) [e] [] pos) (dM1 (mInt Txt.rfind) da db) := de_m1 F.slot_str_rfind F.type_str_rfind mt_rfind o_mInt ho he hs hbase hline
/-! ### isinstance, a built-in class -/
/-- the built-in type of a thing -/
def tagOf (M : Mem) : D → Option String
  | .non => some "NoneType"
  | .bl _ => some "bool"
  | .int _ => some "int"
  | .str _ => some "str"
  | .tup _ => some "tuple"
  | .lst _ => some "list"
  | .dic _ _ => some "dict"
  | .obj n => (match M[n]? with
    | some (.lst _) => some "list"
    | some (.ro _) => some "list"
    | some (.dic _) => some "dict"
    | _ => none)
  | _ => none
theorem tag_ty {K : Frg} {φ : Wd} {M : Mem} {H : Hp} {d : D} {v : V} {t : String} (S : Sto K φ M H) (r : Rep K φ H d v) (h : tagOf M d = some t) : TyX K H v (.type t) := by
  cases d with
  | non => cases h; rw [rep_non_inv r]; exact .base .non
  | bl b => cases h; rw [rep_bl_inv r]; exact .base (.bl b)
  | int i => cases h; rw [rep_int_inv r]; exact .base (.int i)
  | str x => cases h; rw [rep_str_inv r]; exact .base (.str x)
  | tup ds =>
    cases h
    unfold Rep at r
    obtain ⟨a, xs, rfl, h1, _⟩ := r
    rcases h1 with ⟨_, h1⟩ | ⟨o, its, n, e, c, _⟩
    · rcases h1 with h1 | ⟨o, h1⟩
      · exact .base (.tup h1)
      · exact .fTuple h1
    · exact .kTuple e c
  | lst ds =>
    cases h
    unfold Rep at r
    obtain ⟨a, xs, rfl, h1, _⟩ := r
    rcases h1 with ⟨_, h1⟩ | ⟨o, its, n, e, c, _⟩
    · rcases h1 with h1 | ⟨o, h1⟩
      · exact .base (.lst h1)
      · exact .base (.frz h1)
    · exact .kList e c
  | dic ks ds =>
    cases h
    unfold Rep at r
    obtain ⟨a, kv, rfl, _, h1, _⟩ := r
    exact .base (.dK h1)
  | obj n =>
    unfold Rep at r
    obtain ⟨a, h1, rfl⟩ := r
    have h : (match M[n]? with
      | some (.lst _) => some "list"
      | some (.ro _) => some "list"
      | some (.dic _) => some "dict"
      | _ => none) = some t := h
    split at h
    · rename_i q; cases h
      obtain ⟨xs, e, _⟩ := S.ob n a _ h1 q
      exact .base (.lst e)
    · rename_i q; cases h
      obtain ⟨xs, e, _⟩ := S.ob n a _ h1 q
      rcases e with e | ⟨o, e⟩
      · exact .base (.lst e)
      · exact .base (.frz e)
    · rename_i q; cases h
      obtain ⟨xs, e, _⟩ := S.ob n a _ h1 q
      exact .base (.dK e)
    · cases h
  | _ => cases h
def dIsB (p : String → Bool) (da : DE) : DE := fun r M => (da r M).bind fun x M1 => match tagOf M1 x with
  | some t => .ok (.bl (p t)) M1
  | none => .no
def tags : List String := ["NoneType", "bool", "int", "str", "tuple", "list", "dict"]
theorem tag_mem {M : Mem} {d : D} {t : String} (h : tagOf M d = some t) : t ∈ tags := by
  unfold tags
  cases d with
  | obj n =>
    have h : (match M[n]? with
      | some (.lst _) => some "list"
      | some (.ro _) => some "list"
      | some (.dic _) => some "dict"
      | _ => none) = some t := h
    split at h <;> cases h <;> simp
  | _ => cases h <;> simp
theorem de_isiB {T : String} {x : Str} {p : String → Bool} {e : Expr} {da : DE} {fp np : Pos} (hp : tags.all (fun t => decide (kitB t T = some (p t))) = true) (hg : Gl X "isinstance") (hm : X.mg "isinstance" = none) (hgx : Gl X x) (hmx : X.mg x = none) (hx : bootBuiltins x = some (.type T)) (he : DEx X W e da)
    (hn : x ≠ "__name__" := by decide) (hd : (x == ("__debug__" : Str)) = false := by decide) (hs : starEach [e, .Name x np] X.env = (false, eval e X.env) :: starEach [.Name x np] X.env := by rfl) (hs2 : starEach [.Name x np] X.env = (false, eval (.Name x np) X.env) :: starEach [] X.env := by rfl) (hpl : (backTo pos (starEach [.Name x np] X.env)).any (·.1) = false := by rfl) :
    DEx X W (.Call (.Name "isinstance" fp) [e, .Name x np] [] pos) (dIsB p da) := by
  obtain ⟨_, p1, s1⟩ := he
  refine ⟨_, pe_callB call_isi hg hm (by decide +kernel) (pa_cons p1 (pa_cons (pe_bltn (v := .ty T) hgx hmx hx rfl hn hd) pa_nil hs2) hs) (by decide) (by decide) hs hpl, fun φ M H σ r Q S E h => ?_⟩
  refine s1 φ M H σ r _ S E (Okd.bind h fun d M1 v φ1 H1 _ g1 S1 rv h1 => ?_)
  have h1 : Okd X.K φ1 H1 (RE X.K) (match tagOf M1 d with
    | some t => .ok (.bl (p t)) M1
    | none => .no) Q (fun c d H' => W c d σ H') := h1
  cases q : tagOf M1 d with
  | none => rw [q] at h1; exact h1.elim
  | some t =>
    rw [q] at h1
    have z := of_decide_eq_true (List.all_eq_true.mp hp t (tag_mem q))
    exact ⟨v, .ty T, .type t, .type T, p t, rfl, .ty T, tag_ty S1 rv q, kit_ty z, okB S1 h1⟩
/-! ### max(a, b), int(x) -/
def fMax2 : FN := fun ds M => match ds with
  | [.int i, .int j] => .ok (.int (if j > i then j else i)) M
  | _ => .no
theorem o_max2 {K : Frg} : OpN K (fun xs H Q => ∃ i j, xs = [.int i, .int j] ∧ Q (.int (if j > i then j else i)) H) fMax2 := by
  intro φ M H xs ds Q W S r h
  unfold fMax2 at h
  split at h
  · rename_i i j
    obtain ⟨v, w, rfl, r1, r2⟩ := r.inv
    obtain ⟨v', w', rfl, r3, r4⟩ := r2.inv
    rw [r4.inv0, rep_int_inv r1, rep_int_inv r3]
    exact ⟨i, j, rfl, okI S h⟩
  · exact h.elim
def fMin2 : FN := fun ds M => match ds with
  | [.int i, .int j] => .ok (.int (if j < i then j else i)) M
  | _ => .no
theorem o_min2 {K : Frg} : OpN K (fun xs H Q => ∃ i j, xs = [.int i, .int j] ∧ Q (.int (if j < i then j else i)) H) fMin2 := by
  intro φ M H xs ds Q W S r h
  unfold fMin2 at h
  split at h
  · rename_i i j
    obtain ⟨v, w, rfl, r1, r2⟩ := r.inv
    obtain ⟨v', w', rfl, r3, r4⟩ := r2.inv
    rw [r4.inv0, rep_int_inv r1, rep_int_inv r3]
    exact ⟨i, j, rfl, okI S h⟩
  · exact h.elim
def fIntOf : FN := fun ds M => match ds with
  | [.int i] => .ok (.int i) M
  | [.bl b] => .ok (.int (if b then 1 else 0)) M
  | _ => .no
theorem o_intOf {K : Frg} : OpN K (fun xs H Q => (∃ i, xs = [.int i] ∧ Q (.int i) H) ∨ ∃ k, xs = [.bl k] ∧ Q (.int (if k then 1 else 0)) H) fIntOf := by
  intro φ M H xs ds Q W S r h
  unfold fIntOf at h
  split at h
  · rename_i i
    obtain ⟨v, w, rfl, r1, r2⟩ := r.inv
    rw [r2.inv0, rep_int_inv r1]
    exact .inl ⟨i, rfl, okI S h⟩
  · rename_i b
    obtain ⟨v, w, rfl, r1, r2⟩ := r.inv
    rw [r2.inv0, rep_bl_inv r1]
    exact .inr ⟨b, rfl, okI S h⟩
  · exact h.elim
/-! ### text * 0, text * 1 (and products of ints) -/
def rMulX : R2 := fun x y H Q => (∃ i j, x = .int i ∧ y = .int j ∧ CMul i j ∧ Q (.int (i * j)) H) ∨ ∃ s j, x = .str s ∧ y = .int j ∧ ((j = 0 ∧ Q (.str Str.empty) H) ∨ (j = 1 ∧ Q (.str s) H))
theorem opr_mul {X : Cx} : OpR X (binaryOp .Mult) rMulX := by
  refine OpR.or (r := fun x y H Q => ∃ i j, x = .int i ∧ y = .int j ∧ CMul i j ∧ Q (.int (i * j)) H) op_mul ?_
  intro pins s σ H x y v u Q I rx ry h
  obtain ⟨z, j, rfl, rfl, h⟩ := h
  obtain ⟨t, rfl⟩ := rx
  obtain ⟨t', rfl⟩ := ry
  rcases h with ⟨rfl, h⟩ | ⟨rfl, h⟩
  · exact PySem.P.mul_str_none (by decide) (by decide) ⟨.str Str.empty, H, I.tok _, ⟨_, rfl⟩, h⟩
  · refine SB.mul ⟨by decide, fun _ z => absurd z (by simp), fun _ z => absurd z (by simp)⟩ fun t' k => ⟨.str z, H, I.tok k, ⟨t', ?_⟩, h⟩
    unfold Txt.mul
    rw [if_neg (by decide), if_pos (by simp)]
def fMulX : F2 := fun x y M => match x, y with
  | .int i, .int j => (match small64 i || small64 j with
    | true => .ok (.int (i * j)) M
    | false => .no)
  | .str s, .int j => if j = 0 then .ok (.str Str.empty) M else if j = 1 then .ok (.str s) M else .no
  | _, _ => .no
theorem o_mulX {K : Frg} : Op2 K rMulX fMulX := by
  intro φ M H x y a b Q W S ra rb h
  cases a with
  | int i =>
    cases b with
    | int j =>
      have h : Okd K φ H (RE K) (match small64 i || small64 j with
        | true => .ok (.int (i * j)) M
        | false => .no) Q W := h
      cases q : small64 i || small64 j with
      | false => rw [q] at h; exact h.elim
      | true =>
        rw [q] at h
        refine .inl ⟨i, j, rep_int_inv ra, rep_int_inv rb, ?_, okI S h⟩
        rcases Bool.or_eq_true_iff.mp q with a | a
        · exact .inl (small64_ok a)
        · exact .inr (small64_ok a)
    | _ => exact h.elim
  | str s =>
    cases b with
    | int j =>
      have h : Okd K φ H (RE K) (if j = 0 then .ok (.str Str.empty) M else if j = 1 then .ok (.str s) M else .no) Q W := h
      refine .inr ⟨s, j, rep_str_inv ra, rep_int_inv rb, ?_⟩
      by_cases h0 : j = 0
      · rw [if_pos h0] at h; exact .inl ⟨h0, okT S h⟩
      · rw [if_neg h0] at h
        by_cases h1 : j = 1
        · rw [if_pos h1] at h; exact .inr ⟨h1, okT S h⟩
        · rw [if_neg h1] at h; exact h.elim
    | _ => exact h.elim
  | _ => cases b <;> exact h.elim
end
end LF
set_option Elab.async false
set_option linter.all false
set_option maxRecDepth 100000
set_option maxHeartbeats 4000000
/-! LF9: dicts; try with the error as a value; calls within an except suite; isinstance of errors. -/
namespace LF
open PySem PySem.Spec PyProof.Rows L2
/-! ### dicts -/
def keyOf : D → Option Key
  | .int i => some (.inl i)
  | .str s => some (.inr s)
  | _ => none
theorem key_rep {K : Frg} {φ : Wd} {H : Hp} {d : D} {v : V} {k : Key} (r : Rep K φ H d v) (h : keyOf d = some k) : v = kV k := by
  cases d with
  | int i => cases h; exact rep_int_inv r
  | str s => cases h; exact rep_str_inv r
  | _ => cases h
/-- d[k], k there -/
def fDGet : F2 := fun x y M => match x, keyOf y with
  | .obj n, some k => (match M[n]? with
    | some (.dic kvs) => liftO (lookD kvs k) M
    | _ => .no)
  | _, _ => .no
theorem fDGet_inv {K : Frg} {φ : Wd} {H : Hp} {Q : VK} {W : XK} {x y : D} {M : Mem} (h : Okd K φ H (RE K) (fDGet x y M) Q W) : ∃ n k kvs, x = .obj n ∧ keyOf y = some k ∧ M[n]? = some (.dic kvs) ∧ Okd K φ H (RE K) (liftO (lookD kvs k) M) Q W := by
  cases x with
  | obj n =>
    unfold fDGet at h
    cases hk : keyOf y with
    | none => rw [hk] at h; exact h.elim
    | some k =>
      rw [hk] at h
      dsimp only at h
      split at h
      · rename_i kvs hM
        exact ⟨n, k, kvs, rfl, rfl, hM, h⟩
      · exact h.elim
  | _ => exact h.elim
section
variable {X : Cx} {W : WX} {pos : Pos}
theorem de_dget {o i : Expr} {da db : DE} (hu : X.A.units + 1 < cLine) (ho : DEx X W o da) (hi : DEx X W i db) (hs : NoSl i := by intro _ _; rfl) : DEx X W (.Subscript o i pos) (dBin fDGet da db) := by
  obtain ⟨_, p1, s1⟩ := ho
  obtain ⟨_, p2, s2⟩ := hi
  refine ⟨_, pe_dget hu p1 p2 hs, fun φ M H σ r Q S E h => ?_⟩
  refine s1 φ M H σ r _ S E (Okd.bind h fun x M1 v φ1 H1 _ g1 S1 r1 h1 => ?_)
  refine s2 φ1 M1 H1 σ r _ S1 (E.grow g1) (Okd.bind h1 fun y M2 u φ2 H2 _ g2 S2 r2 h2 => ?_)
  have r1 := Rep.grow g2 _ _ r1
  obtain ⟨n, k, kvs, rfl, hk, hM, h2⟩ := fDGet_inv h2
  unfold Rep at r1
  obtain ⟨a, ha, hv⟩ := r1
  obtain ⟨kv, e1, e2⟩ := S2.ob n a _ ha hM
  cases q : lookD kvs k with
  | none => rw [q] at h2; exact h2.elim
  | some d =>
    rw [q] at h2
    obtain ⟨w, k1, k2⟩ := (e2.look (k := k)).2 d q
    refine ⟨a, w, hv, ?_, h2.here S2 k2⟩
    rw [key_rep r2 hk, ← k1]
    exact DGet.k e1
/-- d[k] = e -/
def putAt (o k v : D) (r : Env') (M : Mem) : SO := match o, keyOf k with
  | .obj n, some k => (match M[n]? with
    | some (.dic kvs) => (match lineB kvs.length with
      | true => .nx r (M.set n (.dic (putD kvs k v)))
      | false => .no)
    | _ => .no)
  | _, _ => .no
theorem putAt_inv {K : Frg} {φ : Wd} {H : Hp} {E : Ends} {W : WX} {x y z : D} {r : Env'} {M : Mem} (h : OkS K φ H (putAt x y z r M) E W) : ∃ n k kvs, x = .obj n ∧ keyOf y = some k ∧ M[n]? = some (.dic kvs) ∧ lineB kvs.length = true ∧ OkS K φ H (.nx r (M.set n (.dic (putD kvs k z)))) E W := by
  cases x with
  | obj n =>
    unfold putAt at h
    cases hk : keyOf y with
    | none => rw [hk] at h; exact h.elim
    | some k =>
      rw [hk] at h
      dsimp only at h
      split at h
      · rename_i kvs hM
        cases q : lineB kvs.length with
        | false => rw [q] at h; exact h.elim
        | true => rw [q] at h; exact ⟨n, k, kvs, rfl, rfl, hM, q, h⟩
      · exact h.elim
  | _ => exact h.elim
def dDPut (do_ dk dv : DE) : DS := fun r M => (dv r M).bindS r fun v M1 => (do_ r M1).bindS r fun o M2 => (dk r M2).bindS r fun k M3 => putAt o k v r M3
theorem ds_dput {o i value : Expr} {pos' : Pos} {da db dv : DE} (hu : X.A.units + 1 < cLine) (ho : DEx X W o da) (hi : DEx X W i db) (hv : DEx X W value dv) (hs : swapsWith value (some (.Subscript o i pos')) pos.line X.env = pure false := by rfl) :
    DSx X W (.Assign [.Subscript o i pos'] value pos) (dDPut da db dv) := by
  obtain ⟨_, p1, s1⟩ := ho
  obtain ⟨_, p2, s2⟩ := hi
  obtain ⟨_, p3, s3⟩ := hv
  refine ⟨_, ps_dput hu p1 p2 p3 hs, fun φ M H σ r E S er h => ?_⟩
  refine s3 φ M H σ r _ S er (OkS.bind er h fun z M1 v φ1 H1 _ g1 S1 rv h1 => ?_)
  refine s1 φ1 M1 H1 σ r _ S1 (er.grow g1) (OkS.bind (er.grow g1) h1 fun x M2 u φ2 H2 _ g2 S2 ru h2 => ?_)
  refine s2 φ2 M2 H2 σ r _ S2 ((er.grow g1).grow g2) (OkS.bind ((er.grow g1).grow g2) h2 fun y M3 w φ3 H3 _ g3 S3 rw_ h3 => ?_)
  replace rv := Rep.grow (g2.trans g3) _ _ rv
  replace ru := Rep.grow g3 _ _ ru
  obtain ⟨n, k, kvs, rfl, hk, hM, q, h3⟩ := putAt_inv h3
  unfold Rep at ru
  obtain ⟨a, ha, hv⟩ := ru
  obtain ⟨kv, e1, e2⟩ := S3.ob n a _ ha hM
  refine ⟨a, upd H3 a (.dK (putK kv k v)), hv, ?_, ?_⟩
  · rw [key_rep rw_ hk]
    exact DPut.k e1 (by rw [e2.len]; exact lineB_lt q)
  · have gp : Grow φ3 H3 φ3 (upd H3 a (.dK (putK kv k v))) := Grow.put (List.mem_of_getElem? ha)
    exact h3 σ φ3 _ gp (S3.put ha ⟨_, upd_same, RepK.mo gp.mo (e2.put rv)⟩) ((er.grow ((g1.trans g2).trans g3)).grow gp)
/-- {} that will not change -/
theorem de_dnew : DEx X W (.Dict [] [] pos) (dC (.dic [] [])) := ⟨_, pe_dnewK, fun φ M H σ r Q S E h p hp => h (.ref p) φ _ (Grow.new hp) (S.new hp) (by
  show Rep _ _ _ _ _
  unfold Rep
  exact ⟨p, [], rfl, S.fresh hp, upd_same, rfl, RepL.nil⟩)⟩
def dNewDic : DE := fun _ M => .ok (.obj M.length) (M ++ [.dic []])
theorem de_dnewA : DEx X W (.Dict [] [] pos) dNewDic := ⟨_, pe_dnewK, fun φ M H σ r Q S E h p hp => h (.ref p) _ _ (Grow.alloc hp) (S.alloc hp ⟨[], upd_same, RepK.nil⟩) (rep_obj_new S.len)⟩
/-- a display with written keys -/
def dPairs : List (Key × DE) → Env' → Mem → Out (List (Key × D))
  | [], _, M => .ok [] M
  | (k, de) :: ps, r, M => (de r M).bind fun d M1 => (dPairs ps r M1).bind fun l M2 => .ok ((k, d) :: l) M2
def SimP (K : Frg) (W : WX) (trs : List (TE × TE)) (ps : List (Key × DE)) : Prop := ∀ φ M H σ r (Q : List (V × V) → Hp → Prop), Sto K φ M H → EnvR K φ H r σ → Okd K φ H (fun φ H (a : List (Key × D)) (b : List (Key × V)) => RepK K φ H a b) (dPairs ps r M) (fun l H' => Q (l.map fun kv => (kV kv.1, kv.2)) H') (fun c d H' => W c d σ H') → tPairs trs σ H Q
def DPPx (X : Cx) (W : WX) (pos : Pos) (keys : List (Option Expr)) (values : List Expr) (ps : List (Key × DE)) : Prop := ∃ trs, PPs X pos keys values trs ∧ SimP X.K W trs ps
theorem dpp_nil : DPPx X W pos [] [] [] := ⟨_, pps_nil, fun φ M H σ r Q S E h => h [] φ H Grow.refl S RepK.nil⟩
theorem dpp_cons {k v : Expr} {ks : List (Option Expr)} {vs : List Expr} {ps : List (Key × DE)} {kk : Key} {tk : TE} {dv : DE} (hk : PE X k tk) (ek : ∀ σ H Q, tk σ H Q = Q (kV kk) H) (hv : DEx X W v dv) (hr : DPPx X W pos ks vs ps) : DPPx X W pos (some k :: ks) (v :: vs) ((kk, dv) :: ps) := by
  obtain ⟨_, p1, s1⟩ := hv
  obtain ⟨_, p2, s2⟩ := hr
  refine ⟨_, pps_cons hk p1 p2, fun φ M H σ r Q S E h => ?_⟩
  show tk σ H _
  rw [ek]
  refine s1 φ M H σ r _ S E (Okd.bind h fun d M1 v φ1 H1 _ g1 S1 r1 h1 => ?_)
  refine s2 φ1 M1 H1 σ r _ S1 (E.grow g1) (Okd.bind h1 fun l M2 lv φ2 H2 _ g2 S2 r2 h2 => ?_)
  exact h2.here (v := (kk, v) :: lv) S2 (RepK.cons (Rep.grow g2 _ _ r1) r2)
theorem dpp_str {x : Str} {j : Nat} {p : Pos} {v : Expr} {ks : List (Option Expr)} {vs : List Expr} {ps : List (Key × DE)} {dv : DE} (hv : DEx X W v dv) (hr : DPPx X W pos ks vs ps) : DPPx X W pos (some (.Constant (.str x) j p) :: ks) (v :: vs) ((.inr x, dv) :: ps) := dpp_cons pe_str (fun _ _ _ => rfl) hv hr
theorem dpp_int {x : Int} {j : Nat} {p : Pos} {v : Expr} {ks : List (Option Expr)} {vs : List Expr} {ps : List (Key × DE)} {dv : DE} (hv : DEx X W v dv) (hr : DPPx X W pos ks vs ps) : DPPx X W pos (some (.Constant (.int x) j p) :: ks) (v :: vs) ((.inl x, dv) :: ps) := dpp_cons pe_int (fun _ _ _ => rfl) hv hr
def mergeD (a b : List (Key × D)) : List (Key × D) := b.foldl (fun acc kv => putD acc kv.1 kv.2) a
theorem RepK.merge {K : Frg} {φ : Wd} {H : Hp} : ∀ {b : List (Key × D)} {bv : List (Key × V)} {a : List (Key × D)} {av : List (Key × V)}, RepK K φ H a av → RepK K φ H b bv → RepK K φ H (mergeD a b) (mergeK av bv)
  | [], _, _, _, h, k => by
    have k : _ = [] := k
    rw [k]; exact h
  | (x, d) :: b, _, _, _, h, ⟨v, l', e, h1, h2⟩ => by
    rw [e]
    exact RepK.merge (K := K) (φ := φ) (H := H) (b := b) (bv := l') (h.put (k := x) h1) h2
def dDisp (ps : List (Key × DE)) : DE := fun r M => (dPairs ps r M).bind fun kvs M1 => match Nat.ble kvs.length 15 with
  | true => .ok (.obj M1.length) (M1 ++ [.dic (mergeD [] kvs)])
  | false => .no
/-- out of a place under construction -/
theorem unlocked {K : Frg} {φ φ' : Wd} {H H' : Hp} {p : Addr} {o : HO} {M : Mem} (hp : H p = none) (npa : p ∉ φ.ar) (g : Grow (φ.lock p) (upd H p o) φ' H') (S : Sto K φ' M H') : Mo φ' H' ⟨φ'.ar, φ.lk⟩ H' ∧ Grow φ H ⟨φ'.ar, φ.lk⟩ H' ∧ Sto K ⟨φ'.ar, φ.lk⟩ M H' ∧ p ∉ φ'.ar ∧ H' p = some o := by
  have lk : φ'.lk = p :: φ.lk := g.lk
  have un : Mo φ' H' ⟨φ'.ar, φ.lk⟩ H' := ⟨fun a u n e => ⟨⟨n.1, fun z => n.2 (by rw [lk]; exact List.mem_cons_of_mem _ z)⟩, e⟩, fun _ _ e => e⟩
  have back : ∀ a, (upd H p o) a = none → H a = none := fun a h => by
    by_cases q : a = p
    · rw [q]; exact hp
    · rw [upd_ne q] at h; exact h
  have G : Grow φ H ⟨φ'.ar, φ.lk⟩ H' := ⟨let ⟨ψ, e, hψ⟩ := g.ext; ⟨ψ, e, fun a ha => back a (hψ a ha)⟩, rfl, fun a u e n => g.stay a u (by rw [upd_ne (ne_of_none e hp)]; exact e) n, fun a h => back a (g.dom a h)⟩
  have np : p ∉ φ'.ar := g.notin upd_same npa
  exact ⟨un, G, ⟨S.len, S.nd, fun a ha => S.lk a (by rw [lk]; exact List.mem_cons_of_mem _ ha), fun i a mo e1 e2 => (S.ob i a mo e1 e2).mo un rfl⟩, np, g.stay p o upd_same npa⟩
theorem de_disp {keys : List (Option Expr)} {values : List Expr} {ps : List (Key × DE)} (h : DPPx X W pos keys values ps) (hall : keys.all (·.isSome) = true) (hl : keys.length = values.length) (h0 : keys ≠ []) (h15 : keys.length ≤ 15) : DEx X W (.Dict keys values pos) (dDisp ps) := by
  obtain ⟨_, p1, s1⟩ := h
  refine ⟨_, pe_disp p1 hall hl h0 h15, fun φ M H σ r Q S E h p hp => ?_⟩
  refine s1 (φ.lock p) M (upd H p (.dK [])) σ r _ (S.lock hp) (E.mo (Mo.lock hp)) ?_
  have h : Okd X.K φ H (RE X.K) ((dPairs ps r M).bind fun kvs M1 => match Nat.ble kvs.length 15 with
    | true => .ok (.obj M1.length) (M1 ++ [.dic (mergeD [] kvs)])
    | false => .no) Q (fun c d H' => W c d σ H') := h
  cases q : dPairs ps r M with
  | no => rw [q] at h; exact h.elim
  | ex e M1 =>
    rw [q] at h
    intro cls dd φ' H' g S' x
    obtain ⟨un, G, S2, np, _⟩ := unlocked hp (S.fresh hp).1 g S'
    exact h cls dd _ H' G S2 (x.mo un)
  | ok kvs M1 =>
    rw [q] at h
    intro l φ' H' g S' rl
    obtain ⟨un, G, S2, np, hpd⟩ := unlocked hp (S.fresh hp).1 g S'
    have rl : RepK X.K φ' H' kvs l := rl
    have h : Okd X.K φ H (RE X.K) (match Nat.ble kvs.length 15 with
      | true => .ok (.obj M1.length) (M1 ++ [.dic (mergeD [] kvs)])
      | false => .no) Q (fun c d H' => W c d σ H') := h
    cases q2 : Nat.ble kvs.length 15 with
    | false => rw [q2] at h; exact h.elim
    | true =>
      rw [q2] at h
      refine ⟨hpd, l, rfl, by rw [rl.len]; exact Nat.le_of_ble_eq_true q2, ?_⟩
      -- the new dict comes into the arena
      have mo : Mo φ' H' ⟨φ'.ar ++ [p], φ.lk⟩ (upd H' p (.dK (mergeK [] l))) := ⟨fun a u n e => by
        have na : a ≠ p := fun z => n.2 (by rw [z, g.lk]; exact List.mem_cons_self)
        refine ⟨⟨fun z => ?_, fun z => n.2 (by rw [g.lk]; exact List.mem_cons_of_mem _ z)⟩, by rw [upd_ne na]; exact e⟩
        rcases List.mem_append.mp z with w | w
        · exact n.1 w
        · exact na (List.mem_singleton.mp w), fun i a e => by
          show (φ'.ar ++ [p])[i]? = some a
          rw [List.getElem?_append_left (List.getElem?_eq_some_iff.mp e).1]; exact e⟩
      have G2 : Grow φ H ⟨φ'.ar ++ [p], φ.lk⟩ (upd H' p (.dK (mergeK [] l))) := by
        refine ⟨?_, rfl, fun a u e n => ?_, fun a e => ?_⟩
        · obtain ⟨ψ, e, hψ⟩ := G.ext
          refine ⟨ψ ++ [p], by show φ'.ar ++ [p] = _; have e : φ'.ar = φ.ar ++ ψ := e; rw [e, List.append_assoc], fun a ha => ?_⟩
          rcases List.mem_append.mp ha with w | w
          · exact hψ a w
          · rw [List.mem_singleton.mp w]; exact hp
        · rw [upd_ne (ne_of_none e hp)]; exact G.stay a u e n
        · by_cases w : a = p
          · rw [w]; exact hp
          · rw [upd_ne w] at e; exact G.dom a e
      refine h (.ref p) ⟨φ'.ar ++ [p], φ.lk⟩ _ G2 ⟨by simp [S'.len], ?_, fun a ha z => ?_, fun i a m e1 e2 => ?_⟩ ?_
      · refine List.nodup_append.mpr ⟨S'.nd, by simp, fun a ha b hb => ?_⟩
        have hb' := List.mem_singleton.mp hb
        intro z
        rw [z, hb'] at ha
        exact np ha
      · by_cases w : a = p
        · rw [w, upd_same] at z; cases z
        · rw [upd_ne w] at z; exact S2.lk a ha z
      · have e1 : (φ'.ar ++ [p])[i]? = some a := e1
        by_cases hi : i < φ'.ar.length
        · rw [List.getElem?_append_left hi] at e1
          rw [List.getElem?_append_left (by rw [← S'.len]; exact hi)] at e2
          exact (S'.ob i a m e1 e2).mo mo (upd_ne fun z => np (z ▸ List.mem_of_getElem? e1))
        · rw [List.getElem?_append_right (by omega)] at e1
          rw [List.getElem?_append_right (by rw [← S'.len]; omega), ← S'.len] at e2
          cases hk : i - φ'.ar.length with
          | zero =>
            rw [hk] at e1 e2
            simp at e1 e2
            subst e1; subst e2
            exact ⟨_, upd_same, RepK.merge RepK.nil (RepK.mo mo rl)⟩
          | succ k => rw [hk] at e1; simp at e1
      · show Rep _ _ _ _ _
        unfold Rep
        exact ⟨p, by show (φ'.ar ++ [p])[M1.length]? = some p; rw [← S'.len]; simp, rfl⟩
end
end LF
set_option Elab.async false
set_option linter.all false
set_option maxRecDepth 100000
set_option maxHeartbeats 4000000
/-! LF10: try with the error as a value; defs called within an except suite; isinstance of errors. -/
namespace LF
open PySem PySem.Spec PyProof.Rows L2
/-! ### the caught error comes to be tracked -/
section
variable {X : Cx} {pins : List (Addr × Obj)} {σ : L2.St} {H : Hp} {s : Shared}
theorem track {a C : Addr} {oe : Obj} {vs : Array Value} {dd : Option Addr} (I : Inv X pins σ H s) (ha : s.heap.get? a = some oe) (hd : oe.data = .fields vs) (hc : oe.cls = .ref C) (hdd : oe.dict = dd) (na : H a = none) (nL : a ≠ X.env.locals)
    (new : X.s_0.heap.get? a = none) (np : ∀ p ∈ X.pn ++ pins, p.1 ≠ a) : Inv X pins σ (upd H a (.ext (IsX a C dd))) s := by
  refine ⟨I.ok, I.os, I.bare, ⟨I.base.keep, I.base.slot, fun b o e n hx => ?_, I.base.there, fun b xs e => ?_, fun b o xs e => ?_, fun b ps e => ?_⟩, I.loc, I.cell, ?_, fun x c e => ?_, fun p hp => ?_, fun b o e => ?_, I.len⟩
  · have nb : b ≠ a := fun z => by rw [z, new] at e; cases e
    rw [upd_ne nb]; exact I.base.free b o e n hx
  · have q := I.base.tups b xs e
    rw [upd_ne (ne_of_none q na)]; exact q
  · have q := I.base.frzs b o xs e
    rw [upd_ne (ne_of_none q na)]; exact q
  · obtain ⟨m, q⟩ := I.base.tbls b ps e
    exact ⟨m, by rw [upd_ne (ne_of_none q na)]; exact q⟩
  · rw [upd_ne (fun z => nL z.symm)]; exact I.free
  · have nc : c ≠ a := fun z => by
      obtain ⟨v, o, h1, h2⟩ := I.cell x c e
      rw [z, ha] at h1
      cases h1
      rw [hd] at h2; cases h2
    rw [upd_ne nc]; exact I.freeC x c e
  · obtain ⟨h1, h2, h3⟩ := I.pin p hp
    exact ⟨h1, by rw [upd_ne (np p hp)]; exact h2, h3⟩
  · by_cases q : b = a
    · subst q
      rw [upd_same] at e; cases e
      exact ⟨⟨oe, vs, ha, hc, hdd, hd⟩, ⟨oe, ha⟩, fun h1 h2 ⟨o', vs', k1, k2, k3, k4⟩ st => ⟨o', vs', st _ k1, k2, k3, k4⟩⟩
    · rw [upd_ne q] at e
      refine (I.hok b o e).stay (fun c u _ r => r) (fun c r => ?_) fun c xs r => ?_
      · rw [upd_ne (ne_of_none r na)]; exact r
      · rw [upd_ne (ne_of_none r na)]; exact r
theorem Inv.suiteT (I : Inv X pins σ H s) (a : Addr) : Inv (X.suite a (X.pn ++ pins)) [] σ H s :=
  ⟨I.ok.suite _ _, I.os, I.bare, I.base, I.loc, I.cell, I.free, I.freeC, fun p hp => I.pin p (by rw [List.append_nil] at hp; exact hp), I.hok, I.len⟩
theorem Inv.unsuiteT {a : Addr} {pn' : List (Addr × Obj)} (I : Inv (X.suite a (X.pn ++ pins)) pn' σ H s) (ok : X.Ok) : Inv X pins σ H s :=
  ⟨ok, I.os, I.bare, I.base, I.loc, I.cell, I.free, I.freeC, fun p hp => I.pin p (List.mem_append_left _ hp), I.hok, I.len⟩
end
/-- what the clause 'except x as n' wishes of an error of the body -/
def wAsT (K : Frg) (c : Value) (i : Nat) (ts : TS) (Wout : WX) (D : Ends) : WX := fun cls d σ H =>
  ∃ C, cls = .ref C ∧ ∃ b, PySem.W.exmOne K cls c = some b ∧ (b = true → ∀ a, H a = none → ts { nx := fun σ' H' => D.nx (σ'.set i none) H', rt := D.rt, bk := fun σ' H' => D.bk (σ'.set i none) H', ct := fun σ' H' => D.ct (σ'.set i none) H' } (σ.set i (some (.ref a))) (upd H a (.ext (IsX a C d)))) ∧
    (b = false → Wout cls d σ H)
section
variable {X : Cx} {x n : Str} {c : Value} {i : Nat} {body suite : List Stmt} {b₀ : Stmt} {np pos pos' : Pos} {tb : WX → TS} {ts : TS} {Wout : WX}
theorem ps_try_asT (hs : X.stack = X.env :: X.outer) (hf : X.env.frame = some X.env.locals) (hex : X.ex = []) (hN : X.N.Nodup) (hi : X.N[i]? = some n) (hln : X.env.kindOf n = some .local) (hc : Names X x c) (tk : Takes X Wout)
    (hb : ∀ (W : WX) (pn : List (Addr × Obj)) (xe : Value → Shared → Prop), Takes (X.tr pn xe) W → PassesOwn (model X.prog X.w) X.A X.env xe → PSs (X.tr pn xe) body (tb W))
    (hsu : ∀ (a : Addr) (pn : List (Addr × Obj)), PSs (X.suite a pn) (b₀ :: suite) ts) :
    PS X (.Try body [.ExceptHandler (some (.Name x np)) (some n) (b₀ :: suite) pos'] [] [] pos) (fun D σ H => tb (wAsT X.K c i ts Wout D) D σ H) := by
  refine ⟨fun pins s σ H D I h => ?_⟩
  have ok := I.ok
  have hfr : X.A.frames = some (X.env :: X.outer) := by rw [ok.frames, hs]
  have hloc : Loc X.env.scope n := .inl hln
  refine wpAny_Try_except ?_
  refine wpAny_mono ((hb (wAsT X.K c i ts Wout D) (X.pn ++ pins) (fun e s₁ => wpAny (model X.prog X.w) X.A (noteFrame e X.env) (fun _ s₂ => wpAny (model X.prog X.w) X.A (setFlight e none) (fun _ s₃ =>
    wpAny (model X.prog X.w) X.A (handleBy e X.env [.ExceptHandler (some (.Name x np)) (some n) (b₀ :: suite) pos']) (SP X pins D) X.xe s₃) X.xe s₂) X.xe s₁) (fun u s' xx => ?_) PassesOwn.looking).run [] s σ H D (I.toTry _) h) (fun f s1 hsp => ?_) (fun e s1 he => he)
  · obtain ⟨a, B, sI, pins', σ', H', cls, d, rfl, J', nb, up, sky, na, os, ag, C, hcls, b, hb1, hyes, hno⟩ := xx
    have J : Inv X pins σ' H' sI := J'.ofTry ok
    have sky' : Sky B (X.env :: X.outer) a (Zc cls d) X.env.locals s'.heap := by rw [← hs]; exact sky
    show wpAny (model X.prog X.w) X.A (noteFrame (.ref a) X.env) _ _ _
    refine Sky.land Zc.steady hfr hf sky' fun h3 fl3 up3 => ?_
    have J3 : Inv X pins σ' H' { s' with heap := h3 } := J.landed nb fl3.1 (up.trans up3) os ag
    obtain ⟨oe3, vs3, he3, hz3, hd3⟩ := fl3.there
    have notFr : ∀ {h : Heap} {o : Obj} {vs : Array Value}, h.FunFrames B (X.env :: X.outer) → h.get? a = some o → o.data = .fields vs → a ∉ frs (X.env :: X.outer) := fun {h o vs} ff e dd hm => by
      obtain ⟨_, o', e', hnf⟩ := ff.mem hm
      rw [e] at e'; cases e'
      exact hnf _ dd
    have nfr := notFr fl3.2.2.1 he3 hd3
    have nL : a ≠ X.env.locals := fun z => nfr (List.mem_filterMap.mpr ⟨X.env, List.mem_cons_self, by rw [hf, z]⟩)
    have nF : a ∉ X.fs := fun hm => by
      obtain ⟨e, he, q⟩ := List.mem_filterMap.mp hm
      exact nfr (List.mem_filterMap.mpr ⟨e, List.mem_cons_of_mem _ he, q⟩)
    have nfs : a ∉ frs X.stack := by rw [hs]; exact nfr
    have sInone : sI.heap.get? a = none := by
      cases q : sI.heap.get? a with
      | none => rfl
      | some o =>
        have z := nb a o q nfs
        rw [fl3.2.1] at z; cases z
    have s0none : X.s_0.heap.get? a = none := by
      cases q : X.s_0.heap.get? a with
      | none => rfl
      | some o =>
        obtain ⟨o', z⟩ := J.base.there a o q (by rw [hex]; simp)
        rw [sInone] at z; cases z
    have nps : ∀ p ∈ X.pn ++ pins, p.1 ≠ a := fun p hp z => by
      have q := (J.pin p hp).1
      rw [z, sInone] at q; cases q
    have S3 := J3.suite he3 hd3 na nL nF
    refine wpAny_handleBy_cons (codeAny_handlers_test ?_) (by intro q; cases q)
    have LT : PySem.W.Looks (model X.prog X.w) h3 (typeOf (.ref a)) cls := fun A Q E s k q => wpAny_typeOf_ref (k _ _ he3) (by rw [hz3.1]; exact q)
    have LM := PySem.W.exm_one (M := model X.prog X.w) (J3.kIn) LT hb1
    have test : ∀ {Q : Value → Shared → Prop} {E : Value → Shared → Prop}, Q c { s' with heap := h3 } → wpAny (model X.prog X.w) (X.A.mark (some (.ref a))) (eval (.Name x np) X.env) Q E { s' with heap := h3 } := fun {Q E} q => by
      obtain ⟨hg, hdbg, hm | ⟨hm, hv, hnn⟩⟩ := hc
      · exact ld_glob (X := X.suite a ((a, oe3) :: (X.pn ++ pins))) S3 hg hm q hdbg
      · exact ld_blt (X := X.suite a ((a, oe3) :: (X.pn ++ pins))) S3 hg hm hv q hnn hdbg
    refine test (LM.here ?_)
    cases b with
    | true =>
      refine codeAny_handlers_suite_as ?_
      refine HandSPX.lands_againZ fl3 fun h4 fl4 up4 => ?_
      have J4 : Inv X pins σ' H' { s' with heap := h4 } := J.landed nb fl4.1 ((up.trans up3).trans up4) os ag
      obtain ⟨oe4, vs4, he4, hz4, hd4⟩ := fl4.there
      have J5 := track J4 he4 hd4 (hz4.1.trans hcls) hz4.2 na nL s0none nps
      have S4 := Inv.suiteT J5 a
      refine store_ok (X := X.suite a (X.pn ++ pins)) (v := .ref a) S4 hN hi hloc rfl (fun s5 S5 => ?_) (.inr hln)
      refine wpAny_mono ((hsu a (X.pn ++ pins)).run [] s5 _ _ _ S5 (hyes rfl a na)) (fun f s6 hsp => ?_) (fun _ _ z => False.elim z)
      have end_ : ∀ {σ6 : L2.St} {H6 : Hp} {Q : Shared → Prop}, Inv (X.suite a (X.pn ++ pins)) [] σ6 H6 s6 → (∀ s7, Inv X pins (σ6.set i none) H6 s7 → Q s7) →
          wpAny (model X.prog X.w) X.A (do bindName X.env n .none; unbindBehindTheSuite X.env n pos') (fun _ s7 => Q s7) X.xe s6 := fun {σ6 H6 Q} S6 hq => gone_ok (Inv.unsuiteT S6 ok) hN hi hln hq
      cases f with
      | next =>
        obtain ⟨σ6, H6, S6, q6⟩ := hsp
        exact end_ S6 fun s7 J7 => ⟨_, _, J7, q6⟩
      | brk =>
        obtain ⟨σ6, H6, S6, q6⟩ := hsp
        exact end_ S6 fun s7 J7 => ⟨_, _, J7, q6⟩
      | cont =>
        obtain ⟨σ6, H6, S6, q6⟩ := hsp
        exact end_ S6 fun s7 J7 => ⟨_, _, J7, q6⟩
      | ret u =>
        obtain ⟨v6, σ6, H6, S6, r6, q6⟩ := hsp
        exact end_ S6 fun s7 J7 => ⟨_, _, _, J7, r6, q6⟩
    | false =>
      show wpAny _ X.A (handleBy (.ref a) X.env []) _ _ _
      refine wpAny_handleBy_nil ?_
      obtain ⟨k1, k2, k3, oe, vs, T, oT, ts', he, hz, hd, h1, hr⟩ := id fl3
      unfold PySem.passOn
      refine wpAny_bind (wpAny_field he hd h1 ?_)
      rw [if_neg (show ¬ ((Value.ref T == Value.none) = true) from by simp)]
      have fin : wpAny (model X.prog X.w) X.A (setFlight (.ref a) X.env.frame) (fun _ s4 => wpAny (model X.prog X.w) X.A (throw (.ref a) : Sem Flow) (SP X pins D) X.xe s4) X.xe { s' with heap := h3 } := by
        rw [hf]
        refine HandSPX.setFlight_upZ fl3 fun h4 hh4 up4 => wpAny_throw (tk _ _ ?_)
        exact ⟨a, B, sI, pins, σ', H', cls, d, rfl, J, nb, (up.trans up3).trans up4, .inr (.inr (by rw [hs]; exact hh4)), na, os, ag, hno rfl⟩
      first
        | exact wpAny_bind (wpAny_pure (wpAny_bind fin))
        | exact wpAny_bind fin
  · cases f with
    | next =>
      obtain ⟨σ', H', J', q⟩ := hsp
      exact wpAny_execs_nil ⟨σ', H', J'.ofTry ok, q⟩
    | brk =>
      obtain ⟨σ', H', J', q⟩ := hsp
      exact ⟨σ', H', J'.ofTry ok, q⟩
    | cont =>
      obtain ⟨σ', H', J', q⟩ := hsp
      exact ⟨σ', H', J'.ofTry ok, q⟩
    | ret u =>
      obtain ⟨v, σ', H', J', r, q⟩ := hsp
      exact ⟨v, σ', H', J'.ofTry ok, r, q⟩
end
/-! ### .. on plain data -/
def tDS (K : Frg) (W : WX) (ds : DS) : TS := fun E σ H => ∃ φ M r, Sto K φ M H ∧ EnvR K φ H r σ ∧ OkS K φ H (ds r M) E W
theorem DBx.pss {X : Cx} {W : WX} {st : List Stmt} {ds : DS} (h : DBx X W st ds) : PSs X st (tDS X.K W ds) := by
  obtain ⟨t, p, s⟩ := h
  exact ⟨fun pins sh σ H D I ⟨φ, M, r, S, E, o⟩ => p.run pins sh σ H D I (s φ M H σ r D S E o)⟩
def offS (i : Nat) : SO → SO
  | .nx r M => .nx (r.set i none) M
  | .bk r M => .bk (r.set i none) M
  | .ct r M => .ct (r.set i none) M
  | .rt d M => .rt d M
  | _ => .no
def dTryAs (isa : Str → Option Bool) (i : Nat) (body hand : DS) : DS := fun r M => match body r M with
  | .ex e r1 M1 => (match isa e.c with
    | some true => offS i (hand (r1.set i (some (.exc e.c e.ns e.ds))) M1)
    | some false => .ex e r1 M1
    | none => .no)
  | o => o
theorem ds_try_as {X : Cx} {W : WX} {x n : Str} {i : Nat} {body suite : List Stmt} {b₀ : Stmt} {np pos pos' : Pos} {db dh : DS} {isa : Str → Option Bool} (hs : X.stack = X.env :: X.outer) (hf : X.env.frame = some X.env.locals) (hex : X.ex = []) (hN : X.N.Nodup) (hi : X.N[i]? = some n) (hln : X.env.kindOf n = some .local)
    (hg : Gl X x) (hm : X.mg x = some (.ref (He.ga X.K x))) (hdb : (x == ("__debug__" : Str)) = false) (tk : Takes X W) (hisa : ∀ c b, isa c = some b → PySem.W.exmOne X.K (.ref (He.ga X.K c)) (.ref (He.ga X.K x)) = some b)
    (hb : ∀ (W : WX) (pn : List (Addr × Obj)) (xe : Value → Shared → Prop), Takes (X.tr pn xe) W → PassesOwn (model X.prog X.w) X.A X.env xe → DBx (X.tr pn xe) W body db)
    (hsu : ∀ (a : Addr) (pn : List (Addr × Obj)), DBx (X.suite a pn) Wf (b₀ :: suite) dh) :
    DSx X W (.Try body [.ExceptHandler (some (.Name x np)) (some n) (b₀ :: suite) pos'] [] [] pos) (dTryAs isa i db dh) := by
  refine ⟨_, ps_try_asT (tb := fun W => tDS X.K W db) (ts := tDS X.K Wf dh) hs hf hex hN hi hln ⟨hg, hdb, .inl hm⟩ tk (fun W pn xe tk po => (hb W pn xe tk po).pss) (fun a pn => (hsu a pn).pss), fun φ M H σ r E S er h => ?_⟩
  refine ⟨φ, M, r, S, er, ?_⟩
  unfold dTryAs at h
  cases q : db r M with
  | ex e r1 M1 =>
    rw [q] at h
    dsimp only at h
    intro cls dd σ' φ' H' g S' er' xr
    refine ⟨_, xr.1, ?_⟩
    cases q2 : isa e.c with
    | none => rw [q2] at h; exact h.elim
    | some b =>
      rw [q2] at h
      refine ⟨b, by rw [xr.1]; exact hisa _ _ q2, fun eb a na => ?_, fun eb => ?_⟩
      · subst eb
        dsimp only at h
        have gn : Grow φ' H' φ' (upd H' a (.ext (IsX a (He.ga X.K e.c) dd))) := Grow.new na
        have rp : Rep X.K φ' (upd H' a (.ext (IsX a (He.ga X.K e.c) dd))) (.exc e.c e.ns e.ds) (.ref a) := by
          unfold Rep
          obtain ⟨fv, k1, k2, k3⟩ := xr.2.mo gn.mo
          exact ⟨a, dd, rfl, S'.fresh na, upd_same, fv, k1, k2, k3⟩
        refine ⟨φ', M1, r1.set i (some (.exc e.c e.ns e.ds)), S'.new na, (er'.grow gn).set rp, ?_⟩
        have h2 := OkS.grow (g.trans gn) h
        cases q3 : dh (r1.set i (some (.exc e.c e.ns e.ds))) M1 with
        | nx r2 M2 => rw [q3] at h2; exact fun s2 φ2 H2 g2 S2 er2 => h2 _ φ2 H2 g2 S2 er2.unset
        | bk r2 M2 => rw [q3] at h2; exact fun s2 φ2 H2 g2 S2 er2 => h2 _ φ2 H2 g2 S2 er2.unset
        | ct r2 M2 => rw [q3] at h2; exact fun s2 φ2 H2 g2 S2 er2 => h2 _ φ2 H2 g2 S2 er2.unset
        | rt d2 M2 => rw [q3] at h2; exact h2
        | ex e2 r2 M2 => rw [q3] at h2; exact h2.elim
        | no => rw [q3] at h2; exact h2.elim
      · subst eb
        exact h cls dd σ' φ' H' g S' er' xr
  | nx r1 M1 => rw [q] at h; exact h
  | bk r1 M1 => rw [q] at h; exact h
  | ct r1 M1 => rw [q] at h; exact h
  | rt d1 M1 => rw [q] at h; exact h
  | no => rw [q] at h; exact h
/-! ### defs called within an except suite (they raise nothing and walk nothing) -/
structure FnN (P : Program) (w : World) (K : Frg) (mg : Str → Option Value) (base : Heap) (CX : CXT) (k : Nat) (f : Addr) (fd : FuncData) (ps : List Str) (sp : Sp) : Prop where
  len : ∀ vs H Q E, sp vs H Q E → vs.length = ps.length
  run : ∀ (A : Around) (outer : List Env) (s : Shared) (H : Hp) (args : Args) (us : List Value) (vs : List V) (Q : VK) (E : XK), L2H.RoomH k A → Env0 P w K mg base A outer s H → BindsTo s fd args (ps.zip us) → Vals vs us → sp vs H Q E →
    codeAny (model P w) A (.call (.ref f) args) (CR CX outer P w H s Q E) s
def cxN (CX : CXT) (P : Program) (w : World) (K : Frg) (mg : Str → Option Value) (base : Heap) (N : List Str) (qual : Str) (scope : Scope) (f : Addr) (cd : Value) (A : Around) (outer : List Env) (s : Shared) (H : Hp) (E : XK) : Cx :=
  { cxOf CX P w K mg base N qual scope f cd A outer s H E with calm := false }
theorem inv_startN {CX : CXT} {P : Program} {w : World} {K : Frg} {mg : Str → Option Value} {base : Heap} {N ps : List Str} {qual : Str} {scope : Scope} {f : Addr} {cd : Value} {A : Around} {outer : List Env} {s s1 : Shared} {H : Hp} {E : XK} {us : List Value} {vs : List V}
    (S : FnScope N ps scope) (e0 : Env0 P w K mg base A outer s H) (hl : vs.length = ps.length) (r : Vals vs us)
    (x : InCallC s s.heap.objs.size (bindL (envOfC qual scope s.heap.objs.size f cd).kindOf (ps.zip us) fun _ => none) (cellsFrom (s.heap.objs.size + 1) scope.names []) (bindC (envOfC qual scope s.heap.objs.size f cd).kindOf (ps.zip us) fun _ => none) s1) :
    Inv (cxN CX P w K mg base N qual scope f cd A outer s H E) [] (L2.start N vs) H s1 := by
  have hpl : ps.length ≤ N.length := by have := congrArg List.length S.pre; rw [List.length_take] at this; omega
  obtain ⟨h1, tk, rfl, hk⟩ := x.done
  have noA : ∀ b : Addr, b ∉ (cxN CX P w K mg base N qual scope f cd A outer s H E).ex := fun b z => absurd (show b ∈ ([] : List Addr) from z) (by simp)
  refine ⟨⟨e0.mod, S.kind, rfl, rfl, Nat.le_refl _, fun y z c h1 h2 => ?_, fun y hy => ?_, fun y c _ h => ?_, (fun z => Bool.noConfusion (show false = true from z)), Around.frames_deeper e0.frames, .inr ⟨rfl, rfl⟩, fun b z => absurd z (noA b), e0.bs, e0.bsz, fun b _ _ => noA b, fun b z => absurd z (noA b), e0.funs, e0.frf⟩,
    rfl, e0.bare, Un.kept hk, ⟨_, x.toInCall.ns, fun i y v h1 h2 h3 => ?_⟩, fun y c h => ⟨_, x.cell y c h⟩, e0.hok.fresh (Nat.le_refl _), fun y c h => ?_, fun q hq => absurd (show q ∈ ([] : List (Addr × Obj)) ++ [] from hq) (by simp), e0.hok.kept hk, ?_⟩
  · exact name_of_addr x.apart (PySem.mem_of_lookup h1) (PySem.mem_of_lookup h2)
  · have hy : scope.names.lookup y = some .cell ∨ scope.names.lookup y = some .free := hy
    rcases hy with hy | hy
    · exact cell_has hy
    · exact absurd rfl (S.nofree _ (PySem.mem_of_lookup hy))
  · exact Nat.le_of_lt (x.above y c (PySem.mem_of_lookup h))
  · have hi : i < vs.length := by
      unfold L2.start at h2
      by_cases hi : i < vs.length
      · exact hi
      · rw [List.getElem?_append_right (by simpa using hi)] at h2
        rw [List.getElem?_replicate] at h2
        split at h2 <;> cases h2
    have ha : vs[i]? = some v := by
      unfold L2.start at h2
      rw [List.getElem?_append_left (by simpa using hi), List.getElem?_map] at h2
      cases e : vs[i]? with
      | none => rw [e] at h2; cases h2
      | some a => rw [e] at h2; cases h2; rfl
    obtain ⟨u, hu, rv⟩ := r.get ha
    have hp : ps[i]? = some y := by
      rw [← S.pre, List.getElem?_take_of_lt (by omega)]; exact h1
    have ndP : ps.Nodup := by rw [← S.pre]; exact S.nd.sublist (List.take_sublist _ _)
    refine ⟨u, rv, ?_⟩
    rcases S.par y (List.mem_of_getElem? hp) with k | k
    · exact .inl ⟨k, bindL_get ndP hp hu k⟩
    · obtain ⟨c, e⟩ := cell_has (n := s.heap.objs.size + 1) k
      refine .inr ⟨.inl k, c, e, ?_⟩
      have q := x.cell y c e
      rw [bindC_get ndP hp hu (by show scope.names.lookup y ≠ _; rw [k]; decide)] at q
      exact q
  · exact e0.hok.fresh (Nat.le_of_lt (x.above y c (PySem.mem_of_lookup h)))
  · unfold L2.start
    show _ = N.length
    rw [List.length_append, List.length_map, List.length_replicate]
    omega
theorem fn_ofN {CX : CXT} {P : Program} {w : World} {K : Frg} {mg : Str → Option Value} {base : Heap} {k : Nat} {f : Addr} {name qual : Str} {params : Arguments} {body : List Stmt} {scope : Scope} {dV kV doc pm cdv ct oc : Value} {an od : Option Addr}
    {osl : Array (Option Value)} {N ps : List Str} {sp : Sp} (lk : K.lookup f = some ⟨oc, od, .func (PySem.W.fnOf name qual params body scope dV kV doc pm an cdv ct), osl⟩) (hcd : PySem.W.codeIn K cdv qual = true) (S : FnScope N ps scope)
    (len : ∀ vs H Q E, sp vs H Q E → vs.length = ps.length)
    (hbody : ∀ (A : Around) (outer : List Env) (s : Shared) (H : Hp) (vs : List V) (Q : VK) (E : XK), L2H.RoomH k (A.deeper (envOfC qual scope s.heap.objs.size f cdv)) → sp vs H Q E →
      ∃ t, PSs (cxN CX P w K mg base N qual scope f cdv A outer s H E) body t ∧ t { nx := fun _ H' => Q .non H', rt := Q } (L2.start N vs) H) :
    FnN P w K mg base CX (k + 1) f (PySem.W.fnOf name qual params body scope dV kV doc pm an cdv ct) ps sp := by
  refine ⟨len, fun A outer s H args us vs Q E hr e0 hb r hsp => ?_⟩
  have hl := len _ _ _ _ hsp
  have KX : K.In s.heap := e0.mod.kin.keeps fun b o e => (e0.bs b o e).1
  have lim : s.heap.NoLimit := e0.mod.nolimit.keeps fun b o e => (e0.bs b o e).1
  have hkind : ∀ y ∈ ps.zip us, scope.names.lookup y.1 = some .local ∨ (scope.names.lookup y.1 = some .cell ∧ ((cellsFrom (s.heap.objs.size + 1) scope.names []).lookup y.1).isSome = true) := fun ⟨n, v⟩ hy => by
    rcases S.par n (List.of_mem_zip hy).1 with q | q
    · exact .inl q
    · exact .inr ⟨q, PySem.W.cellsFrom_some _ _ _ (.inl q)⟩
  refine codeAny_call_function hr.depth (KX _ _ lk) rfl S.co S.gen rfl (PySem.W.codeRec_of KX hcd) (hb _ _ _ _ ?_)
  refine wpAny_newFunctionEnv_cells S.kind hkind fun env he s1 x => ?_
  subst he
  refine ⟨lim.keeps x.toInCall.keep, codeAny_func ?_⟩
  obtain ⟨t, ht, hq⟩ := hbody A outer s H vs Q E (hr.deeper _) hsp
  have I : Inv (cxN CX P w K mg base N qual scope f cdv A outer s H E) [] (L2.start N vs) H s1 := inv_startN S e0 hl r x
  refine wpAny_mono (ht.run [] s1 (L2.start N vs) H _ I hq) (fun fl s' hs => ?_) fun e s' hs => hs
  have fin : ∀ {σ' : L2.St} {H' : Hp} {v : V} {u : Value}, Inv (cxN CX P w K mg base N qual scope f cdv A outer s H E) [] σ' H' s' → RelV v u → Q v H' → CE outer P w H s Q u s' :=
    fun {σ' H' v u} J rv q => ⟨v, H', J.os, J.bare, J.base, J.hok, rv, q⟩
  cases fl with
  | ret u =>
    obtain ⟨v, σ', H', J, rv, q⟩ := hs
    exact fin J rv q
  | next =>
    obtain ⟨σ', H', J, q⟩ := hs
    exact fin (v := V.non) (u := Value.none) J rfl q
  | brk =>
    obtain ⟨_, _, _, q⟩ := hs
    exact False.elim q
  | cont =>
    obtain ⟨_, _, _, q⟩ := hs
    exact False.elim q
structure DefOkN (P : Program) (w : World) (K : Frg) (mg : Str → Option Value) (base : Heap) (k : Nat) (x : Str) (n : Nat) (F : FN) : Prop where
  ex : ∃ f fd ps, mg x = some (.ref f) ∧ PySem.W.keepIn K (.ref f) = true ∧ Binds K fd ps [] ∧ FnN P w K mg base (L2.CX P w) k f fd ps (SpD K n F)
theorem fn_byN {P : Program} {w : World} {K : Frg} {mg : Str → Option Value} {base : Heap} {x qual : Str} {params : Arguments} {body : List Stmt} {scope : Scope} {dvs : List V} {kws : List (Str × V)} {f : Addr} {fd : FuncData} {N ps : List Str} {k : Nat} {b : DS} {F : FN} (G : FunD K x qual params body scope dvs kws f fd) (S : FnScope N ps scope)
    (hb : ∀ (cdv : Value) (A : Around) (outer : List Env) (s : Shared) (H : Hp) (E : XK), L2H.RoomH k (A.deeper (envOfC qual scope s.heap.objs.size f cdv)) → Takes (cxN (L2.CX P w) P w K mg base N qual scope f cdv A outer s H E) (fun cls d _ H => E cls d H) →
      DBx (cxN (L2.CX P w) P w K mg base N qual scope f cdv A outer s H E) (fun cls d _ H => E cls d H) body b)
    (hF : ∀ ds M, ds.length = ps.length → F ds M ≠ .no → F ds M = runB N.length b ds M) : FnN P w K mg base (L2.CX P w) (k + 1) f fd ps (SpD K ps.length F) := by
  obtain ⟨oc, od, dV, kV, doc, pm, an, cdv, ct, osl, rfl, lk, hcd, _, _⟩ := G.ex
  refine fn_ofN lk hcd S (fun vs H Q E h => ?_) (fun A outer s H vs Q E hr h => ?_)
  · obtain ⟨φ, M, ds, e, _, r, _⟩ := h
    rw [r.len, e]
  · obtain ⟨φ, M, ds, e, St, r, h⟩ := h
    obtain ⟨t, p, sim⟩ := hb cdv A outer s H E hr (takes_of rfl rfl rfl rfl)
    refine ⟨t, p, sim φ M H _ (ds.map some ++ List.replicate (N.length - ds.length) none) _ St (EnvR.start N r) ?_⟩
    have ne : F ds M ≠ .no := fun z => by rw [z] at h; exact h
    rw [hF ds M e ne] at h
    unfold runB at h
    cases q : b (ds.map some ++ List.replicate (N.length - ds.length) none) M with
    | nx r1 M1 => rw [q] at h; exact fun σ' φ' H' g S' er' => h _ φ' H' g S' rep_non
    | rt d M1 => rw [q] at h; exact h
    | ex x r1 M1 => rw [q] at h; exact fun c dd σ' φ' H' g S' _ x => h c dd φ' H' g S' x
    | bk r1 M1 => rw [q] at h; exact h.elim
    | ct r1 M1 => rw [q] at h; exact h.elim
    | no => rw [q] at h; exact h.elim
theorem de_callN {X : Cx} {W : WX} {p pos : Pos} {e : Expr} {es : List Expr} {x : Str} {k n : Nat} {F : FN} {dr : DA} (G : DefOkN X.prog X.w X.K X.mg X.base k x n F) (hr : L2H.RoomH k X.A) (tk : Takes X W) (hg : Gl X x) (ha : DAx X W (e :: es) dr)
    (hdb : (x == ("__debug__" : Str)) = false := by decide) (he : starEach (e :: es) X.env = (false, eval e X.env) :: starEach es X.env := by rfl) (hpl : (backTo pos (starEach es X.env)).any (·.1) = false := by rfl) :
    DEx X W (.Call (.Name x p) (e :: es) [] pos) (dCall n F dr) := by
  obtain ⟨f, fd, ps, hm, hk, hb, hF⟩ := G.ex
  obtain ⟨_, p1, s1⟩ := ha
  refine ⟨tCallS (SpD X.K n F) (WE W) _, ⟨fun pins s σ H Q I h => ?_⟩, sim_call s1⟩
  refine wpAny_Call_Name_kw (ld_glob I hg hm ?_ hdb)
  refine PySem.W.callWith_K (h₀ := X.base) I.ok.mod.kin hk (thn (p1.run pos pins s σ H _ I h) fun us s1 ⟨vs, H1, I1, r, q⟩ => ⟨I1.kIn, ?_⟩) he hpl
  have hl : us.length = ps.length := by rw [← r.length]; exact hF.len _ _ _ _ q
  have b := hb s1 us I1.kIn (by rw [List.append_nil]; exact hl)
  rw [List.append_nil] at b
  refine wpAny_call (codeAny_mono (hF.run X.A X.stack s1 H1 ⟨us, []⟩ us vs Q (WE W σ) hr I1.env0 b r q) fun r s' hq => ?_)
  cases r with
  | error e => exact passAt tk σ pins H1 s1 e s' I1 hq
  | ok fl =>
    cases fl with
    | ret u => exact I1.after hq
    | next => exact False.elim hq
    | brk => exact False.elim hq
    | cont => exact False.elim hq
end LF
set_option Elab.async false
set_option linter.all false
set_option maxRecDepth 100000
set_option maxHeartbeats 4000000
/-! LF11: isinstance of own classes: errors, instances, plain things. -/
namespace LF
open PySem PySem.Spec PyProof.Rows L2
/-- a thing's class: built-in, an own error's, an own instance's -/
inductive CT where
  | b (T : String) | x (c : Str) | i (c : Str)
def ctOf (M : Mem) : D → Option CT
  | .exc c _ _ => some (.x c)
  | .ins c _ _ => some (.i c)
  | .obj n => (match M[n]? with
    | some (.ins c _) => some (.i c)
    | some (.lst _) => some (.b "list")
    | some (.ro _) => some (.b "list")
    | some (.dic _) => some (.b "dict")
    | none => none)
  | d => (tagOf M d).map .b
def ctV (K : Frg) : CT → Value
  | .b T => .type T
  | .x c => .ref (He.ga K c)
  | .i c => .ref (He.ga K c)
/-- what the head must say of an instance's class -/
structure InsC (K : Frg) (C : Addr) : Prop where
  cl : Cls K C
  ha : PySem.W.findIn K (.ref C) "__class__" = some (some (.builtin "object.__class__"))
  hn : PySem.W.specialIn K (.builtin "object.__class__") "__get__" = some (some (.builtin "getset_descriptor.__get__"))
  ht : PySem.W.takesIn K (.builtin "object.__class__") = some true
  hm : PySem.W.mroIn K C (.type "object") = some true
def CtOk (K : Frg) : CT → Prop
  | .b _ => True
  | .x c => ExcC K (He.ga K c)
  | .i c => InsC K (He.ga K c)
theorem hasDict_cls {K : Frg} {C : Addr} (h : PySem.W.hasDictIn K C = true) : (PySem.W.clsIn K C).isSome = true := by
  obtain ⟨cd, hc, _⟩ := PySem.W.any_some h
  rw [hc]; rfl
theorem kit_ofD {X : Cx} {pins : List (Addr × Obj)} {σ : L2.St} {H : Hp} {s : Shared} {φ : Wd} {M : Mem} {d : D} {v : V} {u : Value} {ct : CT} (I : Inv X pins σ H s) (S : Sto X.K φ M H) (r : Rep X.K φ H d v) (rx : RelV v u) (h : ctOf M d = some ct) (ok : CtOk X.K ct) :
    ∃ P : Heap → Prop, PySem.W.KitX X.K u (ctV X.K ct) P ∧ P s.heap ∧ u ≠ .builtin "__main__.__loader__#opaque" := by
  have byTag : ∀ t, tagOf M d = some t → ct = .b t → ∃ P : Heap → Prop, PySem.W.KitX X.K u (ctV X.K ct) P ∧ P s.heap ∧ u ≠ .builtin "__main__.__loader__#opaque" := fun t e q => by
    subst q
    exact kit_of I rx (tag_ty S r e)
  cases d with
  | exc c ns ds =>
    cases h
    unfold Rep at r
    obtain ⟨a, dd, rfl, _, h1, fv, h2, _, _⟩ := r
    cases (show u = Value.ref a from rx)
    obtain ⟨⟨o, vs, g1, g2, g3, g4⟩, _, _⟩ := (show ObjOk X.prog X.w H s.heap a (.ext (IsX a (He.ga X.K c) dd)) from I.hok a _ h1)
    have C : ExcC X.K (He.ga X.K c) := ok
    have od : ∃ od, PySem.W.InstAt s.heap a o (He.ga X.K c) od := by
      have no : PySem.W.notCls o = true := by unfold PySem.W.notCls; rw [g4]
      rcases h2 with ⟨e, _⟩ | ⟨d, e, _, e2⟩
      · exact ⟨none, g1, g2, no, by rw [g3, e]; exact True.intro⟩
      · obtain ⟨mA, ⟨od, es, ep, e3, _⟩, _⟩ := (show ObjOk X.prog X.w H s.heap d (.xd fv) from I.hok d _ e2)
        exact ⟨some od, g1, g2, no, by rw [g3, e]; exact e3⟩
    obtain ⟨od, J⟩ := od
    exact ⟨_, PySem.W.kitx_exc (hasDict_cls C.hd) C.hg C.hk C.hs C.ha C.hn C.ht C.hm, J, fun z => nomatch z⟩
  | ins c ns ds =>
    cases h
    unfold Rep at r
    obtain ⟨a, dx, fv, rfl, _, h1, _, _⟩ := r
    have C : InsC X.K (He.ga X.K c) := ok
    exact kit_of I rx (.base (.ins h1 C.cl C.ha C.hn C.ht C.hm))
  | obj n =>
    have h : (match M[n]? with
      | some (.ins c _) => some (.i c)
      | some (.lst _) => some (.b "list")
      | some (.ro _) => some (.b "list")
      | some (.dic _) => some (.b "dict")
      | none => none) = some ct := h
    cases q : M[n]? with
    | none => rw [q] at h; cases h
    | some mo =>
      rw [q] at h
      cases mo with
      | ins c fs =>
        cases h
        unfold Rep at r
        obtain ⟨a, h1, rfl⟩ := r
        obtain ⟨dx, fv, h2, _⟩ := S.ob n a _ h1 q
        have C : InsC X.K (He.ga X.K c) := ok
        exact kit_of I rx (.base (.ins h2 C.cl C.ha C.hn C.ht C.hm))
      | lst ds => cases h; exact byTag "list" (by simp only [tagOf, q]) rfl
      | ro ds => cases h; exact byTag "list" (by simp only [tagOf, q]) rfl
      | dic kvs => cases h; exact byTag "dict" (by simp only [tagOf, q]) rfl
  | non => cases h; exact byTag _ rfl rfl
  | bl b => cases h; exact byTag _ rfl rfl
  | int i => cases h; exact byTag _ rfl rfl
  | str x => cases h; exact byTag _ rfl rfl
  | tup ds => cases h; exact byTag _ rfl rfl
  | lst ds => cases h; exact byTag _ rfl rfl
  | dic ks ds => cases h; exact byTag _ rfl rfl
/-- isinstance(x, c), isinstance(x, (c1, ..)) -/
def rIs1 (K : Frg) (cv : Value) : List V → Hp → VK → Prop := fun xs H Q => ∃ φ M d v c ct b, xs = [v, c] ∧ Sto K φ M H ∧ Rep K φ H d v ∧ ctOf M d = some ct ∧ CtOk K ct ∧ ClsV c cv ∧ PySem.W.kitOne K (ctV K ct) cv = some b ∧ Q (.bl b) H
def rIsT (K : Frg) (us : List Value) : List V → Hp → VK → Prop := fun xs H Q => ∃ φ M d v tp cs ct b, xs = [v, .ref tp] ∧ H tp = some (.tup cs) ∧ Paired ClsV cs us ∧ Sto K φ M H ∧ Rep K φ H d v ∧ ctOf M d = some ct ∧ CtOk K ct ∧ PySem.W.kitAny K (ctV K ct) us = some b ∧ Q (.bl b) H
section
variable {X : Cx}
theorem call_is1 {cv : Value} : CallR X (.builtin "isinstance") (rIs1 X.K cv) := by
  intro pins s σ H xs us Q I r h
  obtain ⟨φ, M, d, v, c, ct, b, rfl, S, rd, hc, ok, k, e, q⟩ := h
  obtain ⟨u1, u2, rfl, r1, r2⟩ := vals2 r
  have e2 := k.eq r2
  subst e2
  obtain ⟨P, Z, p, hx⟩ := kit_ofD I S rd r1 hc ok
  exact PySem.W.kia_one Z I.kIn p e hx fun tk => ⟨.bl b, H, I.tok tk, rfl, q⟩
theorem call_isT {ws : List Value} : CallR X (.builtin "isinstance") (rIsT X.K ws) := by
  intro pins s σ H xs us Q I r h
  obtain ⟨φ, M, d, v, tp, cs, ct, b, rfl, hT, k, S, rd, hc, ok, e, q⟩ := h
  obtain ⟨u1, u2, rfl, r1, r2⟩ := vals2 r
  cases (show u2 = Value.ref tp from r2)
  obtain ⟨P, Z, p, hx⟩ := kit_ofD I S rd r1 hc ok
  obtain ⟨_, its, rv, o, h1, h2, n, h3⟩ := (show ObjOk X.prog X.w H s.heap tp (.tup cs) from I.hok tp _ hT)
  have e3 := ClsV.all k rv
  subst e3
  obtain ⟨oc, od, dt, sl⟩ := o
  simp only at h2 h3
  subst h2 h3
  exact PySem.W.kia_tup Z I.kIn p h1 e hx fun tk => ⟨.bl b, H, I.tok tk, rfl, q⟩
end
def dIs (isa : CT → Option Bool) (da : DE) : DE := fun r M => (da r M).bind fun x M1 => match (ctOf M1 x).bind isa with
  | some b => .ok (.bl b) M1
  | none => .no
theorem dIs_inv {K : Frg} {φ : Wd} {H : Hp} {Q : VK} {W : XK} {x : D} {M : Mem} {isa : CT → Option Bool} (h : Okd K φ H (RE K) (match (ctOf M x).bind isa with
  | some b => .ok (.bl b) M
  | none => .no) Q W) : ∃ ct b, ctOf M x = some ct ∧ isa ct = some b ∧ Okd K φ H (RE K) (.ok (.bl b) M) Q W := by
  cases q : ctOf M x with
  | none => rw [q] at h; exact h.elim
  | some ct =>
    rw [q, Option.bind_some] at h
    cases q2 : isa ct with
    | none => rw [q2] at h; exact h.elim
    | some b => rw [q2] at h; exact ⟨ct, b, rfl, q2, h⟩
section
variable {X : Cx} {W : WX} {pos : Pos}
/-- one own class -/
theorem de_is1 {x : Str} {isa : CT → Option Bool} {e : Expr} {da : DE} {fp np : Pos} (hisa : ∀ ct b, isa ct = some b → CtOk X.K ct ∧ PySem.W.kitOne X.K (ctV X.K ct) (.ref (He.ga X.K x)) = some b) (hg : Gl X "isinstance") (hm : X.mg "isinstance" = none) (hgx : Gl X x) (hmx : X.mg x = some (.ref (He.ga X.K x))) (he : DEx X W e da)
    (hd : (x == ("__debug__" : Str)) = false := by decide) (hs : starEach [e, .Name x np] X.env = (false, eval e X.env) :: starEach [.Name x np] X.env := by rfl) (hs2 : starEach [.Name x np] X.env = (false, eval (.Name x np) X.env) :: starEach [] X.env := by rfl) (hpl : (backTo pos (starEach [.Name x np] X.env)).any (·.1) = false := by rfl) :
    DEx X W (.Call (.Name "isinstance" fp) [e, .Name x np] [] pos) (dIs isa da) := by
  obtain ⟨_, p1, s1⟩ := he
  refine ⟨_, pe_callB (call_is1 (cv := .ref (He.ga X.K x))) hg hm (by decide +kernel) (pa_cons p1 (pa_cons (pe_glob (v := .ref (He.ga X.K x)) hgx hmx rfl hd) pa_nil hs2) hs) (by decide) (by decide) hs hpl, fun φ M H σ r Q S E h => ?_⟩
  refine s1 φ M H σ r _ S E (Okd.bind h fun d M1 v φ1 H1 _ g1 S1 rv h1 => ?_)
  obtain ⟨ct, b, hc, hi, h1⟩ := dIs_inv h1
  obtain ⟨ok, kt⟩ := hisa ct b hi
  exact ⟨φ1, M1, d, v, _, ct, b, rfl, S1, rv, hc, ok, .own _, kt, okB S1 h1⟩
/-- one built-in class -/
theorem de_is1T {T : String} {x : Str} {isa : CT → Option Bool} {e : Expr} {da : DE} {fp np : Pos} (hisa : ∀ ct b, isa ct = some b → CtOk X.K ct ∧ PySem.W.kitOne X.K (ctV X.K ct) (.type T) = some b) (hg : Gl X "isinstance") (hm : X.mg "isinstance" = none) (hgx : Gl X x) (hmx : X.mg x = none) (hx : bootBuiltins x = some (.type T)) (he : DEx X W e da)
    (hn : x ≠ "__name__" := by decide) (hd : (x == ("__debug__" : Str)) = false := by decide) (hs : starEach [e, .Name x np] X.env = (false, eval e X.env) :: starEach [.Name x np] X.env := by rfl) (hs2 : starEach [.Name x np] X.env = (false, eval (.Name x np) X.env) :: starEach [] X.env := by rfl) (hpl : (backTo pos (starEach [.Name x np] X.env)).any (·.1) = false := by rfl) :
    DEx X W (.Call (.Name "isinstance" fp) [e, .Name x np] [] pos) (dIs isa da) := by
  obtain ⟨_, p1, s1⟩ := he
  refine ⟨_, pe_callB (call_is1 (cv := .type T)) hg hm (by decide +kernel) (pa_cons p1 (pa_cons (pe_bltn (v := .ty T) hgx hmx hx rfl hn hd) pa_nil hs2) hs) (by decide) (by decide) hs hpl, fun φ M H σ r Q S E h => ?_⟩
  refine s1 φ M H σ r _ S E (Okd.bind h fun d M1 v φ1 H1 _ g1 S1 rv h1 => ?_)
  obtain ⟨ct, b, hc, hi, h1⟩ := dIs_inv h1
  obtain ⟨ok, kt⟩ := hisa ct b hi
  exact ⟨φ1, M1, d, v, _, ct, b, rfl, S1, rv, hc, ok, .ty _, kt, okB S1 h1⟩
/-- a row of own classes -/
def PCs (X : Cx) (es : List Expr) (xs : List Str) : Prop := ∃ t, PA X es t ∧ ∀ σ H Q, Q (xs.map fun x => V.ref (He.ga X.K x)) H → t σ H Q
theorem pcs_nil : PCs X [] [] := ⟨_, pa_nil, fun _ _ _ h => h⟩
theorem pcs_cons {x : Str} {np : Pos} {es : List Expr} {xs : List Str} (hgx : Gl X x) (hmx : X.mg x = some (.ref (He.ga X.K x))) (hr : PCs X es xs) (hd : (x == ("__debug__" : Str)) = false := by decide) (hs : starEach (.Name x np :: es) X.env = (false, eval (.Name x np) X.env) :: starEach es X.env := by rfl) : PCs X (.Name x np :: es) (x :: xs) := by
  obtain ⟨t, p, s⟩ := hr
  exact ⟨_, pa_cons (pe_glob (v := .ref (He.ga X.K x)) hgx hmx rfl hd) p hs, fun σ H Q h => s σ H _ h⟩
theorem paired_own {K : Frg} : ∀ xs : List Str, Paired ClsV (xs.map fun x => V.ref (He.ga K x)) (xs.map fun x => Value.ref (He.ga K x))
  | [] => .nil
  | x :: xs => .cons (.own _) (paired_own xs)
theorem de_isT {xs : List Str} {cs : List Expr} {k : Nat} {isa : CT → Option Bool} {e : Expr} {da : DE} {fp tp : Pos} (hisa : ∀ ct b, isa ct = some b → CtOk X.K ct ∧ PySem.W.kitAny X.K (ctV X.K ct) (xs.map fun x => .ref (He.ga X.K x)) = some b) (hg : Gl X "isinstance") (hm : X.mg "isinstance" = none) (hcs : PCs X cs xs) (he : DEx X W e da)
    (hl : xs.length ≤ 100 := by decide) (hs : starEach [e, .Tuple cs k tp] X.env = (false, eval e X.env) :: starEach [.Tuple cs k tp] X.env := by rfl) (hs2 : starEach [.Tuple cs k tp] X.env = (false, eval (.Tuple cs k tp) X.env) :: starEach [] X.env := by rfl) (hpl : (backTo pos (starEach [.Tuple cs k tp] X.env)).any (·.1) = false := by rfl) :
    DEx X W (.Call (.Name "isinstance" fp) [e, .Tuple cs k tp] [] pos) (dIs isa da) := by
  obtain ⟨_, p1, s1⟩ := he
  obtain ⟨t, p2, s2⟩ := hcs
  refine ⟨_, pe_callB (call_isT (ws := xs.map fun x => .ref (He.ga X.K x))) hg hm (by decide +kernel) (pa_cons p1 (pa_cons (pe_tup p2) pa_nil hs2) hs) (by decide) (by decide) hs hpl, fun φ M H σ r Q S E h => ?_⟩
  refine s1 φ M H σ r _ S E (Okd.bind h fun d M1 v φ1 H1 _ g1 S1 rv h1 => ?_)
  refine s2 σ H1 _ ⟨by rw [List.length_map]; exact Nat.le_trans hl (by rw [sizeLine_eq]; decide), fun p hp => ?_⟩
  obtain ⟨ct, b, hc, hi, h1⟩ := dIs_inv h1
  obtain ⟨ok, kt⟩ := hisa ct b hi
  have gp : Grow φ1 H1 φ1 (upd H1 p (.tup (xs.map fun x => V.ref (He.ga X.K x)))) := Grow.new hp
  exact ⟨φ1, M1, d, v, p, _, ct, b, rfl, upd_same, paired_own xs, S1.new hp, Rep.grow gp _ _ rv, hc, ok, kt, h1 _ _ _ gp (S1.new hp) rep_bl⟩
end
/-! ### from a table -/
theorem kitAny_of {K : Frg} {t : Value} {f : Str → Bool} : ∀ {ts : List Str}, (∀ x ∈ ts, PySem.W.kitOne K t (.ref (He.ga K x)) = some (f x)) → PySem.W.kitAny K t (ts.map fun x => .ref (He.ga K x)) = some (ts.any f)
  | [], _ => rfl
  | x :: ts, h => by
    have ih := kitAny_of (K := K) (t := t) (f := f) (ts := ts) fun y hy => h y (List.mem_cons_of_mem _ hy)
    rw [List.map_cons, List.any_cons]
    refine kitAny_cons (h x List.mem_cons_self) (fun e => ?_) (fun e => ?_)
    · rw [ih, e]; rfl
    · rw [e]; rfl
/-- errors' classes that are raised: each with its own ancestors; U: the classes asked for by isinstance, V: by except -/
abbrev XTab := List (Str × List Str)
structure XFacts (K : Frg) (T : XTab) (U V : List Str) : Prop where
  ok : ∀ p ∈ T, ExcC K (He.ga K p.1)
  one : ∀ p ∈ T, ∀ t ∈ U, PySem.W.kitOne K (.ref (He.ga K p.1)) (.ref (He.ga K t)) = some (p.2.contains t)
  val : ∀ p ∈ T, PySem.W.kitOne K (.ref (He.ga K p.1)) (.type "ValueError") = some true
  exm : ∀ p ∈ T, ∀ t ∈ V, PySem.W.exmOne K (.ref (He.ga K p.1)) (.ref (He.ga K t)) = some (p.2.contains t)
def ancOf (T : XTab) (c : Str) : Option (List Str) := (T.find? fun p => p.1 == c).map (·.2)
theorem ancOf_mem {T : XTab} {c : Str} {l : List Str} (h : ancOf T c = some l) : (c, l) ∈ T := by
  unfold ancOf at h
  cases q : T.find? fun p => p.1 == c with
  | none => rw [q] at h; cases h
  | some p =>
    rw [q] at h
    have e := List.find?_some q
    have m := List.mem_of_find?_eq_some q
    obtain ⟨a, b⟩ := p
    cases h
    have e : a = c := beq_iff_eq.mp e
    rw [← e]; exact m
def isX (T : XTab) (ts : List Str) : CT → Option Bool
  | .x c => (ancOf T c).map fun l => ts.any fun t => l.contains t
  | _ => none
def isXv (T : XTab) : CT → Option Bool
  | .x c => (ancOf T c).map fun _ => true
  | _ => none
def exX (T : XTab) (t : Str) (c : Str) : Option Bool := (ancOf T c).map fun l => l.contains t
def inTab (U ts : List Str) : Bool := ts.all fun t => U.contains t
theorem inTab_mem {U ts : List Str} (h : inTab U ts = true) {t : Str} (ht : t ∈ ts) : t ∈ U := by
  have q := List.all_eq_true.mp h t ht
  simpa using q
section
variable {K : Frg} {T : XTab} {U V : List Str}
theorem XFacts.isT (F : XFacts K T U V) {ts : List Str} (ht : inTab U ts = true) : ∀ ct b, isX T ts ct = some b → CtOk K ct ∧ PySem.W.kitAny K (ctV K ct) (ts.map fun x => .ref (He.ga K x)) = some b := by
  intro ct b h
  cases ct with
  | x c =>
    have h : (ancOf T c).map (fun l => ts.any fun t => l.contains t) = some b := h
    cases q : ancOf T c with
    | none => rw [q] at h; cases h
    | some l =>
      rw [q] at h
      cases h
      exact ⟨F.ok _ (ancOf_mem q), kitAny_of fun x hx => F.one _ (ancOf_mem q) _ (inTab_mem ht hx)⟩
  | _ => cases h
theorem XFacts.is1 (F : XFacts K T U V) {t : Str} (ht : inTab U [t] = true) : ∀ ct b, isX T [t] ct = some b → CtOk K ct ∧ PySem.W.kitOne K (ctV K ct) (.ref (He.ga K t)) = some b := by
  intro ct b h
  cases ct with
  | x c =>
    have h : (ancOf T c).map (fun l => [t].any fun t => l.contains t) = some b := h
    cases q : ancOf T c with
    | none => rw [q] at h; cases h
    | some l =>
      rw [q] at h
      cases h
      refine ⟨F.ok _ (ancOf_mem q), ?_⟩
      have z := F.one _ (ancOf_mem q) _ (inTab_mem ht (List.mem_singleton.mpr rfl))
      refine (show PySem.W.kitOne K (.ref (He.ga K c)) (.ref (He.ga K t)) = _ from ?_)
      simpa using z
  | _ => cases h
theorem XFacts.isV (F : XFacts K T U V) : ∀ ct b, isXv T ct = some b → CtOk K ct ∧ PySem.W.kitOne K (ctV K ct) (.type "ValueError") = some b := by
  intro ct b h
  cases ct with
  | x c =>
    have h : (ancOf T c).map (fun _ => true) = some b := h
    cases q : ancOf T c with
    | none => rw [q] at h; cases h
    | some l =>
      rw [q] at h
      cases h
      exact ⟨F.ok _ (ancOf_mem q), F.val _ (ancOf_mem q)⟩
  | _ => cases h
theorem XFacts.ex (F : XFacts K T U V) {t : Str} (ht : inTab V [t] = true) : ∀ c b, exX T t c = some b → PySem.W.exmOne K (.ref (He.ga K c)) (.ref (He.ga K t)) = some b := by
  intro c b h
  unfold exX at h
  cases q : ancOf T c with
  | none => rw [q] at h; cases h
  | some l =>
    rw [q] at h
    cases h
    exact F.exm _ (ancOf_mem q) _ (inTab_mem ht (List.mem_singleton.mpr rfl))
end
end LF
set_option Elab.async false
set_option linter.all false
set_option maxRecDepth 100000
set_option maxHeartbeats 4000000
/-! LF12: calls without arguments; the Hook with the errors' table; defs by their bodies. -/
namespace LF
open PySem PySem.Spec PyProof.Rows L2
section
variable {X : Cx} {W : WX} {p pos : Pos} {x : Str}
theorem de_call0 {k : Nat} {F : FN} (G : DefOk X.prog X.w X.K X.mg X.base k x 0 F) (hr : Room k X.A) (tk : Takes X W) (hg : Gl X x) (hdb : (x == ("__debug__" : Str)) = false := by decide) : DEx X W (.Call (.Name x p) [] [] pos) (dCall 0 F dNil) := by
  obtain ⟨f, fd, ps, hm, kp, hb, hF⟩ := G.ex
  refine ⟨tCallS (SpD X.K 0 F) (WE W) tNil, ⟨fun pins s σ H Q I h => ?_⟩, sim_call (fun φ M H σ r Q S E h => h.here S RepL.nil)⟩
  refine wpAny_Call_Name_kw (ld_glob I hg hm ?_ hdb)
  exact PySem.W.callWith_K0 I.kIn kp (run_fnS (us := []) hF hr hb (passAt tk σ) I .nil h)
end
theorem takes_f {X : Cx} : Takes X Wf := fun _ _ ⟨_, _, _, _, _, _, _, _, _, _, _, _, _, _, _, _, w⟩ => w.elim
def blkB (N : List Str) (sc scope : Scope) (own : List (Str × Nat)) : Bool := decide (scope.kind = .function) && (scope.names.all (fun y => decide (scope.names.lookup y.1 = some y.2)) && (own.all (fun p => decide (N[p.2]? = some p.1)) &&
  (scope.names.all (fun y => decide (y.2 ≠ .free) || (decide (sc.names.lookup y.1 = some .cell) || decide (sc.names.lookup y.1 = some .free))) && scope.names.all (fun y => (decide (y.2 ≠ .local) && decide (y.2 ≠ .cell)) || ((own.map (·.1)).contains y.1 || !N.contains y.1)))))
theorem blk_of {N : List Str} {sc scope : Scope} {own : List (Str × Nat)} (h : blkB N sc scope own = true) : BlkOk N sc scope own := by
  obtain ⟨h1, h⟩ := He.ba h
  obtain ⟨h2, h⟩ := He.ba h
  obtain ⟨h3, h⟩ := He.ba h
  obtain ⟨h4, h5⟩ := He.ba h
  refine ⟨of_decide_eq_true h1, fun y hy => of_decide_eq_true (List.all_eq_true.mp h2 y hy), fun p hp => of_decide_eq_true (List.all_eq_true.mp h3 p hp), fun y hy e => ?_, fun y hy e => ?_⟩
  · have q := List.all_eq_true.mp h4 y hy
    rw [e] at q
    simpa using q
  · have q := List.all_eq_true.mp h5 y hy
    have z : (decide (y.2 ≠ .local) && decide (y.2 ≠ .cell)) = false := by
      rcases e with e | e <;> rw [e] <;> rfl
    rw [z] at q
    simpa using q
theorem room1 {k : Nat} {A : Around} (r : Room k A) : A.units + 1 < cLine := by have := r.un; omega
theorem room1H {k : Nat} {A : Around} (r : L2H.RoomH k A) : A.units + 1 < cLine := by have := r.un; omega
theorem roomS {k j : Nat} {A A' : Around} (r : Room k A) (h : j ≤ k) (hd : A'.depth = A.depth := by rfl) (hu : A'.units = A.units := by rfl) : L2H.RoomH j A' := ⟨by have := r.dp; rw [hd]; omega, by have := r.un; rw [hu]; omega⟩
/-! ### the Hook -/
def excCb (K : Frg) (D : Addr) : Bool := He.eqO (PySem.W.findIn K (.ref D) "__getattribute__") (some (some (.builtin "BaseException.__getattribute__"))) && (He.eqO (PySem.W.findIn K (.ref D) "__getattr__") (some none) &&
  (decide (PySem.W.subIn K (.ref D) (.type "BaseException") = some true) && (PySem.W.hasDictIn K D && (He.eqO (PySem.W.findIn K (.ref D) "__class__") (some (some (.builtin "object.__class__"))) &&
  (He.eqO (PySem.W.specialIn K (.builtin "object.__class__") "__get__") (some (some (.builtin "getset_descriptor.__get__"))) && (decide (PySem.W.takesIn K (.builtin "object.__class__") = some true) && decide (PySem.W.mroIn K D (.type "object") = some true)))))))
theorem excCb_ok {K : Frg} {D : Addr} (h : excCb K D = true) : ExcC K D := by
  obtain ⟨h1, h⟩ := He.ba h
  obtain ⟨h2, h⟩ := He.ba h
  obtain ⟨h3, h⟩ := He.ba h
  obtain ⟨h4, h⟩ := He.ba h
  obtain ⟨h5, h⟩ := He.ba h
  obtain ⟨h6, h⟩ := He.ba h
  obtain ⟨h7, h8⟩ := He.ba h
  exact ⟨He.eqO_ok h1, He.eqO_ok h2, of_decide_eq_true h3, h4, He.eqO_ok h5, He.eqO_ok h6, of_decide_eq_true h7, of_decide_eq_true h8⟩
def xfB (T : XTab) (U V : List Str) (K : Frg) : Bool := T.all fun p => excCb K (He.ga K p.1) && ((U.all fun t => decide (PySem.W.kitOne K (.ref (He.ga K p.1)) (.ref (He.ga K t)) = some (p.2.contains t))) &&
  (decide (PySem.W.kitOne K (.ref (He.ga K p.1)) (.type "ValueError") = some true) && (V.all fun t => decide (PySem.W.exmOne K (.ref (He.ga K p.1)) (.ref (He.ga K t)) = some (p.2.contains t)))))
theorem xfB_ok {T : XTab} {U V : List Str} {K : Frg} (h : xfB T U V K = true) : XFacts K T U V := by
  have h := List.all_eq_true.mp h
  refine ⟨fun p hp => ?_, fun p hp t ht => ?_, fun p hp => ?_, fun p hp t ht => ?_⟩
  · exact excCb_ok (He.ba (h p hp)).1
  · exact of_decide_eq_true (List.all_eq_true.mp (He.ba (He.ba (h p hp)).2).1 t ht)
  · exact of_decide_eq_true (He.ba (He.ba (He.ba (h p hp)).2).2).1
  · exact of_decide_eq_true (List.all_eq_true.mp (He.ba (He.ba (He.ba (h p hp)).2).2).2 t ht)
abbrev AlX : Type := Bool × He.AlD
def obsX (xb : Frg → Bool) (fa : List He.Fa) (fn : List He.DefD) (K : Frg) : AlX := (xb K, He.obsD fa fn K)
def valX (fn : List He.DefD) : AlX := (true, He.valD fn)
def SaysX (xb : Frg → Bool) (fa : List He.Fa) (fn : List He.DefD) (K : Frg) : Prop := xb K = true ∧ He.SaysD fa fn K
def obsXG (n : Nat) (xb : Frg → Bool) (fa : List He.Fa) (fn : List He.DefD) (g : Addr → Option Obj) : AlX := obsX xb fa fn (He.frG g (He.asD g n))
def hookX (n : Nat) (xb : Frg → Bool) (fa : List He.Fa) (fn : List He.DefD) : PySem.W.Hook where
  α := AlX
  obs := fun s => obsXG n xb fa fn s.heap.get?
  val := fun _ => valX fn
  says := fun _ h => ∃ K : PySem.W.Frag, K.In h ∧ SaysX xb fa fn K
  of := fun _ _ e => ⟨_, He.frG_in, congrArg (fun z : AlX => z.1) e, congrArg (fun z : AlX => z.2) e⟩
  keeps := fun _ _ _ ⟨K, hK, c⟩ k => ⟨K, PySem.W.Frag.In.keeps hK k, c⟩
theorem obsXG_eq {n : Nat} {xb : Frg → Bool} {fa : List He.Fa} {fn : List He.DefD} {g : Addr → Option Obj} {s : Shared} (h : ∀ a, g a = s.heap.get? a) : obsXG n xb fa fn g = (hookX n xb fa fn).obs s := by
  have e : g = s.heap.get? := funext h
  rw [e] <;> rfl
theorem excOk {K : Frg} {h : Heap} {mg : Str → Option Value} {x : Str} (X : K.In h) (G : h.Ns mainGlobals mg) (c1 : (He.Fa.glo x).ok K = true) (c2 : (He.Fa.exc x).ok K = true) : ExcOk K mg x := by
  obtain ⟨e, k, b, t⟩ := He.exc_ok c2
  exact ⟨He.glo_ok X G c1, e, k, b, t⟩
/-! ### a def by its body -/
section
variable {P : Program} {w : World} {K : Frg} {mg : Str → Option Value} {base : Heap} {x qual : Str} {params : Arguments} {body : List Stmt} {scope : Scope} {kws : List (Str × V)} {f : Addr} {fd : FuncData} {N ps : List Str} {k n : Nat} {b : DS}
theorem def_by (hm : mg x = some (.ref f)) (G : FunD K x qual params body scope [] kws f fd) (S : FnScope N ps scope) (hn : ps.length = n)
    (hp : ∀ (kV doc pm : Value) (an : Option Addr) (cdv ct : Value) (us : List Value), us.length = ps.length → bindArgs (PySem.W.fnOf x qual params body scope .none kV doc pm an cdv ct) ⟨us, []⟩ = pure (ps.zip us))
    (hb : ∀ (cdv : Value) (A : Around) (outer : List Env) (s : Shared) (H : Hp) (E : XK), Room k (A.deeper (envOfC qual scope s.heap.objs.size f cdv)) → Takes (cxOf (L2.CX P w) P w K mg base N qual scope f cdv A outer s H E) (fun cls d _ H => E cls d H) →
      PassesOwn (model P w) (A.deeper (envOfC qual scope s.heap.objs.size f cdv)) (envOfC qual scope s.heap.objs.size f cdv) (cxOf (L2.CX P w) P w K mg base N qual scope f cdv A outer s H E).xe →
      DBx (cxOf (L2.CX P w) P w K mg base N qual scope f cdv A outer s H E) (fun cls d _ H => E cls d H) body b) : DefOk P w K mg base (k + 1) x n (runB N.length b) := by
  subst hn
  exact ⟨f, fd, ps, hm, G.kp, FunD.bindsN G hp, fn_by G S hb fun _ _ _ _ => rfl⟩
theorem def_byN (hm : mg x = some (.ref f)) (G : FunD K x qual params body scope [] kws f fd) (S : FnScope N ps scope) (hn : ps.length = n)
    (hp : ∀ (kV doc pm : Value) (an : Option Addr) (cdv ct : Value) (us : List Value), us.length = ps.length → bindArgs (PySem.W.fnOf x qual params body scope .none kV doc pm an cdv ct) ⟨us, []⟩ = pure (ps.zip us))
    (hb : ∀ (cdv : Value) (A : Around) (outer : List Env) (s : Shared) (H : Hp) (E : XK), L2H.RoomH k (A.deeper (envOfC qual scope s.heap.objs.size f cdv)) → Takes (cxN (L2.CX P w) P w K mg base N qual scope f cdv A outer s H E) (fun cls d _ H => E cls d H) →
      DBx (cxN (L2.CX P w) P w K mg base N qual scope f cdv A outer s H E) (fun cls d _ H => E cls d H) body b) : DefOkN P w K mg base (k + 1) x n (runB N.length b) := by
  subst hn
  exact ⟨f, fd, ps, hm, G.kp, FunD.bindsN G hp, fn_byN G S hb fun _ _ _ _ => rfl⟩
end
end LF
set_option Elab.async false
set_option linter.all false
set_option maxRecDepth 100000
set_option maxHeartbeats 4000000
/-! LF13: what the combinators come to: rules for simp, each with its way on as a term of its own. -/
namespace LF
open PySem PySem.Spec PyProof.Rows L2
section
variable {α : Type} {r r1 : Env'} {M M1 : Mem} {x y d : D} {e : Exn} {da db dc de : DE} {dr : DA} {f f' : F2} {g : F1} {F : FN} {n i : Nat} {t u : DT} {sa sb : DS} {ds : List D} {b : Bool}
@[simp] theorem dVar_ev : dVar i r M = (match r[i]? with
  | some (some d) => .ok d M
  | _ => .no) := rfl
@[simp] theorem dC_ev : dC d r M = .ok d M := rfl
def binK2 (f : F2) (x : D) (o : Out D) : Out D := o.bind fun y M2 => f x y M2
def binK1 (f : F2) (o : Out D) (db : DE) (r : Env') : Out D := o.bind fun x M1 => binK2 f x (db r M1)
@[simp] theorem dBin_ev : dBin f da db r M = binK1 f (da r M) db r := rfl
@[simp] theorem binK1_ok : binK1 f (.ok x M) db r = binK2 f x (db r M) := rfl
@[simp] theorem binK1_ex : binK1 f (.ex e M) db r = .ex e M := rfl
@[simp] theorem binK1_no : binK1 f .no db r = .no := rfl
@[simp] theorem binK2_ok : binK2 f x (.ok y M) = f x y M := rfl
@[simp] theorem binK2_ex : binK2 f x (.ex e M) = .ex e M := rfl
@[simp] theorem binK2_no : binK2 f x .no = .no := rfl
def unK (g : F1) (o : Out D) : Out D := o.bind g
@[simp] theorem dUn_ev : dUn g da r M = unK g (da r M) := rfl
@[simp] theorem unK_ok : unK g (.ok x M) = g x M := rfl
@[simp] theorem unK_ex : unK g (.ex e M) = .ex e M := rfl
def testK : Out D → Out Bool
  | .ok (.bl b) M => .ok b M
  | .ex e M => .ex e M
  | _ => .no
@[simp] theorem dTest_ev : dTest da r M = testK (da r M) := by
  unfold dTest
  cases da r M with
  | ok a M => cases a <;> rfl
  | _ => rfl
@[simp] theorem testK_ok : testK (.ok (.bl b) M) = .ok b M := rfl
@[simp] theorem testK_ex : testK (.ex e M) = .ex e M := rfl
def chainK3 (f' : F2) (y : D) (o : Out D) (dc : DE) (r : Env') : Out D := o.bind fun z M3 => match z with
  | .bl true => binK2 f' y (dc r M3)
  | .bl false => .ok (.bl false) M3
  | _ => .no
def chainK2 (f f' : F2) (x : D) (o : Out D) (dc : DE) (r : Env') : Out D := o.bind fun y M2 => chainK3 f' y (f x y M2) dc r
def chainK1 (f f' : F2) (o : Out D) (db dc : DE) (r : Env') : Out D := o.bind fun x M1 => chainK2 f f' x (db r M1) dc r
@[simp] theorem dChain_ev : dChain f f' da db dc r M = chainK1 f f' (da r M) db dc r := rfl
@[simp] theorem chainK1_ok : chainK1 f f' (.ok x M) db dc r = chainK2 f f' x (db r M) dc r := rfl
@[simp] theorem chainK1_ex : chainK1 f f' (.ex e M) db dc r = .ex e M := rfl
@[simp] theorem chainK2_ok : chainK2 f f' x (.ok y M) dc r = chainK3 f' y (f x y M) dc r := rfl
@[simp] theorem chainK2_ex : chainK2 f f' x (.ex e M) dc r = .ex e M := rfl
@[simp] theorem chainK3_b : chainK3 f' y (.ok (.bl b) M) dc r = (bif b then binK2 f' y (dc r M) else .ok (.bl false) M) := by cases b <;> rfl
/-! ### tests -/
def andK (o : Out Bool) (u : DT) (r : Env') : Out Bool := o.bind fun b M1 => match b with
  | true => u r M1
  | false => .ok false M1
def orK (o : Out Bool) (u : DT) (r : Env') : Out Bool := o.bind fun b M1 => match b with
  | true => .ok true M1
  | false => u r M1
def notK (o : Out Bool) : Out Bool := o.bind fun b M1 => .ok (!b) M1
@[simp] theorem dAnd_ev : dAnd t u r M = andK (t r M) u r := rfl
@[simp] theorem dOr_ev : dOr t u r M = orK (t r M) u r := rfl
@[simp] theorem dNot_ev : dNot t r M = notK (t r M) := rfl
@[simp] theorem andK_t : andK (.ok true M) u r = u r M := rfl
@[simp] theorem andK_f : andK (.ok false M) u r = .ok false M := rfl
@[simp] theorem andK_ex : andK (.ex e M) u r = .ex e M := rfl
@[simp] theorem orK_t : orK (.ok true M) u r = .ok true M := rfl
@[simp] theorem orK_f : orK (.ok false M) u r = u r M := rfl
@[simp] theorem orK_ex : orK (.ex e M) u r = .ex e M := rfl
@[simp] theorem notK_ok : notK (.ok b M) = .ok (!b) M := rfl
@[simp] theorem notK_ex : notK (.ex e M) = .ex e M := rfl
def andVK (o : Out D) (db : DE) (r : Env') : Out D := o.bind fun x M1 => match x with
  | .bl true => db r M1
  | .bl false => .ok (.bl false) M1
  | _ => .no
def orVK (o : Out D) (db : DE) (r : Env') : Out D := o.bind fun x M1 => match x with
  | .bl true => .ok (.bl true) M1
  | .bl false => db r M1
  | _ => .no
def notVK (o : Out D) : Out D := o.bind fun x M1 => match x with
  | .bl b => .ok (.bl (!b)) M1
  | _ => .no
@[simp] theorem dAndV_ev : dAndV da db r M = andVK (da r M) db r := rfl
@[simp] theorem dOrV_ev : dOrV da db r M = orVK (da r M) db r := rfl
@[simp] theorem dNotV_ev : dNotV da r M = notVK (da r M) := rfl
@[simp] theorem andVK_ok : andVK (.ok (.bl b) M) db r = (bif b then db r M else .ok (.bl false) M) := by cases b <;> rfl
@[simp] theorem andVK_ex : andVK (.ex e M) db r = .ex e M := rfl
@[simp] theorem orVK_ok : orVK (.ok (.bl b) M) db r = (bif b then .ok (.bl true) M else db r M) := by cases b <;> rfl
@[simp] theorem orVK_ex : orVK (.ex e M) db r = .ex e M := rfl
@[simp] theorem notVK_ok : notVK (.ok (.bl b) M) = .ok (.bl (!b)) M := rfl
@[simp] theorem notVK_ex : notVK (.ex e M) = .ex e M := rfl
def ifEK (o : Out Bool) (da db : DE) (r : Env') : Out D := o.bind fun b M1 => match b with
  | true => da r M1
  | false => db r M1
@[simp] theorem dIfE_ev : dIfE t da db r M = ifEK (t r M) da db r := rfl
@[simp] theorem ifEK_t : ifEK (.ok true M) da db r = da r M := rfl
@[simp] theorem ifEK_f : ifEK (.ok false M) da db r = db r M := rfl
@[simp] theorem ifEK_ex : ifEK (.ex e M) da db r = .ex e M := rfl
/-! ### rows, displays, calls -/
def consK2 (x : D) (o : Out (List D)) : Out (List D) := o.bind fun xs M2 => .ok (x :: xs) M2
def consK1 (o : Out D) (dr : DA) (r : Env') : Out (List D) := o.bind fun x M1 => consK2 x (dr r M1)
@[simp] theorem dNil_ev : dNil r M = .ok [] M := rfl
@[simp] theorem dCons_ev : dCons da dr r M = consK1 (da r M) dr r := rfl
@[simp] theorem consK1_ok : consK1 (.ok x M) dr r = consK2 x (dr r M) := rfl
@[simp] theorem consK1_ex : consK1 (.ex e M) dr r = .ex e M := rfl
@[simp] theorem consK2_ok : consK2 x (.ok ds M) = .ok (x :: ds) M := rfl
@[simp] theorem consK2_ex : consK2 x (.ex e M) = .ex e M := rfl
def tupK (o : Out (List D)) : Out D := o.bind fun ds M1 => match lineB ds.length with
  | true => .ok (.tup ds) M1
  | false => .no
def lstK (o : Out (List D)) : Out D := o.bind fun ds M1 => match lineB ds.length with
  | true => .ok (.lst ds) M1
  | false => .no
def lstAK (o : Out (List D)) : Out D := o.bind fun ds M1 => match lineB ds.length with
  | true => .ok (.obj M1.length) (M1 ++ [.lst ds])
  | false => .no
@[simp] theorem dTup_ev : dTup dr r M = tupK (dr r M) := rfl
@[simp] theorem dLst_ev : dLst dr r M = lstK (dr r M) := rfl
@[simp] theorem dLstA_ev : dLstA dr r M = lstAK (dr r M) := rfl
theorem lineB_of {n : Nat} (h : n ≤ 100000) : lineB n = true := Nat.ble_eq_true_of_le h
@[simp] theorem tupK_ok (h : ds.length ≤ 100000) : tupK (.ok ds M) = .ok (.tup ds) M := by
  unfold tupK
  dsimp only [Out.bind]
  rw [lineB_of h]
@[simp] theorem tupK_ex : tupK (.ex e M) = .ex e M := rfl
@[simp] theorem lstK_ok (h : ds.length ≤ 100000) : lstK (.ok ds M) = .ok (.lst ds) M := by
  unfold lstK
  dsimp only [Out.bind]
  rw [lineB_of h]
@[simp] theorem lstK_ex : lstK (.ex e M) = .ex e M := rfl
@[simp] theorem lstAK_ok (h : ds.length ≤ 100000) : lstAK (.ok ds M) = .ok (.obj M.length) (M ++ [.lst ds]) := by
  unfold lstAK
  dsimp only [Out.bind]
  rw [lineB_of h]
@[simp] theorem lstAK_ex : lstAK (.ex e M) = .ex e M := rfl
def cbK (F : FN) (o : Out (List D)) : Out D := o.bind F
@[simp] theorem dCB_ev : dCB F dr r M = cbK F (dr r M) := rfl
@[simp] theorem cbK_ok : cbK F (.ok ds M) = F ds M := rfl
@[simp] theorem cbK_ex : cbK F (.ex e M) = .ex e M := rfl
def callK (n : Nat) (F : FN) (o : Out (List D)) : Out D := o.bind fun ds M1 => match Nat.beq ds.length n with
  | true => F ds M1
  | false => .no
@[simp] theorem dCall_ev : dCall n F dr r M = callK n F (dr r M) := rfl
@[simp] theorem callK_ok (h : ds.length = n) : callK n F (.ok ds M) = F ds M := by
  subst h
  unfold callK
  dsimp only [Out.bind]
  rw [Nat.beq_refl]
@[simp] theorem callK_ex : callK n F (.ex e M) = .ex e M := rfl
/-! ### statements -/
@[simp] theorem dNext_ev : dNext r M = .nx r M := rfl
def seqK (o : SO) (sb : DS) : SO := match o with
  | .nx r1 M1 => sb r1 M1
  | o => o
@[simp] theorem dSeq_ev : dSeq sa sb r M = seqK (sa r M) sb := rfl
@[simp] theorem seqK_nx : seqK (.nx r M) sb = sb r M := rfl
@[simp] theorem seqK_rt : seqK (.rt d M) sb = .rt d M := rfl
@[simp] theorem seqK_bk : seqK (.bk r M) sb = .bk r M := rfl
@[simp] theorem seqK_ct : seqK (.ct r M) sb = .ct r M := rfl
@[simp] theorem seqK_ex : seqK (.ex e r M) sb = .ex e r M := rfl
@[simp] theorem dBrk_ev : dBrk r M = .bk r M := rfl
@[simp] theorem dCnt_ev : dCnt r M = .ct r M := rfl
@[simp] theorem dRaise_ev {c : Str} : dRaise c r M = .ex ⟨c, [], []⟩ r M := rfl
@[simp] theorem dRetN_ev : dRetN r M = .rt .non M := rfl
def exprK (o : Out D) (r : Env') : SO := o.bindS r fun _ M1 => .nx r M1
@[simp] theorem dExpr_ev : dExpr de r M = exprK (de r M) r := rfl
@[simp] theorem exprK_ok : exprK (.ok x M) r = .nx r M := rfl
@[simp] theorem exprK_ex : exprK (.ex e M) r = .ex e r M := rfl
def retK (o : Out D) (r : Env') : SO := o.bindS r fun d M1 => .rt d M1
@[simp] theorem dRet_ev : dRet de r M = retK (de r M) r := rfl
@[simp] theorem retK_ok : retK (.ok x M) r = .rt x M := rfl
@[simp] theorem retK_ex : retK (.ex e M) r = .ex e r M := rfl
def ifK (o : Out Bool) (sa sb : DS) (r : Env') : SO := o.bindS r fun k M1 => match k with
  | true => sa r M1
  | false => sb r M1
@[simp] theorem dIf_ev : dIf t sa sb r M = ifK (t r M) sa sb r := rfl
@[simp] theorem ifK_t : ifK (.ok true M) sa sb r = sa r M := rfl
@[simp] theorem ifK_f : ifK (.ok false M) sa sb r = sb r M := rfl
@[simp] theorem ifK_ex : ifK (.ex e M) sa sb r = .ex e r M := rfl
def asgK2 (o : Out Env') : SO := match o with
  | .ok r1 M2 => .nx r1 M2
  | _ => .no
def asgK (o : Out D) (g : DG) (r : Env') : SO := o.bindS r fun d M1 => asgK2 (g d r M1)
@[simp] theorem dAsg_ev {g : DG} : dAsg de g r M = asgK (de r M) g r := rfl
@[simp] theorem asgK_ok {g : DG} : asgK (.ok x M) g r = asgK2 (g x r M) := rfl
@[simp] theorem asgK_ex {g : DG} : asgK (.ex e M) g r = .ex e r M := rfl
@[simp] theorem asgK2_ok : asgK2 (.ok r M) = .nx r M := rfl
@[simp] theorem gSlot_ev : gSlot i d r M = .ok (r.set i (some d)) M := rfl
@[simp] theorem gsNil_ev : gsNil [] r M = .ok r M := rfl
def gsK (o : Out Env') (gs : List D → Env' → Mem → Out Env') (ds : List D) : Out Env' := match o with
  | .ok r1 M1 => gs ds r1 M1
  | _ => .no
@[simp] theorem gsCons_ev {g : DG} {gs : List D → Env' → Mem → Out Env'} : gsCons g gs (d :: ds) r M = gsK (g d r M) gs ds := rfl
@[simp] theorem gsK_ok {gs : List D → Env' → Mem → Out Env'} : gsK (.ok r M) gs ds = gs ds r M := rfl
@[simp] theorem gTupD_ev {gs : List D → Env' → Mem → Out Env'} (h : ds.length = n) : gTupD n gs (.tup ds) r M = gs ds r M := by
  subst h
  unfold gTupD
  dsimp only [Out.bind]
  rw [Nat.beq_refl]
/-! ### loops -/
def forK (o : Out Src) (dg : DG) (body : DS) (r : Env') : SO := o.bindS r fun src M1 => forL src.chk dg body src.items r M1
@[simp] theorem dFor_ev {di : DI} {dg : DG} : dFor di dg sb r M = forK (di r M) dg sb r := rfl
@[simp] theorem forK_ok {src : Src} {dg : DG} : forK (.ok src M) dg sb r = forL src.chk dg sb src.items r M := rfl
@[simp] theorem forK_ex {dg : DG} : forK (.ex e M) dg sb r = .ex e r M := rfl
def forK2 (o : SO) (chk : Mem → Bool) (dg : DG) (body : DS) (ds : List D) : SO := match o with
  | .nx r2 M2 => forL chk dg body ds r2 M2
  | .ct r2 M2 => forL chk dg body ds r2 M2
  | .bk r2 M2 => .nx r2 M2
  | o => o
def forK1 (o : Out Env') (chk : Mem → Bool) (dg : DG) (body : DS) (ds : List D) : SO := match o with
  | .ok r1 M1 => forK2 (body r1 M1) chk dg body ds
  | _ => .no
section
variable {chk : Mem → Bool} {dg : DG}
theorem forL_nil (h : chk M = true) : forL chk dg sb [] r M = .nx r M := by unfold forL; rw [h]
theorem forL_cons (h : chk M = true) : forL chk dg sb (d :: ds) r M = forK1 (dg d r M) chk dg sb ds := by
  rw [forL, h]
  dsimp only
  unfold forK1
  cases dg d r M with
  | ok r1 M1 => dsimp only; unfold forK2; cases sb r1 M1 <;> rfl
  | _ => rfl
@[simp] theorem anyM_ev : anyM M = true := rfl
@[simp] theorem forL_nilA : forL anyM dg sb [] r M = .nx r M := forL_nil rfl
@[simp] theorem forL_consA : forL anyM dg sb (d :: ds) r M = forK1 (dg d r M) anyM dg sb ds := forL_cons rfl
@[simp] theorem forK1_ok : forK1 (.ok r M) chk dg sb ds = forK2 (sb r M) chk dg sb ds := rfl
@[simp] theorem forK2_nx : forK2 (.nx r M) chk dg sb ds = forL chk dg sb ds r M := rfl
@[simp] theorem forK2_ct : forK2 (.ct r M) chk dg sb ds = forL chk dg sb ds r M := rfl
@[simp] theorem forK2_bk : forK2 (.bk r M) chk dg sb ds = .nx r M := rfl
@[simp] theorem forK2_rt : forK2 (.rt d M) chk dg sb ds = .rt d M := rfl
@[simp] theorem forK2_ex : forK2 (.ex e r M) chk dg sb ds = .ex e r M := rfl
/-- a loop that is never left early -/
theorem forL_inv (I : Nat → Env' → Mem → Prop) : ∀ (ds : List D) (k : Nat) (r : Env') (M : Mem), (∀ i d r M, ds[i]? = some d → I (k + i) r M → chk M = true ∧ ∃ r1 M1, dg d r M = .ok r1 M1 ∧ ∃ r2 M2, (sb r1 M1 = .nx r2 M2 ∨ sb r1 M1 = .ct r2 M2) ∧ I (k + i + 1) r2 M2) →
    (∀ r M, I (k + ds.length) r M → chk M = true) → I k r M → ∃ r' M', forL chk dg sb ds r M = .nx r' M' ∧ I (k + ds.length) r' M'
  | [], k, r, M, _, hc, h => ⟨r, M, forL_nil (hc r M h), h⟩
  | d :: ds, k, r, M, st, hc, h => by
    obtain ⟨c, r1, M1, e1, r2, M2, e2, h2⟩ := st 0 d r M rfl h
    obtain ⟨r3, M3, e3, h3⟩ := forL_inv I ds (k + 1) r2 M2 (fun i d r M e hi => by
      have z := st (i + 1) d r M (by simpa using e) (by rw [show k + (i + 1) = k + 1 + i by omega]; exact hi)
      rw [show k + (i + 1) + 1 = k + 1 + i + 1 by omega] at z
      exact z) (fun r M hi => hc r M (by rw [show k + (d :: ds).length = k + 1 + ds.length by simp; omega]; exact hi)) h2
    refine ⟨r3, M3, ?_, by rw [show k + (d :: ds).length = k + 1 + ds.length by simp; omega]; exact h3⟩
    rw [forL_cons c, e1, forK1_ok]
    rcases e2 with e2 | e2 <;> rw [e2]
    · exact e3
    · exact e3
end
/-! ### comprehensions -/
def compK2 (o : Out (List D)) : Out D := o.bind fun ys M2 => .ok (.lst ys) M2
def compK (o : Out Src) (dg : DG) (t : DT) (de : DE) (vs : List Nat) (r : Env') : Out D := o.bind fun src M1 => compK2 (compL src.chk dg t de (wipeD r vs) src.items [] M1)
@[simp] theorem dComp_ev {di : DI} {dg : DG} {vs : List Nat} : dComp di dg t de vs r M = compK (di r M) dg t de vs r := rfl
@[simp] theorem compK_ok {src : Src} {dg : DG} {vs : List Nat} : compK (.ok src M) dg t de vs r = compK2 (compL src.chk dg t de (wipeD r vs) src.items [] M) := rfl
@[simp] theorem compK2_ok : compK2 (.ok ds M) = .ok (.lst ds) M := rfl
@[simp] theorem dYes_ev : dYes r M = .ok true M := rfl
@[simp] theorem wipe_nil : wipeD r [] = r := rfl
@[simp] theorem wipe_cons {v : Nat} {vs : List Nat} : wipeD r (v :: vs) = (wipeD r vs).set v none := rfl
theorem compL_map {g : D → D} {p : D → Bool} : ∀ (ds acc : List D), (∀ d ∈ ds, t (r.set i (some d)) M = .ok (p d) M ∧ (p d = true → de (r.set i (some d)) M = .ok (g d) M)) → acc.length + ds.length ≤ 100000 → compL anyM (gSlot i) t de r ds acc M = .ok (acc ++ (ds.filter p).map g) M
  | [], acc, _, _ => by simp [compL]
  | d :: ds, acc, h, hl => by
    simp only [List.length_cons] at hl
    obtain ⟨h1, h2⟩ := h d List.mem_cons_self
    have ih := fun acc => compL_map (g := g) (p := p) ds acc fun x hx => h x (List.mem_cons_of_mem _ hx)
    unfold compL
    simp only [anyM_ev, gSlot_ev, h1]
    cases q : p d with
    | false =>
      dsimp only
      rw [ih acc (by omega), List.filter_cons_of_neg (by simp [q])]
    | true =>
      dsimp only
      rw [h2 q, lineB_of (by omega : acc.length ≤ 100000)]
      dsimp only
      rw [ih _ (by simp; omega), List.filter_cons_of_pos q]
      simp
def cmpK3 (o : Out D) (chk : Mem → Bool) (dg : DG) (t : DT) (de : DE) (r0 : Env') (ds acc : List D) : Out (List D) := match o with
  | .ok y M3 => (match lineB acc.length with
    | true => compL chk dg t de r0 ds (acc ++ [y]) M3
    | false => .no)
  | _ => .no
def cmpK2 (o : Out Bool) (r1 : Env') (chk : Mem → Bool) (dg : DG) (t : DT) (de : DE) (r0 : Env') (ds acc : List D) : Out (List D) := match o with
  | .ok true M2 => cmpK3 (de r1 M2) chk dg t de r0 ds acc
  | .ok false M2 => compL chk dg t de r0 ds acc M2
  | _ => .no
def cmpK1 (o : Out Env') (chk : Mem → Bool) (dg : DG) (t : DT) (de : DE) (r0 : Env') (ds acc : List D) : Out (List D) := match o with
  | .ok r1 M1 => cmpK2 (t r1 M1) r1 chk dg t de r0 ds acc
  | _ => .no
section
variable {chk : Mem → Bool} {dg : DG} {acc : List D} {r0 : Env'}
theorem compL_cons (h : chk M = true) : compL chk dg t de r0 (d :: ds) acc M = cmpK1 (dg d r0 M) chk dg t de r0 ds acc := by
  rw [compL, h]
  dsimp only
  unfold cmpK1
  cases dg d r0 M with
  | ok r1 M1 =>
    dsimp only
    unfold cmpK2
    cases t r1 M1 with
    | ok b M2 =>
      cases b with
      | true => dsimp only; unfold cmpK3; cases de r1 M2 <;> rfl
      | false => rfl
    | _ => rfl
  | _ => rfl
@[simp] theorem compL_nilA : compL anyM dg t de r0 [] acc M = .ok acc M := rfl
@[simp] theorem compL_consA : compL anyM dg t de r0 (d :: ds) acc M = cmpK1 (dg d r0 M) anyM dg t de r0 ds acc := compL_cons rfl
@[simp] theorem cmpK1_ok : cmpK1 (.ok r M) chk dg t de r0 ds acc = cmpK2 (t r M) r chk dg t de r0 ds acc := rfl
@[simp] theorem cmpK2_t : cmpK2 (.ok true M) r chk dg t de r0 ds acc = cmpK3 (de r M) chk dg t de r0 ds acc := rfl
@[simp] theorem cmpK2_f : cmpK2 (.ok false M) r chk dg t de r0 ds acc = compL chk dg t de r0 ds acc M := rfl
@[simp] theorem cmpK3_ok (h : acc.length ≤ 100000) : cmpK3 (.ok x M) chk dg t de r0 ds acc = compL chk dg t de r0 ds (acc ++ [x]) M := by
  unfold cmpK3
  dsimp only
  rw [lineB_of h]
end
/-! ### sources -/
def itR1K (o : Out D) : Out Src := o.bind fun d M1 => match d with
  | .int j => (match small62 j with
    | true => .ok ⟨irng 0 j.toNat, anyM⟩ M1
    | false => .no)
  | _ => .no
def itRR1K (o : Out D) : Out Src := o.bind fun d M1 => match d with
  | .int j => (match small62 j with
    | true => .ok ⟨(irng 0 j.toNat).reverse, anyM⟩ M1
    | false => .no)
  | _ => .no
def itSK (o : Out D) : Out Src := o.bind fun d M1 => match d with
  | .str s => .ok ⟨signs s, anyM⟩ M1
  | _ => .no
theorem small62_of {j : Int} (h0 : -4611686018427387904 ≤ j) (h1 : j < 4611686018427387904) : small62 j = true := by
  unfold small62
  simp only [Bool.and_eq_true, decide_eq_true_eq]
  exact ⟨by simpa using h0, by simpa using h1⟩
@[simp] theorem dItR1_ev : dItR1 da r M = itR1K (da r M) := rfl
@[simp] theorem itR1K_ok {j : Int} (h0 : -4611686018427387904 ≤ j) (h1 : j < 4611686018427387904) : itR1K (.ok (.int j) M) = .ok ⟨irng 0 j.toNat, anyM⟩ M := by
  unfold itR1K
  dsimp only [Out.bind]
  rw [small62_of h0 h1]
@[simp] theorem itR1K_ex : itR1K (.ex e M) = .ex e M := rfl
@[simp] theorem dItRR1_ev : dItRR1 da r M = itRR1K (da r M) := rfl
@[simp] theorem itRR1K_ok {j : Int} (h0 : -4611686018427387904 ≤ j) (h1 : j < 4611686018427387904) : itRR1K (.ok (.int j) M) = .ok ⟨(irng 0 j.toNat).reverse, anyM⟩ M := by
  unfold itRR1K
  dsimp only [Out.bind]
  rw [small62_of h0 h1]
@[simp] theorem dItS_ev : dItS da r M = itSK (da r M) := rfl
end
end LF
set_option Elab.async false
set_option linter.all false
set_option maxRecDepth 100000
set_option maxHeartbeats 4000000
/-! LF14: what the primitives come to: rules for simp. -/
namespace LF
open PySem PySem.Spec PyProof.Rows L2
section
variable {r : Env'} {M : Mem} {i j : Int} {s t : Str} {x y d : D} {ds : List D} {b c : Bool} {e : Exn}
@[simp] theorem fAdd_int : fAdd (.int i) (.int j) M = .ok (.int (i + j)) M := rfl
theorem fAdd_str (h : s.length + t.length ≤ 100000) : fAdd (.str s) (.str t) M = .ok (.str (s ++ t)) M := by
  unfold fAdd
  dsimp only
  rw [lineB_of h]
@[simp] theorem fSub_int : fSub (.int i) (.int j) M = .ok (.int (i - j)) M := rfl
@[simp] theorem fLt_int : fLt (.int i) (.int j) M = .ok (.bl (decide (i < j))) M := rfl
@[simp] theorem fLe_int : fLe (.int i) (.int j) M = .ok (.bl (decide (i ≤ j))) M := rfl
@[simp] theorem fGt_int : fGt (.int i) (.int j) M = .ok (.bl (decide (j < i))) M := rfl
@[simp] theorem fGe_int : fGe (.int i) (.int j) M = .ok (.bl (decide (j ≤ i))) M := rfl
@[simp] theorem fBitAnd_int : fBitAnd (.int i) (.int j) M = .ok (.int (Builtin.bitAnd i j)) M := rfl
@[simp] theorem fBitOr_int : fBitOr (.int i) (.int j) M = .ok (.int (Builtin.bitOr i j)) M := rfl
@[simp] theorem fNeg_int : fNeg (.int i) M = .ok (.int (-i)) M := rfl
theorem fI2_p {p : Int → Int → Bool} {g : Int → Int → D} (h : p i j = true) : fI2 p g (.int i) (.int j) M = .ok (g i j) M := by
  unfold fI2
  dsimp only
  rw [h]
@[simp] theorem fFdiv_int (h0 : 0 < j) (h1 : j < 1073741824) : fFdiv (.int i) (.int j) M = .ok (.int (i / j)) M := fI2_p (by simp [h0, h1])
@[simp] theorem fMod_int (h0 : 0 < j) : fMod (.int i) (.int j) M = .ok (.int (i % j)) M := fI2_p (by simp [h0])
@[simp] theorem fShr_int (h0 : 0 ≤ j) : fShr (.int i) (.int j) M = .ok (.int (i / 2 ^ j.toNat)) M := fI2_p (by simp [h0])
theorem small64_of {i : Int} (h0 : -18446744073709551616 < i) (h1 : i < 18446744073709551616) : small64 i = true := by
  unfold small64
  simp only [Bool.and_eq_true, decide_eq_true_eq]
  exact ⟨by simpa using h0, by simpa using h1⟩
theorem fShl_int (h0 : 0 ≤ j) (h1 : j ≤ 1000000) (h2 : -18446744073709551616 < i) (h3 : i < 18446744073709551616) : fShl (.int i) (.int j) M = .ok (.int (i * 2 ^ j.toNat)) M := fI2_p (by simp [h0, h1, small64_of h2 h3])
theorem fMulX_r (h2 : -18446744073709551616 < j) (h3 : j < 18446744073709551616) : fMulX (.int i) (.int j) M = .ok (.int (i * j)) M := by
  unfold fMulX
  dsimp only
  rw [small64_of h2 h3, Bool.or_true]
theorem fMulX_l (h2 : -18446744073709551616 < i) (h3 : i < 18446744073709551616) : fMulX (.int i) (.int j) M = .ok (.int (i * j)) M := by
  unfold fMulX
  dsimp only
  rw [small64_of h2 h3, Bool.true_or]
@[simp] theorem fMulX_str : fMulX (.str s) (.int j) M = if j = 0 then .ok (.str Str.empty) M else if j = 1 then .ok (.str s) M else .no := rfl
/-! ### ==, != -/
@[simp] theorem lay_non {n : Nat} : D.lay n .non = true := by cases n <;> rfl
@[simp] theorem lay_bl {n : Nat} : D.lay n (.bl b) = true := by cases n <;> rfl
@[simp] theorem lay_int {n : Nat} : D.lay n (.int i) = true := by cases n <;> rfl
@[simp] theorem lay_str {n : Nat} : D.lay n (.str s) = PyData.strOk s := by cases n <;> rfl
@[simp] theorem lay_tup {n : Nat} : D.lay (n + 1) (.tup ds) = D.layL n ds := rfl
@[simp] theorem lay_lst {n : Nat} : D.lay (n + 1) (.lst ds) = D.layL n ds := rfl
@[simp] theorem layL_nil {n : Nat} : D.layL n [] = true := by cases n <;> rfl
@[simp] theorem layL_cons {n : Nat} : D.layL n (d :: ds) = (D.lay n d && D.layL n ds) := by cases n <;> rfl
theorem fEq_of (h1 : D.lay 64 x = true) (h2 : D.lay 64 y = true) : fEq x y M = .ok (.bl (D.eqb x y)) M := by
  unfold fEq
  rw [h1, h2]
  rfl
theorem fNe_of (h1 : D.lay 64 x = true) (h2 : D.lay 64 y = true) : fNe x y M = .ok (.bl (!D.eqb x y)) M := by
  unfold fNe
  rw [h1, h2]
  rfl
@[simp] theorem fEq_int : fEq (.int i) (.int j) M = .ok (.bl (decide (i = j))) M := rfl
@[simp] theorem fNe_int : fNe (.int i) (.int j) M = .ok (.bl (!decide (i = j))) M := rfl
theorem fEq_str (h1 : PyData.strOk s = true) (h2 : PyData.strOk t = true) : fEq (.str s) (.str t) M = .ok (.bl (s == t)) M := fEq_of (by simp [h1]) (by simp [h2])
theorem fNe_str (h1 : PyData.strOk s = true) (h2 : PyData.strOk t = true) : fNe (.str s) (.str t) M = .ok (.bl (!(s == t))) M := fNe_of (by simp [h1]) (by simp [h2])
mutual
theorem eqb_refl : ∀ (n : Nat) (d : D), D.lay n d = true → D.eqb d d = true
  | _, .non, _ => rfl
  | _, .bl b, _ => by simp [D.eqb]
  | _, .int i, _ => by simp [D.eqb]
  | _, .str s, _ => by simp [D.eqb]
  | 0, .tup _, h => by simp [D.lay] at h
  | 0, .lst _, h => by simp [D.lay] at h
  | n + 1, .tup ds, h => by
    simp only [D.eqb]
    exact eqbL_refl n ds (by simpa using h)
  | n + 1, .lst ds, h => by
    simp only [D.eqb]
    exact eqbL_refl n ds (by simpa using h)
  | n, .dic _ _, h => by cases n <;> simp [D.lay] at h
  | n, .obj _, h => by cases n <;> simp [D.lay] at h
  | n, .exc _ _ _, h => by cases n <;> simp [D.lay] at h
  | n, .ins _ _ _, h => by cases n <;> simp [D.lay] at h
theorem eqbL_refl : ∀ (n : Nat) (ds : List D), D.layL n ds = true → D.eqbL ds ds = true
  | _, [], _ => rfl
  | n, d :: ds, h => by
    simp only [layL_cons, Bool.and_eq_true] at h
    simp only [D.eqbL, Bool.and_eq_true]
    exact ⟨eqb_refl n d h.1, eqbL_refl n ds h.2⟩
end
/-- the same thing -/
theorem fEq_same (h : D.lay 64 x = true) : fEq x x M = .ok (.bl true) M := by rw [fEq_of h h, eqb_refl 64 x h]
theorem fNe_same (h : D.lay 64 x = true) : fNe x x M = .ok (.bl false) M := by rw [fNe_of h h, eqb_refl 64 x h]; rfl
/-! ### places, lengths -/
theorem fIx_str {k : Nat} (h1 : s.length ≤ 100000) (h2 : atI s.cps.toList i = some k) : fIx (.str s) (.int i) M = .ok (.str ⟨#[k]⟩) M := by
  unfold fIx
  dsimp only
  rw [lineB_of h1, h2]
theorem fIx_lst (h : atI ds i = some d) : fIx (.lst ds) (.int i) M = .ok d M := by
  unfold fIx
  simp only [seqOf]
  rw [h]
  rfl
theorem fIx_tup (h : atI ds i = some d) : fIx (.tup ds) (.int i) M = .ok d M := by
  unfold fIx
  simp only [seqOf]
  rw [h]
  rfl
@[simp] theorem fIx_tup0 : fIx (.tup (d :: ds)) (.int 0) M = .ok d M := fIx_tup (L2.atI_nat (j := 0) rfl)
@[simp] theorem fIx_tup1 : fIx (.tup (x :: d :: ds)) (.int 1) M = .ok d M := fIx_tup (L2.atI_nat (j := 1) rfl)
@[simp] theorem fLen_lst : fLen [.lst ds] M = .ok (.int ds.length) M := rfl
@[simp] theorem fLen_tup : fLen [.tup ds] M = .ok (.int ds.length) M := rfl
theorem fLen_str (h : s.length ≤ 100000) : fLen [.str s] M = .ok (.int s.length) M := by
  unfold fLen
  dsimp only
  rw [lineB_of h]
@[simp] theorem fMax2_int : fMax2 [.int i, .int j] M = .ok (.int (if j > i then j else i)) M := rfl
@[simp] theorem fMin2_int : fMin2 [.int i, .int j] M = .ok (.int (if j < i then j else i)) M := rfl
@[simp] theorem fIntOf_int : fIntOf [.int i] M = .ok (.int i) M := rfl
@[simp] theorem fIntOf_bl : fIntOf [.bl b] M = .ok (.int (if b then 1 else 0)) M := rfl
theorem fInS_one {k : Nat} {neg : Bool} : fInS neg (.str ⟨#[k]⟩) (.str t) M = .ok (.bl (if neg then !decide (k ∈ t.cps.toList) else decide (k ∈ t.cps.toList))) M := rfl
/-! ### methods, isinstance -/
def m1K2 (f : Str → F1) (s : Str) (o : Out D) : Out D := o.bind fun y M2 => f s y M2
def m1K (f : Str → F1) (o : Out D) (db : DE) (r : Env') : Out D := o.bind fun x M1 => match x with
  | .str s => m1K2 f s (db r M1)
  | _ => .no
@[simp] theorem dM1_ev {f : Str → F1} {da db : DE} : dM1 f da db r M = m1K f (da r M) db r := rfl
@[simp] theorem m1K_ok {f : Str → F1} {db : DE} : m1K f (.ok (.str s) M) db r = m1K2 f s (db r M) := rfl
@[simp] theorem m1K2_ok {f : Str → F1} : m1K2 f s (.ok y M) = f s y M := rfl
@[simp] theorem m1K2_ex {f : Str → F1} : m1K2 f s (.ex e M) = .ex e M := rfl
@[simp] theorem mInt_str {g : Str → Str → Int} : mInt g s (.str t) M = .ok (.int (g s t)) M := rfl
theorem mJoin_lst {ss : List Str} (h : strsOf ds = some ss) (hl : (ss.map (·.length)).sum + ss.length * s.length ≤ 100000) : mJoin s (.lst ds) M = .ok (.str (Txt.join s ss)) M := by
  unfold mJoin
  simp only [seqOf, Option.bind_some, h]
  rw [lineB_of hl]
def isBK (p : String → Bool) (o : Out D) : Out D := o.bind fun x M1 => match tagOf M1 x with
  | some t => .ok (.bl (p t)) M1
  | none => .no
@[simp] theorem dIsB_ev {p : String → Bool} {da : DE} : dIsB p da r M = isBK p (da r M) := rfl
@[simp] theorem isBK_non {p : String → Bool} : isBK p (.ok .non M) = .ok (.bl (p "NoneType")) M := rfl
@[simp] theorem isBK_bl {p : String → Bool} : isBK p (.ok (.bl b) M) = .ok (.bl (p "bool")) M := rfl
@[simp] theorem isBK_int {p : String → Bool} : isBK p (.ok (.int i) M) = .ok (.bl (p "int")) M := rfl
@[simp] theorem isBK_str {p : String → Bool} : isBK p (.ok (.str s) M) = .ok (.bl (p "str")) M := rfl
@[simp] theorem isBK_tup {p : String → Bool} : isBK p (.ok (.tup ds) M) = .ok (.bl (p "tuple")) M := rfl
@[simp] theorem isBK_lst {p : String → Bool} : isBK p (.ok (.lst ds) M) = .ok (.bl (p "list")) M := rfl
@[simp] theorem isBK_dic {p : String → Bool} {ks : List Key} : isBK p (.ok (.dic ks ds) M) = .ok (.bl (p "dict")) M := rfl
def isK (isa : CT → Option Bool) (o : Out D) : Out D := o.bind fun x M1 => match (ctOf M1 x).bind isa with
  | some b => .ok (.bl b) M1
  | none => .no
@[simp] theorem dIs_ev {isa : CT → Option Bool} {da : DE} : dIs isa da r M = isK isa (da r M) := rfl
theorem isK_exc {isa : CT → Option Bool} {c : Str} {ns : List Str} {q : Bool} (h : isa (.x c) = some q) : isK isa (.ok (.exc c ns ds) M) = .ok (.bl q) M := by
  unfold isK
  dsimp only [Out.bind, ctOf, Option.bind]
  rw [h]
/-! ### dicts -/
theorem fDGet_of {n : Nat} {k : Key} {kvs : List (Key × D)} (hk : keyOf y = some k) (hM : M[n]? = some (.dic kvs)) (h : lookD kvs k = some d) : fDGet (.obj n) y M = .ok d M := by
  unfold fDGet
  rw [hk]
  dsimp only
  rw [hM]
  dsimp only
  rw [h]
  rfl
def dputK3 (o v : D) (k : Out D) (r : Env') : SO := k.bindS r fun k M3 => putAt o k v r M3
def dputK2 (v : D) (o : Out D) (dk : DE) (r : Env') : SO := o.bindS r fun o M2 => dputK3 o v (dk r M2) r
def dputK1 (v : Out D) (do_ dk : DE) (r : Env') : SO := v.bindS r fun v M1 => dputK2 v (do_ r M1) dk r
@[simp] theorem dDPut_ev {do_ dk dv : DE} : dDPut do_ dk dv r M = dputK1 (dv r M) do_ dk r := rfl
@[simp] theorem dputK1_ok {do_ dk : DE} : dputK1 (.ok d M) do_ dk r = dputK2 d (do_ r M) dk r := rfl
@[simp] theorem dputK2_ok {dk : DE} : dputK2 d (.ok x M) dk r = dputK3 x d (dk r M) r := rfl
@[simp] theorem dputK3_ok : dputK3 x d (.ok y M) r = putAt x y d r M := rfl
theorem putAt_of {n : Nat} {k : Key} {kvs : List (Key × D)} (hk : keyOf y = some k) (hM : M[n]? = some (.dic kvs)) (hl : kvs.length ≤ 100000) : putAt (.obj n) y d r M = .nx r (M.set n (.dic (putD kvs k d))) := by
  unfold putAt
  rw [hk]
  dsimp only
  rw [hM]
  dsimp only
  rw [lineB_of hl]
@[simp] theorem dNewDic_ev : dNewDic r M = .ok (.obj M.length) (M ++ [.dic []]) := rfl
@[simp] theorem dDisp_ev {ps : List (Key × DE)} : dDisp ps r M = ((dPairs ps r M).bind fun kvs M1 => match Nat.ble kvs.length 15 with
  | true => .ok (.obj M1.length) (M1 ++ [.dic (mergeD [] kvs)])
  | false => .no) := rfl
/-! ### a def, a try -/
def runK : SO → Out D
  | .nx _ M1 => .ok .non M1
  | .rt d M1 => .ok d M1
  | .ex e _ M1 => .ex e M1
  | _ => .no
theorem runB_ev {n : Nat} {b : DS} : runB n b ds M = runK (b (ds.map some ++ List.replicate (n - ds.length) none) M) := by
  unfold runB runK
  cases b (ds.map some ++ List.replicate (n - ds.length) none) M <;> rfl
@[simp] theorem runK_nx : runK (.nx r M) = .ok .non M := rfl
@[simp] theorem runK_rt : runK (.rt d M) = .ok d M := rfl
@[simp] theorem runK_ex : runK (.ex e r M) = .ex e M := rfl
def tryK (isa : Str → Option Bool) (i : Nat) (o : SO) (hand : DS) : SO := match o with
  | .ex e r1 M1 => (match isa e.c with
    | some true => offS i (hand (r1.set i (some (.exc e.c e.ns e.ds))) M1)
    | some false => .ex e r1 M1
    | none => .no)
  | o => o
@[simp] theorem dTryAs_ev {isa : Str → Option Bool} {i : Nat} {body hand : DS} : dTryAs isa i body hand r M = tryK isa i (body r M) hand := rfl
@[simp] theorem tryK_nx {isa : Str → Option Bool} {i : Nat} {hand : DS} : tryK isa i (.nx r M) hand = .nx r M := rfl
@[simp] theorem tryK_rt {isa : Str → Option Bool} {i : Nat} {hand : DS} : tryK isa i (.rt d M) hand = .rt d M := rfl
theorem tryK_yes {isa : Str → Option Bool} {i : Nat} {hand : DS} (h : isa e.c = some true) : tryK isa i (.ex e r M) hand = offS i (hand (r.set i (some (.exc e.c e.ns e.ds))) M) := by
  unfold tryK
  dsimp only
  rw [h]
@[simp] theorem offS_rt {i : Nat} : offS i (.rt d M) = .rt d M := rfl
@[simp] theorem offS_nx {i : Nat} : offS i (.nx r M) = .nx (r.set i none) M := rfl
end
end LF
set_option Elab.async false
set_option linter.all false
set_option maxRecDepth 100000
set_option maxHeartbeats 4000000
/-! LF15: texts as rows of signs. -/
namespace LF
open PySem PySem.Spec PyProof.Rows L2
/-- the text of these signs -/
def tx (l : List Nat) : Str := ⟨l.toArray⟩
theorem tx_tl (l : List Nat) : (tx l).cps.toList = l := rfl
theorem tx_eta (s : Str) : s = tx s.cps.toList := TL.ext_tl rfl
@[simp] theorem tx_len (l : List Nat) : (tx l).length = l.length := TL.len_tl _
@[simp] theorem tx_app (a b : List Nat) : tx a ++ tx b = tx (a ++ b) := TL.ext_tl (TL.tl_append _ _)
theorem tx_inj {a b : List Nat} (h : tx a = tx b) : a = b := by
  have z := congrArg (fun s : Str => s.cps.toList) h
  exact z
theorem tx_beq (a b : List Nat) : (tx a == tx b) = (a == b) := by
  rw [Bool.eq_iff_iff, beq_iff_eq, beq_iff_eq]
  exact ⟨tx_inj, fun h => by rw [h]⟩
theorem tx_empty : (Str.ofString "") = tx [] := rfl
theorem tx_lit (s : String) : Str.ofString s = tx (s.toList.map Char.toNat) := TL.ext_tl (TL.tl_ofString s)
theorem signs_tx (l : List Nat) : signs (tx l) = l.map fun c => .str (tx [c]) := rfl
/-- a sign of Python's -/
def okN (c : Nat) : Bool := decide (c < 1114112)
theorem strOk_tx {l : List Nat} : PyData.strOk (tx l) = l.all fun c => decide (c < 1114112) := by
  unfold PyData.strOk tx
  simp
theorem strs_tx (l : List Nat) : strsOf (l.map fun c => .str (tx [c])) = some (l.map fun c => tx [c]) := by
  induction l with
  | nil => rfl
  | cons c l ih => simp only [List.map_cons, strsOf, ih, Option.map_some]
theorem join_tx (l : List Nat) : Txt.join (tx []) (l.map fun c => tx [c]) = tx l := by
  refine TL.ext_tl ?_
  rw [TL.join_eq, TL.tl_join]
  induction l with
  | nil => rfl
  | cons c l ih =>
    cases l with
    | nil => rfl
    | cons d l =>
      simp only [List.map_cons] at ih ⊢
      rw [TL.joinL, ih]
      rfl
theorem mJoin_tx {l : List Nat} {M : Mem} (h : l.length ≤ 100000) : mJoin (tx []) (.lst (l.map fun c => .str (tx [c]))) M = .ok (.str (tx l)) M := by
  rw [mJoin_lst (strs_tx l) ?_, join_tx]
  have e : ((l.map fun c => tx [c]).map (·.length)) = l.map fun _ => 1 := by
    rw [List.map_map]
    exact List.map_congr_left fun c _ => tx_len [c]
  rw [e, tx_len]
  have e2 : (l.map fun _ => 1).sum = l.length := by
    clear h e
    induction l with
    | nil => rfl
    | cons c l ih => simp only [List.map_cons, List.sum_cons, List.length_cons, ih]; omega
  rw [e2]
  simpa using h
theorem fIx_tx {l : List Nat} {i : Int} {c : Nat} {M : Mem} (h : l.length ≤ 100000) (e : atI l i = some c) : fIx (.str (tx l)) (.int i) M = .ok (.str (tx [c])) M := fIx_str (by simpa using h) e
theorem fLen_tx {l : List Nat} {M : Mem} (h : l.length ≤ 100000) : fLen [.str (tx l)] M = .ok (.int l.length) M := by
  rw [fLen_str (by simpa using h), tx_len]
theorem fAdd_tx {a b : List Nat} {M : Mem} (h : a.length + b.length ≤ 100000) : fAdd (.str (tx a)) (.str (tx b)) M = .ok (.str (tx (a ++ b))) M := by
  rw [fAdd_str (by simpa using h), tx_app]
theorem fInS_tx {c : Nat} {l : List Nat} {neg : Bool} {M : Mem} : fInS neg (.str (tx [c])) (.str (tx l)) M = .ok (.bl (if neg then !decide (c ∈ l) else decide (c ∈ l))) M := rfl
/-! ### find, rfind of one sign -/
theorem at_one {l : List Nat} {c i : Nat} : StrLaws.At (tx l) (tx [c]) (tx l).length i ↔ l[i]? = some c := StrLaws.subAt_one (tx l) c i
theorem find_tx (l : List Nat) (c : Nat) : Txt.find (tx l) (tx [c]) = if c ∈ l then (l.idxOf c : Int) else -1 := by
  rcases find_whole (tx l) (tx [c]) with ⟨e, h⟩ | ⟨i, e, h1, h2⟩
  · rw [e, if_neg]
    intro hm
    obtain ⟨i, hi, ei⟩ := List.mem_iff_getElem.mp hm
    exact h i (at_one.mpr (by rw [List.getElem?_eq_getElem hi, ei]))
  · have k1 := at_one.mp h1
    have hm : c ∈ l := List.mem_of_getElem? k1
    rw [e, if_pos hm]
    have hi := (List.getElem?_eq_some_iff.mp k1).1
    have hl := List.idxOf_lt_length_of_mem hm
    have q1 : ¬ l.idxOf c < i := fun z => h2 _ z (at_one.mpr (by rw [List.getElem?_eq_getElem hl, List.getElem_idxOf]))
    have q2 : ¬ i < l.idxOf c := fun z => by
      have := List.not_of_lt_findIdx (p := (· == c)) (xs := l) z
      rw [(List.getElem?_eq_some_iff.mp k1).2] at this
      simp at this
    omega
theorem find_sg {s : Str} {c : Nat} : Txt.find s ⟨#[c]⟩ = if c ∈ s.cps.toList then (s.cps.toList.idxOf c : Int) else -1 := by
  have z := find_tx s.cps.toList c
  rw [← tx_eta] at z
  exact z
/-! ### ints -/
theorem or_six {a b : Int} (h0 : 0 ≤ a) (h1 : 0 ≤ b) (h2 : b < 64) : Builtin.bitOr (a * 64) b = a * 64 + b := or_low (k := 6) h0 h1 h2
theorem irng_one (lo : Int) (n : Nat) : irng lo (n + 1) = .int lo :: irng (lo + 1) n := by
  unfold irng
  rw [List.range_succ_eq_map, List.map_cons, List.map_map]
  refine congr (congrArg _ (by simp)) (List.map_congr_left fun i _ => ?_)
  simp only [Function.comp]
  congr 1
  omega
end LF
set_option Elab.async false
set_option linter.all false
set_option maxRecDepth 100000
set_option maxHeartbeats 4000000
/-! LF16: the law's end. -/
namespace LF
open PySem PySem.Spec PyProof.Rows L2
theorem repL_ints {K : Frg} {φ : Wd} {H : Hp} : ∀ ns : List Int, RepL K φ H (ns.map D.int) (ns.map V.int)
  | [] => .nil
  | n :: ns => .cons rep_int (repL_ints ns)
theorem law_sp {K : Frg} {H : Hp} {a : Addr} {ns : List Int} {F : FN} (hS : SqL K H a (ns.map V.int)) (hF : ∃ M, F [.lst (ns.map .int)] [] = .ok (.bl true) M) : SpD K 1 F [.ref a] H (fun v _ => v = .bl true) (fun _ _ _ => False) := by
  obtain ⟨M, e⟩ := hF
  have st : Sto K ⟨[], []⟩ [] H := ⟨rfl, List.nodup_nil, fun b hb => absurd hb (by simp), fun i b mo h => by simp at h⟩
  have rp : Rep K ⟨[], []⟩ H (.lst (ns.map .int)) (.ref a) := by
    unfold Rep
    refine ⟨a, _, rfl, ?_, repL_ints ns⟩
    rcases hS with h | h
    · exact .inl ⟨⟨by simp, by simp⟩, h⟩
    · exact .inr h
  refine ⟨_, _, [.lst (ns.map .int)], rfl, st, RepL.cons rp .nil, ?_⟩
  rw [e]
  exact fun v φ' H' g S r => rep_bl_inv r
theorem law_walk {l : PySem.W.OpenLaw} {n k : Nat} {q : Program} {loose : List Str} {XP : (Str → Option Value) → Heap → Prop} {YP : World → Heap → Prop} {d : DefRec} {x : Str} {F : FN}
    (hm : l.most = some n) (h63 : n ≤ sizeLine) (hd : d.params.defaults = []) (hr : Room k callerA)
    (B : ∀ (w : World) (mg : Str → Option Value) (f : Addr) (h : Heap), YP w h → h.Ns mainGlobals mg → mg d.name = some (.ref f) → ∃ (K : Frg) (fd : FuncData), K.In h ∧ (∀ (s : Shared) (v : Value), BindsTo s fd ⟨[v], []⟩ [(x, v)]) ∧
      ∀ base : Heap, K.In base → base.Ns mainGlobals mg → FnOk l.prog w K mg base (L2.CX l.prog w) k f fd [x] (SpD K 1 F))
    (hF : ∀ ns : List Int, ns.length ≤ n → ∃ M, F [.lst (ns.map .int)] [] = .ok (.bl true) M) : PySem.W.WalkO q loose XP YP l.row.toRowW d [] (fun f vs => PySem.call f vs) := by
  refine Att.attach_call hm hd fun w s0 s1 mg mb f o pm cd doc a vs ns G Y o1 o2 o3 hg ob ii le bt => ?_
  obtain ⟨K, fd, KX, bi, ok⟩ := B w mg f _ Y G.T.g hg
  refine law_call KX G.T.g G.T.b G.T.builtins G.T.nolimit bt ob ii (Nat.le_trans le h63) hr ok bi (fun H _ hS => law_sp hS (hF ns le)) fun H e s' z => ?_
  obtain ⟨_, _, _, _, _, _, _, _, _, _, _, _, z⟩ := z
  exact z
end LF
set_option Elab.async false
set_option linter.all false
set_option maxRecDepth 100000
set_option maxHeartbeats 4000000
/-! LF17: enumerate of a text, all of a row, order of texts, ord, parts of texts and rows, index, x op= e. -/
namespace LF
open PySem PySem.Spec PyProof.Rows L2
/-! ### enumerate(text) -/
/-- a text's signs, each with its place in a new pair -/
def ItES (z : Str) : It := ⟨fun i _ => i < z.cps.size, fun i H v H' => ∃ T c, v = .ref T ∧ H T = none ∧ H' = upd H T (.tup [.int (i : Nat), .str ⟨#[c]⟩]) ∧ z.cps[i]? = some c, fun i _ => i = z.cps.size⟩
theorem draws_str {P : Program} {w : World} {A : Around} (hh : A.handled = none) (it : Addr) (z : Str) (t : Tok) : Draws P w A it [it] z.cps.size (fun i v => ∃ c u, z.cps[i]? = some c ∧ v = .str ⟨#[c]⟩ u) (fun i h => h.IsStrIter it (strIterType z) z t i) := by
  unfold strIterType
  split
  · exact Draws.strAscii hh it z t
  · exact Draws.strWide hh it z t
theorem turn_enumS {P : Program} {w : World} {K : Frg} {elts : List Expr} {kk : Nat} {tpos : Pos} (z : Str) (t : Tok) (e it : Addr) :
    Turn P w K (.Tuple elts kk tpos) (ItES z) [e, it] e (fun i h => (∃ old, IsEnum h e it ((i : Nat) : Int) old) ∧ h.IsStrIter it (strIterType z) z t i ∧ e ≠ it) where
  mem := by simp
  obj := fun i h st b hb => by
    obtain ⟨⟨old, he⟩, ⟨o, ho, hc, hd⟩, _⟩ := st
    have q : b = e ∨ b = it := by simpa using hb
    rcases q with rfl | rfl
    · exact ⟨_, he, fun v q => nomatch q⟩
    · exact ⟨o, ho, fun v q => by rw [hd] at q; cases q⟩
  keep := fun i h h' ⟨⟨old, he⟩, ⟨o, ho, hr⟩, ne⟩ k => ⟨⟨old, k e (by simp) _ he⟩, ⟨o, k it (by simp) o ho, hr⟩, ne⟩
  item := by
    intro X hP hw hK hc i pins s σ H E I hf ⟨⟨old, he⟩, hit, hne⟩ hg
    subst hP hw hK
    have el : e < s.heap.objs.size := Heap.lt_size he
    have il : it < s.heap.objs.size := let ⟨_, q, _⟩ := hit; Heap.lt_size q
    have D := draws_str (P := X.prog) (w := X.w) (A := X.A.in1) (I.ok.hd hc) it z t
    refine wpAny_pyNext_enum_itemD D he hit hg hne (by simpa using hne) fun x h1 tk px ho hit1 hT hz hk => ?_
    obtain ⟨c, u, hc2, rfl⟩ := px
    refine ⟨_, rfl, wpAny_letOwnedTupleGo_enum (s := { s with heap := h1, toks := tk + 1 }) ho fun h2 he2 sb => ?_⟩
    have hT2 : h2.get? s.heap.objs.size = some { cls := .type "tuple", data := .seq #[.int i tk, .str ⟨#[c]⟩ u] } := (sb.2 _ (Nat.ne_of_gt el)).trans hT
    have hn : H s.heap.objs.size = none := I.hok.fresh (Nat.le_refl _)
    have new : ObjOk X.prog X.w (upd H s.heap.objs.size (.tup [.int (i : Nat), .str ⟨#[c]⟩])) h2 s.heap.objs.size (.tup [.int (i : Nat), .str ⟨#[c]⟩]) :=
      ⟨by show 2 ≤ sizeLine; rw [sizeLine_eq]; decide, [.int i tk, .str ⟨#[c]⟩ u], .cons ⟨_, rfl⟩ (.cons ⟨_, rfl⟩ .nil), ⟨_, hT2, rfl, _, rfl⟩⟩
    have I1 : Inv X pins σ (upd H s.heap.objs.size (.tup [.int (i : Nat), .str ⟨#[c]⟩])) { s with heap := h2, toks := tk + 1 } :=
      I.turnedNew (ch := [e, it]) (fun b o hb q => (sb.2 b (fun z => hb (by simp [z]))).trans (hk b o (fun z => hb (by simp [z])) (fun z => hb (by simp [z])) q)) hf (Nat.le_refl _) new
    have hit2 : h2.IsStrIter it (strIterType z) z t (i + 1) := by
      obtain ⟨o, q1, q2⟩ := hit1
      exact ⟨o, (sb.2 it (Ne.symm hne)).trans q1, q2⟩
    have he3 : IsEnum h2 e it ((i + 1 : Nat) : Int) (.str ⟨#[c]⟩ u) := by
      rw [show ((i + 1 : Nat) : Int) = (i : Int) + 1 by omega]
      exact he2
    refine ⟨.ref s.heap.objs.size, _, I1, rfl, ⟨_, c, rfl, hn, rfl, hc2⟩, ⟨⟨_, he3⟩, hit2, hne⟩, fun b hb => ?_⟩
    have q : b = e ∨ b = it := by simpa using hb
    have bl : b < s.heap.objs.size := by rcases q with rfl | rfl <;> assumption
    rw [upd_ne (Nat.ne_of_lt bl)]
    exact (hf b hb).1
  done := by
    intro X hP hw hK hc i pins s σ H E I hf ⟨⟨old, he⟩, hit, hne⟩ hg
    subst hP hw hK
    have hg : i = z.cps.size := hg
    subst hg
    obtain ⟨f0, f1, f2, f3, f4, f5⟩ := hf it (by simp)
    have D := draws_str (P := X.prog) (w := X.w) (A := X.A.in1) (I.ok.hd hc) it z t
    exact wpAny_pyNext_enum_endD D he hit fun h1 eb => ⟨rfl, I.turned (t' := s.toks) (fun b o hb q => eb b o hb q) f0 f1 f3 f4 f5⟩
  self := fun A i s Q E ⟨⟨_, he⟩, _⟩ h => wpAny_pyIter_enum he h
def iEnumS (te : TE) : TI := fun σ H R => te σ H fun v H1 => ∃ z, v = .str z ∧ R (ItES z) H1
theorem pi_enumS {X : Cx} {e : Expr} {te : TE} {p pos tpos : Pos} {elts : List Expr} {kk : Nat} (hg : Gl X "enumerate") (hm : X.mg "enumerate" = none) (he : PE X e te) (h1 : starEach [e] X.env = (false, eval e X.env) :: starEach [] X.env := by rfl) (hs : starEach [e] X.env = [(false, eval e X.env)] := by rfl) :
    PI X (.Tuple elts kk tpos) (.Call (.Name "enumerate" p) [e] [] pos) (iEnumS te) := by
  refine ⟨fun pins s σ H R I h => ?_⟩
  have pa := pa_cons he (pa_nil (X := X)) h1
  have h2 : tCons te tNil σ H (fun vs H1 => match vs with
    | [v] => ∃ z, v = .str z ∧ R (ItES z) H1
    | _ => False) := h
  refine Call_ (ld_blt I hg hm boot_enumerate (PyProof.Rows.callWith_type1 (thn (pa.run pos pins s σ H _ I h2) fun us s1 ⟨vs, H1, I1, r1, q1⟩ => ?_) hs rfl))
  cases r1 with
  | nil => exact q1.elim
  | cons r rr =>
    cases rr with
    | cons r2 rr => exact q1.elim
    | nil =>
    obtain ⟨z, rfl, q⟩ := q1
    obtain ⟨t, rfl⟩ := r
    refine call_enumerate_str fun h' he hit hsz hk => wpAny_pyIter_enum he ?_
    have I2 : Inv X pins σ H1 { s1 with heap := h' } := I1.kept (t' := s1.toks) hk
    refine ⟨s1.heap.objs.size + 1, [s1.heap.objs.size + 1, s1.heap.objs.size], _, _, H1, rfl, I2, turn_enumS z t (s1.heap.objs.size + 1) s1.heap.objs.size, ⟨⟨.none, he⟩, hit, Nat.succ_ne_self _⟩, fun b hb => ?_, q⟩
    have hle : s1.heap.objs.size ≤ b := by
      have e' : b = s1.heap.objs.size + 1 ∨ b = s1.heap.objs.size := by simpa using hb
      rcases e' with q | q
      · rw [q]; exact Nat.le_succ _
      · rw [q]; exact Nat.le_refl _
    exact I1.fpOk hle (I1.hok.fresh hle)
/-- .. on plain data -/
def pairsS (s : Str) : List D := s.cps.toList.zipIdx.map fun ci => .tup [.int (ci.2 : Nat), .str ⟨#[ci.1]⟩]
theorem serves_enumS {K : Frg} {φ1 : Wd} {H1 : Hp} {z : Str} : Serves K φ1 H1 ⟨pairsS z, anyM⟩ (ItES z) := by
  intro i φ M H g S c
  have hl : (pairsS z).length = z.cps.size := by unfold pairsS; simp
  refine ⟨fun e => e.trans hl, fun d e => ?_⟩
  unfold pairsS at e
  rw [List.getElem?_map, List.getElem?_zipIdx] at e
  cases q : z.cps.toList[i]? with
  | none => rw [q] at e; cases e
  | some c =>
    rw [q] at e
    simp only [Option.map_some, Option.some.injEq, Nat.zero_add] at e
    subst e
    have hi : i < z.cps.size := by
      have := (List.getElem?_eq_some_iff.mp q).1
      simpa using this
    refine ⟨hi, fun x H' y => ?_⟩
    obtain ⟨T, c2, rfl, hT, rfl, hc⟩ := y
    have e2 : c2 = c := by
      rw [Array.getElem?_toList, hc] at q
      exact Option.some.inj q
    subst e2
    exact ⟨φ, Grow.new hT, S.new hT, rep_tup_new S hT (.cons rep_int (.cons rep_str .nil))⟩
def dItES (da : DE) : DI := fun r M => (da r M).bind fun d M1 => match d with
  | .str s => .ok ⟨pairsS s, anyM⟩ M1
  | _ => .no
section
variable {X : Cx} {W : WX} {pos : Pos}
theorem di_enumS {e : Expr} {de : DE} {p tpos : Pos} {elts : List Expr} {kk : Nat} (hg : Gl X "enumerate") (hm : X.mg "enumerate" = none) (he : DEx X W e de) (h1 : starEach [e] X.env = (false, eval e X.env) :: starEach [] X.env := by rfl) (hs : starEach [e] X.env = [(false, eval e X.env)] := by rfl) :
    DIx X W (.Tuple elts kk tpos) (.Call (.Name "enumerate" p) [e] [] pos) (dItES de) := by
  obtain ⟨_, p1, s1⟩ := he
  refine ⟨_, pi_enumS hg hm p1 h1 hs, fun φ M H σ r R S E h => ?_⟩
  refine s1 φ M H σ r _ S E (Okd.bind h fun d M1 v φ1 H1 _ g1 S1 rv h1 => ?_)
  cases d with
  | str s => exact ⟨s, rep_str_inv rv, h1.here S1 serves_enumS⟩
  | _ => exact h1.elim
end
/-! ### all of a row of truths -/
def blsOf : List D → Option (List Bool)
  | [] => some []
  | .bl b :: r => (blsOf r).map (b :: ·)
  | _ :: _ => none
theorem bls_rep {K : Frg} {φ : Wd} {H : Hp} : ∀ {ds : List D} {xs : List V} {bs : List Bool}, RepL K φ H ds xs → blsOf ds = some bs → xs = bs.map V.bl
  | [], xs, bs, r, h => by cases h; exact r.inv0
  | d :: ds, xs, bs, r, h => by
    cases d with
    | bl b =>
      obtain ⟨v, w, rfl, r1, r2⟩ := r.inv
      unfold blsOf at h
      cases e : blsOf ds with
      | none => rw [e] at h; cases h
      | some l =>
        rw [e] at h; cases h
        rw [List.map_cons, rep_bl_inv r1, bls_rep r2 e]
    | _ => cases h
def fAll : FN := fun ds M => match ds with
  | [.lst es] => (match blsOf es with
    | some bs => .ok (.bl (bs.all id)) M
    | none => .no)
  | _ => .no
def fAny : FN := fun ds M => match ds with
  | [.lst es] => (match blsOf es with
    | some bs => .ok (.bl (bs.any id)) M
    | none => .no)
  | _ => .no
theorem row_bls {K : Frg} {φ : Wd} {M : Mem} {H : Hp} {es : List D} {v : V} {bs : List Bool} (r : Rep K φ H (.lst es) v) (h : blsOf es = some bs) : ∃ a, v = .ref a ∧ SqL K H a (bs.map V.bl) := by
  unfold Rep at r
  obtain ⟨a, xs, rfl, h1, h2⟩ := r
  exact ⟨a, rfl, by rw [← bls_rep h2 h]; exact h1.sq⟩
theorem fAll_inv {K : Frg} {φ : Wd} {H : Hp} {Q : VK} {W : XK} {ds : List D} {M : Mem} (h : Okd K φ H (RE K) (fAll ds M) Q W) : ∃ es bs, ds = [.lst es] ∧ blsOf es = some bs ∧ Okd K φ H (RE K) (.ok (.bl (bs.all id)) M) Q W := by
  unfold fAll at h
  split at h
  · rename_i es
    split at h
    · rename_i bs q
      exact ⟨es, bs, rfl, q, h⟩
    · exact h.elim
  · exact h.elim
theorem o_all {K : Frg} : OpN K (rAll K) fAll := by
  intro φ M H xs ds Q W S r h
  obtain ⟨es, bs, rfl, q, h⟩ := fAll_inv h
  obtain ⟨v, w, rfl, r1, r2⟩ := r.inv
  rw [r2.inv0]
  obtain ⟨a, rfl, h1⟩ := row_bls (M := M) r1 q
  exact ⟨a, bs, rfl, h1, okB S h⟩
theorem fAny_inv {K : Frg} {φ : Wd} {H : Hp} {Q : VK} {W : XK} {ds : List D} {M : Mem} (h : Okd K φ H (RE K) (fAny ds M) Q W) : ∃ es bs, ds = [.lst es] ∧ blsOf es = some bs ∧ Okd K φ H (RE K) (.ok (.bl (bs.any id)) M) Q W := by
  unfold fAny at h
  split at h
  · rename_i es
    split at h
    · rename_i bs q
      exact ⟨es, bs, rfl, q, h⟩
    · exact h.elim
  · exact h.elim
theorem o_any {K : Frg} : OpN K (rAny K) fAny := by
  intro φ M H xs ds Q W S r h
  obtain ⟨es, bs, rfl, q, h⟩ := fAny_inv h
  obtain ⟨v, w, rfl, r1, r2⟩ := r.inv
  rw [r2.inv0]
  obtain ⟨a, rfl, h1⟩ := row_bls (M := M) r1 q
  exact ⟨a, bs, rfl, h1, okB S h⟩
/-! ### order of texts, ord -/
def strLt (a b : Str) : Bool := decide (a.cps.toList < b.cps.toList)
def fCmp (f : Int → Int → Bool) (g : Str → Str → Bool) : F2 := fun x y M => match x, y with
  | .int i, .int j => .ok (.bl (f i j)) M
  | .str a, .str b => .ok (.bl (g a b)) M
  | _, _ => .no
def fLtX : F2 := fCmp (fun i j => decide (i < j)) strLt
def fLeX : F2 := fCmp (fun i j => decide (i ≤ j)) fun a b => !strLt b a
def fGtX : F2 := fCmp (fun i j => decide (j < i)) fun a b => strLt b a
def fGeX : F2 := fCmp (fun i j => decide (j ≤ i)) fun a b => !strLt a b
def rCmpX (f : Int → Int → Bool) (g : Str → Str → Bool) : R2 := fun x y H Q => (∃ i j, x = .int i ∧ y = .int j ∧ Q (.bl (f i j)) H) ∨ ∃ i j, x = .str i ∧ y = .str j ∧ Q (.bl (g i j)) H
theorem o_cmpX {K : Frg} {f : Int → Int → Bool} {g : Str → Str → Bool} : Op2 K (rCmpX f g) (fCmp f g) := by
  intro φ M H x y a b Q W S ra rb h
  cases a with
  | int i =>
    cases b with
    | int j => exact .inl ⟨i, j, rep_int_inv ra, rep_int_inv rb, okB S h⟩
    | _ => exact h.elim
  | str i =>
    cases b with
    | str j => exact .inr ⟨i, j, rep_str_inv ra, rep_str_inv rb, okB S h⟩
    | _ => exact h.elim
  | _ => cases b <;> exact h.elim
theorem o_ltX {K : Frg} : Op2 K (rCmpX (fun i j => decide (i < j)) strLt) fLtX := o_cmpX
theorem o_leX {K : Frg} : Op2 K (rCmpX (fun i j => decide (i ≤ j)) fun a b => !strLt b a) fLeX := o_cmpX
theorem o_gtX {K : Frg} : Op2 K (rCmpX (fun i j => decide (j < i)) fun a b => strLt b a) fGtX := o_cmpX
theorem o_geX {K : Frg} : Op2 K (rCmpX (fun i j => decide (j ≤ i)) fun a b => !strLt a b) fGeX := o_cmpX
section
variable {X : Cx}
theorem opr_ltX : OpR X (compareOp .Lt) (rCmpX (fun i j => decide (i < j)) strLt) := OpR.or (r := fun x y H Q => ∃ i j, x = .int i ∧ y = .int j ∧ Q (.bl (decide (i < j))) H) op_lt op_lt_str
theorem opr_leX : OpR X (compareOp .LtE) (rCmpX (fun i j => decide (i ≤ j)) fun a b => !strLt b a) := OpR.or (r := fun x y H Q => ∃ i j, x = .int i ∧ y = .int j ∧ Q (.bl (decide (i ≤ j))) H) op_le op_le_str
theorem opr_gtX : OpR X (compareOp .Gt) (rCmpX (fun i j => decide (j < i)) fun a b => strLt b a) := OpR.or (r := fun x y H Q => ∃ i j, x = .int i ∧ y = .int j ∧ Q (.bl (decide (j < i))) H) op_gt op_gt_str
theorem opr_geX : OpR X (compareOp .GtE) (rCmpX (fun i j => decide (j ≤ i)) fun a b => !strLt a b) := OpR.or (r := fun x y H Q => ∃ i j, x = .int i ∧ y = .int j ∧ Q (.bl (decide (j ≤ i))) H) op_ge op_ge_str
end
def fOrd : FN := fun ds M => match ds with
  | [.str s] => (match s.cps.toList with
    | [c] => .ok (.int (c : Nat)) M
    | _ => .no)
  | _ => .no
theorem fOrd_inv {K : Frg} {φ : Wd} {H : Hp} {Q : VK} {W : XK} {ds : List D} {M : Mem} (h : Okd K φ H (RE K) (fOrd ds M) Q W) : ∃ c, ds = [.str ⟨#[c]⟩] ∧ Okd K φ H (RE K) (.ok (.int (c : Nat)) M) Q W := by
  unfold fOrd at h
  split at h
  · rename_i s
    split at h
    · rename_i c q
      exact ⟨c, by rw [str_one q], h⟩
    · exact h.elim
  · exact h.elim
theorem o_ord {K : Frg} : OpN K (fun xs H Q => ∃ x, xs = [V.str x] ∧ x.length = 1 ∧ Q (.int (x.cps.getD 0 0 : Nat)) H) fOrd := by
  intro φ M H xs ds Q W S r h
  obtain ⟨c, rfl, h⟩ := fOrd_inv h
  obtain ⟨v, w, rfl, r1, r2⟩ := r.inv
  rw [r2.inv0, rep_str_inv r1]
  exact ⟨_, rfl, rfl, okI S h⟩
/-! ### parts -/
abbrev DO := Env' → Mem → Out (Option Int)
def dNoPart : DO := fun _ M => .ok none M
def dPart (de : DE) : DO := fun r M => (de r M).bind fun d M1 => match d with
  | .int i => .ok (some i) M1
  | _ => .no
def SimO (K : Frg) (W : WX) (t : TO) (do_ : DO) : Prop := ∀ φ M H σ r (Q : Option Int → Hp → Prop), Sto K φ M H → EnvR K φ H r σ → Okd K φ H (fun _ _ a b => b = a) (do_ r M) Q (fun c d H' => W c d σ H') → t σ H Q
def DOx (X : Cx) (W : WX) (e : Option Expr) (do_ : DO) : Prop := ∃ t, PO X e t ∧ SimO X.K W t do_
def cutD (ds : List D) (lo hi : Option Int) : List D := (ds.drop (HT.sIx ds.length 0 lo)).take (HT.sIx ds.length ds.length hi - HT.sIx ds.length 0 lo)
/-- a part of a text, of a row: lists are new ones that stay -/
def fSl (x : D) (lo hi : Option Int) (M : Mem) : Out D := match x with
  | .str s => (match lineB s.length with
    | true => .ok (.str (Txt.slice s lo hi)) M
    | false => .no)
  | .tup ds => .ok (.tup (cutD ds lo hi)) M
  | .lst ds => .ok (.lst (cutD ds lo hi)) M
  | .obj n => (match M[n]? with
    | some (.lst ds) => .ok (.lst (cutD ds lo hi)) M
    | some (.ro ds) => .ok (.lst (cutD ds lo hi)) M
    | _ => .no)
  | _ => .no
def dSl (da : DE) (lo hi : DO) : DE := fun r M => (da r M).bind fun x M1 => (lo r M1).bind fun l M2 => (hi r M2).bind fun h M3 => fSl x l h M3
section
variable {X : Cx} {W : WX} {pos p2 : Pos}
theorem do_none : DOx X W none dNoPart := ⟨_, po_none, fun φ M H σ r Q S E h => h none φ H Grow.refl S rfl⟩
theorem do_some {e : Expr} {de : DE} (h : DEx X W e de) : DOx X W (some e) (dPart de) := by
  obtain ⟨_, p, s⟩ := h
  refine ⟨_, po_some p, fun φ M H σ r Q S E h => ?_⟩
  refine s φ M H σ r _ S E (Okd.bind h fun d M1 v φ1 H1 _ g1 S1 rv h1 => ?_)
  cases d with
  | int i => exact ⟨i, rep_int_inv rv, h1 (some i) φ1 H1 Grow.refl S1 rfl⟩
  | _ => exact h1.elim
def rSlAll (K : Frg) : V → Option Int → Option Int → Hp → VK → Prop := fun x lo hi H Q => (C8.rSlX x lo hi H Q ∨ rSlL K x lo hi H Q) ∨ rSlA K x lo hi H Q
theorem sl_all : SlR X (rSlAll X.K) := SlR.or (SlR.or C8.sl_txt sl_list) sl_tupA
theorem cut_rep {K : Frg} {φ : Wd} {H : Hp} {ds : List D} {xs : List V} {lo hi : Option Int} (r : RepL K φ H ds xs) : RepL K φ H (cutD ds lo hi) (cutV xs lo hi) := by
  unfold cutD cutV
  rw [r.len]
  exact RepL.take _ (RepL.drop _ r)
theorem cut_all {α : Type} {xs : List α} {lo hi : Option Int} (h : HT.sIx xs.length 0 lo = 0 ∧ HT.sIx xs.length xs.length hi = xs.length) : (xs.drop (HT.sIx xs.length 0 lo)).take (HT.sIx xs.length xs.length hi - HT.sIx xs.length 0 lo) = xs := by
  rw [h.1, h.2, List.drop_zero, Nat.sub_zero, List.take_length]
theorem fSl_sim {K : Frg} {φ : Wd} {M : Mem} {H : Hp} {x : D} {v : V} {lo hi : Option Int} {Q : VK} {E : XK} (S : Sto K φ M H) (rv : Rep K φ H x v) (h : Okd K φ H (RE K) (fSl x lo hi M) Q E) : rSlAll K v lo hi H Q := by
  have lst : ∀ (a : Addr) (xs : List V) (ds : List D), SqL K H a xs → RepL K φ H ds xs → Okd K φ H (RE K) (.ok (.lst (cutD ds lo hi)) M) Q E → v = .ref a → rSlAll K v lo hi H Q := fun a xs ds h1 h2 h3 e =>
    .inl (.inr ⟨a, xs, e, h1, fun p hp => h3 _ _ _ (Grow.new hp) (S.new hp) (rep_lst_new S hp (cut_rep h2))⟩)
  cases x with
  | str s =>
    have h : Okd K φ H (RE K) (match lineB s.length with
      | true => .ok (.str (Txt.slice s lo hi)) M
      | false => .no) Q E := h
    cases q : lineB s.length with
    | false => rw [q] at h; exact h.elim
    | true => rw [q] at h; exact .inl (.inl ⟨s, rep_str_inv rv, lineB_ok q, okT S h⟩)
  | tup ds =>
    unfold Rep at rv
    obtain ⟨a, xs, rfl, h1, h2⟩ := rv
    refine .inr ⟨a, xs, rfl, h1.sq, fun hw => ?_, fun hn p hp => h _ _ _ (Grow.new hp) (S.new hp) (rep_tup_new S hp (cut_rep h2))⟩
    rw [h2.len] at hw
    have e : cutD ds lo hi = ds := cut_all hw
    have h : Okd K φ H (RE K) (.ok (.tup (cutD ds lo hi)) M) Q E := h
    rw [e] at h
    refine h.here S ?_
    unfold RE Rep
    exact ⟨a, xs, rfl, h1, h2⟩
  | lst ds =>
    unfold Rep at rv
    obtain ⟨a, xs, rfl, h1, h2⟩ := rv
    exact lst a xs ds h1.sq h2 h rfl
  | obj n =>
    unfold Rep at rv
    obtain ⟨a, ha, rfl⟩ := rv
    unfold fSl at h
    dsimp only at h
    split at h
    · rename_i ds q
      obtain ⟨xs, h1, h2⟩ := S.ob n a _ ha q
      exact lst a xs ds (.inl (.inl h1)) h2 h rfl
    · rename_i ds q
      obtain ⟨xs, h1, h2⟩ := S.ob n a _ ha q
      exact lst a xs ds (.inl h1) h2 h rfl
    · exact h.elim
  | _ => exact h.elim
theorem de_sl {e : Expr} {lo hi : Option Expr} {da : DE} {dl dh : DO} (he : DEx X W e da) (hl : DOx X W lo dl) (hh : DOx X W hi dh) : DEx X W (.Subscript e (.Slice lo hi none p2) pos) (dSl da dl dh) := by
  obtain ⟨_, p1, s1⟩ := he
  obtain ⟨_, p2, s2⟩ := hl
  obtain ⟨_, p3, s3⟩ := hh
  refine ⟨_, pe_slice sl_all p1 p2 p3, fun φ M H σ r Q S E h => ?_⟩
  refine s1 φ M H σ r _ S E (Okd.bind h fun x M1 v φ1 H1 _ g1 S1 rv h1 => ?_)
  refine s2 φ1 M1 H1 σ r _ S1 (E.grow g1) (Okd.bind h1 fun l M2 l' φ2 H2 _ g2 S2 rl h2 => ?_)
  refine s3 φ2 M2 H2 σ r _ S2 ((E.grow g1).grow g2) (Okd.bind h2 fun u M3 u' φ3 H3 _ g3 S3 ru h3 => ?_)
  have rl : l' = l := rl
  have ru : u' = u := ru
  subst rl ru
  exact fSl_sim S3 (Rep.grow (g2.trans g3) _ _ rv) h3
end
/-! ### text.index(sign) -/
def mIndex : Str → F1 := fun s y M => match y with
  | .str t => (match Builtin.Str.occurrences s t 0 s.length 1 with
    | i :: _ => .ok (.int (i : Nat)) M
    | [] => .no)
  | _ => .no
end LF
set_option Elab.async false
set_option linter.all false
set_option maxRecDepth 100000
set_option maxHeartbeats 4000000
/-! LF18: index, x += e; rules to evaluate what LF17 has. -/
namespace LF
open PySem PySem.Spec PyProof.Rows L2
theorem o_mIndex {K : Frg} : OpM K (fun x xs H Q => ∃ a b i rest, x = .str a ∧ xs = [.str b] ∧ Builtin.Str.occurrences a b 0 a.length 1 = i :: rest ∧ Q (.int (i : Nat)) H) mIndex := by
  intro φ M H s y b Q W S rb h
  unfold mIndex at h
  split at h
  · rename_i t
    split at h
    · rename_i i rest q
      exact ⟨s, t, i, rest, rfl, by rw [rep_str_inv rb], q, okI S h⟩
    · exact h.elim
  · exact h.elim
section
variable {X : Cx} {W : WX} {pos : Pos}
theorem de_index {o e : Expr} {apos : Pos} {da db : DE} (ho : DEx X W o da) (he : DEx X W e db) (hs : starEach [e] X.env = [(false, eval e X.env)] := by rfl) (hbase : attributeBase o "index" X.env (eval o X.env) = eval o X.env := by rfl) (hline : (apos.endLine == pos.line) = true := by rfl) :
    DEx X W (.Call (.Attribute o "index" apos) [e] [] pos) (dM1 mIndex da db) := de_m1 F.slot_str_index F.type_str_index mt_sindex o_mIndex ho he hs hbase hline
end
def fAddI : F2 := fI2 yes2 fun i j => .int (i + j)
def fSubI : F2 := fI2 yes2 fun i j => .int (i - j)
theorem o_ip {K : Frg} {g : Int → Int → Int} : Op2 K (ipI g) (fI2 yes2 fun i j => .int (g i j)) := by
  intro φ M H x y a b Q W S ra rb h
  cases a with
  | int i =>
    cases b with
    | int j => exact ⟨i, j, rep_int_inv ra, rep_int_inv rb, okI S h⟩
    | _ => exact h.elim
  | _ => cases b <;> exact h.elim
/-! ### rules to evaluate -/
section
variable {r : Env'} {M : Mem} {i j : Int} {s t : Str} {x y d : D} {ds : List D} {b c : Bool} {e : Exn}
@[simp] theorem fAddI_int : fAddI (.int i) (.int j) M = .ok (.int (i + j)) M := rfl
@[simp] theorem fSubI_int : fSubI (.int i) (.int j) M = .ok (.int (i - j)) M := rfl
@[simp] theorem fLtX_int : fLtX (.int i) (.int j) M = .ok (.bl (decide (i < j))) M := rfl
@[simp] theorem fLeX_int : fLeX (.int i) (.int j) M = .ok (.bl (decide (i ≤ j))) M := rfl
@[simp] theorem fGtX_int : fGtX (.int i) (.int j) M = .ok (.bl (decide (j < i))) M := rfl
@[simp] theorem fGeX_int : fGeX (.int i) (.int j) M = .ok (.bl (decide (j ≤ i))) M := rfl
@[simp] theorem fLtX_str : fLtX (.str s) (.str t) M = .ok (.bl (strLt s t)) M := rfl
@[simp] theorem fLeX_str : fLeX (.str s) (.str t) M = .ok (.bl (!strLt t s)) M := rfl
@[simp] theorem fGtX_str : fGtX (.str s) (.str t) M = .ok (.bl (strLt t s)) M := rfl
@[simp] theorem fGeX_str : fGeX (.str s) (.str t) M = .ok (.bl (!strLt s t)) M := rfl
theorem strLt_tx (a b : List Nat) : strLt (tx a) (tx b) = decide (a < b) := rfl
theorem strLt_one (a b : Nat) : strLt (tx [a]) (tx [b]) = decide (a < b) := by
  rw [strLt_tx]
  have e : ([a] < [b]) ↔ a < b := by
    rw [List.cons_lt_cons_iff]
    simp
  exact decide_eq_decide.mpr e
@[simp] theorem fOrd_one {k : Nat} : fOrd [.str (tx [k])] M = .ok (.int (k : Nat)) M := rfl
theorem fAll_of {bs : List Bool} (h : blsOf ds = some bs) : fAll [.lst ds] M = .ok (.bl (bs.all id)) M := by
  unfold fAll
  dsimp only
  rw [h]
theorem fAny_of {bs : List Bool} (h : blsOf ds = some bs) : fAny [.lst ds] M = .ok (.bl (bs.any id)) M := by
  unfold fAny
  dsimp only
  rw [h]
theorem blsOf_map {α : Type} {f : α → Bool} : ∀ l : List α, blsOf (l.map fun a => .bl (f a)) = some (l.map f)
  | [] => rfl
  | a :: l => by simp only [List.map_cons, blsOf, blsOf_map l, Option.map_some]
def itESK (o : Out D) : Out Src := o.bind fun d M1 => match d with
  | .str s => .ok ⟨pairsS s, anyM⟩ M1
  | _ => .no
@[simp] theorem dItES_ev {da : DE} : dItES da r M = itESK (da r M) := rfl
@[simp] theorem itESK_str : itESK (.ok (.str s) M) = .ok ⟨pairsS s, anyM⟩ M := rfl
@[simp] theorem itSK_str : itSK (.ok (.str s) M) = .ok ⟨signs s, anyM⟩ M := rfl
theorem pairs_tx (l : List Nat) : pairsS (tx l) = l.zipIdx.map fun ci => .tup [.int (ci.2 : Nat), .str (tx [ci.1])] := rfl
@[simp] theorem dNoPart_ev : dNoPart r M = .ok none M := rfl
def partK (o : Out D) : Out (Option Int) := o.bind fun d M1 => match d with
  | .int i => .ok (some i) M1
  | _ => .no
@[simp] theorem dPart_ev {da : DE} : dPart da r M = partK (da r M) := rfl
@[simp] theorem partK_ok : partK (.ok (.int i) M) = .ok (some i) M := rfl
def slK3 (x : D) (l : Option Int) (o : Out (Option Int)) : Out D := o.bind fun h M3 => fSl x l h M3
def slK2 (x : D) (o : Out (Option Int)) (hi : DO) (r : Env') : Out D := o.bind fun l M2 => slK3 x l (hi r M2)
def slK1 (o : Out D) (lo hi : DO) (r : Env') : Out D := o.bind fun x M1 => slK2 x (lo r M1) hi r
@[simp] theorem dSl_ev {da : DE} {lo hi : DO} : dSl da lo hi r M = slK1 (da r M) lo hi r := rfl
@[simp] theorem slK1_ok {lo hi : DO} : slK1 (.ok x M) lo hi r = slK2 x (lo r M) hi r := rfl
@[simp] theorem slK2_ok {hi : DO} {l : Option Int} : slK2 x (.ok l M) hi r = slK3 x l (hi r M) := rfl
@[simp] theorem slK3_ok {l h : Option Int} : slK3 x l (.ok h M) = fSl x l h M := rfl
def cutN {α : Type} (l : List α) (lo hi : Option Int) : List α := (l.drop (HT.sIx l.length 0 lo)).take (HT.sIx l.length l.length hi - HT.sIx l.length 0 lo)
theorem fSl_tx {l : List Nat} {lo hi : Option Int} (h : l.length ≤ 100000) : fSl (.str (tx l)) lo hi M = .ok (.str (tx (cutN l lo hi))) M := by
  unfold fSl
  dsimp only
  rw [lineB_of (by simpa using h)]
  dsimp only
  rw [← C8.cutS_slice]
  rfl
@[simp] theorem fSl_tup {lo hi : Option Int} : fSl (.tup ds) lo hi M = .ok (.tup (cutN ds lo hi)) M := rfl
@[simp] theorem fSl_lst {lo hi : Option Int} : fSl (.lst ds) lo hi M = .ok (.lst (cutN ds lo hi)) M := rfl
theorem cutN_to {α : Type} {l : List α} {k : Nat} (h : k ≤ l.length) : cutN l none (some (k : Int)) = l.take k := by
  unfold cutN
  rw [HT.sIx_none, HT.sIx_nat, List.drop_zero, Nat.sub_zero, Nat.min_eq_left h]
theorem cutN_from {α : Type} {l : List α} {k : Nat} (h : k ≤ l.length) : cutN l (some (k : Int)) none = l.drop k := by
  unfold cutN
  rw [HT.sIx_none, HT.sIx_nat, Nat.min_eq_left h]
  exact List.take_of_length_le (by simp)
theorem mIndex_tx {l : List Nat} {c : Nat} (h : c ∈ l) : mIndex (tx l) (.str (tx [c])) M = .ok (.int (l.idxOf c : Nat)) M := by
  have f := find_tx l c
  rw [if_pos h] at f
  unfold Txt.find at f
  unfold mIndex
  dsimp only
  cases q : Builtin.Str.occurrences (tx l) (tx [c]) 0 (tx l).length 1 with
  | nil => rw [q] at f; exact absurd f (by simp)
  | cons i rest =>
    rw [q] at f
    dsimp only at f ⊢
    rw [f]
def augK (i : Nat) (f : F2) (x : D) (o : Out D) (r : Env') : SO := o.bindS r fun y M1 => match f x y M1 with
  | .ok z M2 => .nx (r.set i (some z)) M2
  | _ => .no
theorem dAug_ev {k : Nat} {f : F2} {da : DE} : dAug k f da r M = (match r[k]? with
  | some (some x) => augK k f x (da r M) r
  | _ => .no) := rfl
theorem augK_ok {k : Nat} {f : F2} {M1 : Mem} {z : D} (h : f x y M = .ok z M1) : augK k f x (.ok y M) r = .nx (r.set k (some z)) M1 := by
  unfold augK
  dsimp only [Out.bindS]
  rw [h]
@[simp] theorem augK_add {k : Nat} : augK k fAddI (.int i) (.ok (.int j) M) r = .nx (r.set k (some (.int (i + j)))) M := rfl
@[simp] theorem augK_sub {k : Nat} : augK k fSubI (.int i) (.ok (.int j) M) r = .nx (r.set k (some (.int (i - j)))) M := rfl
@[simp] theorem dItL_ev {da : DE} : dItL da r M = ((da r M).bind fun d M1 => match d with
  | .lst ds => .ok ⟨ds, anyM⟩ M1
  | .obj n => (match M1[n]? with
    | some (.lst ds) => .ok ⟨ds, fun M => isAt M n (.lst ds)⟩ M1
    | some (.ro ds) => .ok ⟨ds, fun M => isAt M n (.ro ds)⟩ M1
    | _ => .no)
  | _ => .no) := rfl
end
end LF
set_option Elab.async false
set_option linter.all false
set_option maxRecDepth 100000
set_option maxHeartbeats 8000000
/-! K02: the walk: each def of the row, what it does on plain data. -/
namespace K02
open PySem PySem.Spec PyProof.Rows L2 LF
def top (i : Nat) : Stmt := PySem.Challenge.pw_leafhouse_k02_checks.main.body.getD i (.Pass ⟨0, 0, 0, 0⟩)
def c_SIGNS : Str := "0123456789abcdefghijklmnopqrstuvwxyzABCDEFGHIJKLMNOPQRSTUVWXYZ+-"
def xtab : XTab := [("BadText", ["BadText", "TableError"])]
def xU : List Str := ["BadText"]
def xV : List Str := ["TableError"]
abbrev s_is_whole : Stmt := top 10
abbrev s_is_text : Stmt := top 11
abbrev s_digits : Stmt := top 12
abbrev s_check_of : Stmt := top 13
abbrev s__law_cell_at : Stmt := top 15
abbrev s__law_next : Stmt := top 16
abbrev s__law_signs : Stmt := top 18
abbrev s__law_text : Stmt := top 19
abbrev s__law_digits : Stmt := top 20
abbrev s__law_check : Stmt := top 21
abbrev s__law_refused : Stmt := top 22
abbrev s_law : Stmt := top 23
structure Top (K : Frg) (mg : Str → Option Value) : Prop where
  g_ValueError : mg "ValueError" = none
  g_all : mg "all" = none
  g_bool : mg "bool" = none
  g_enumerate : mg "enumerate" = none
  g_int : mg "int" = none
  g_isinstance : mg "isinstance" = none
  g_len : mg "len" = none
  g_max : mg "max" = none
  g_ord : mg "ord" = none
  g_range : mg "range" = none
  g_reversed : mg "reversed" = none
  g_str : mg "str" = none
  g_AHEAD : ∃ t, mg "AHEAD" = some (.int 31 t)
  g_CHECK : ∃ t, mg "CHECK" = some (.int 4093 t)
  g_MOST_MANY : ∃ t, mg "MOST_MANY" = some (.int 3 t)
  g_PERCENT : ∃ t, mg "PERCENT" = some (.int 37 t)
  g_SIGNS : ∃ t, mg "SIGNS" = some (.str c_SIGNS t)
  g_BadText : mg "BadText" = some (.ref (He.ga K "BadText"))
  g_TableError : mg "TableError" = some (.ref (He.ga K "TableError"))
  e_BadNumber : ExcOk K mg "BadNumber"
  e_BadText : ExcOk K mg "BadText"
  g_is_whole : mg "is_whole" = some (.ref (He.ga K "is_whole"))
  g_is_text : mg "is_text" = some (.ref (He.ga K "is_text"))
  g_digits : mg "digits" = some (.ref (He.ga K "digits"))
  g_check_of : mg "check_of" = some (.ref (He.ga K "check_of"))
  g__law_cell_at : mg "_law_cell_at" = some (.ref (He.ga K "_law_cell_at"))
  g__law_next : mg "_law_next" = some (.ref (He.ga K "_law_next"))
  g__law_signs : mg "_law_signs" = some (.ref (He.ga K "_law_signs"))
  g__law_text : mg "_law_text" = some (.ref (He.ga K "_law_text"))
  g__law_digits : mg "_law_digits" = some (.ref (He.ga K "_law_digits"))
  g__law_check : mg "_law_check" = some (.ref (He.ga K "_law_check"))
  g__law_refused : mg "_law_refused" = some (.ref (He.ga K "_law_refused"))
  g_law : mg "law" = some (.ref (He.ga K "law"))
  d_is_whole : ∃ fd, FunD K "is_whole" "is_whole" (defArgs s_is_whole) (defBody s_is_whole) (defScope s_is_whole) [] [] (He.ga K "is_whole") fd
  d_is_text : ∃ fd, FunD K "is_text" "is_text" (defArgs s_is_text) (defBody s_is_text) (defScope s_is_text) [] [] (He.ga K "is_text") fd
  d_digits : ∃ fd, FunD K "digits" "digits" (defArgs s_digits) (defBody s_digits) (defScope s_digits) [] [] (He.ga K "digits") fd
  d_check_of : ∃ fd, FunD K "check_of" "check_of" (defArgs s_check_of) (defBody s_check_of) (defScope s_check_of) [] [] (He.ga K "check_of") fd
  d__law_cell_at : ∃ fd, FunD K "_law_cell_at" "_law_cell_at" (defArgs s__law_cell_at) (defBody s__law_cell_at) (defScope s__law_cell_at) [] [] (He.ga K "_law_cell_at") fd
  d__law_next : ∃ fd, FunD K "_law_next" "_law_next" (defArgs s__law_next) (defBody s__law_next) (defScope s__law_next) [] [] (He.ga K "_law_next") fd
  d__law_signs : ∃ fd, FunD K "_law_signs" "_law_signs" (defArgs s__law_signs) (defBody s__law_signs) (defScope s__law_signs) [] [] (He.ga K "_law_signs") fd
  d__law_text : ∃ fd, FunD K "_law_text" "_law_text" (defArgs s__law_text) (defBody s__law_text) (defScope s__law_text) [] [] (He.ga K "_law_text") fd
  d__law_digits : ∃ fd, FunD K "_law_digits" "_law_digits" (defArgs s__law_digits) (defBody s__law_digits) (defScope s__law_digits) [] [] (He.ga K "_law_digits") fd
  d__law_check : ∃ fd, FunD K "_law_check" "_law_check" (defArgs s__law_check) (defBody s__law_check) (defScope s__law_check) [] [] (He.ga K "_law_check") fd
  d__law_refused : ∃ fd, FunD K "_law_refused" "_law_refused" (defArgs s__law_refused) (defBody s__law_refused) (defScope s__law_refused) [] [] (He.ga K "_law_refused") fd
  d_law : ∃ fd, FunD K "law" "law" (defArgs s_law) (defBody s_law) (defScope s_law) [] [] (He.ga K "law") fd
  x : XFacts K xtab xU xV
section
variable {P : Program} {w : World} {K : Frg} {mg : Str → Option Value} {base : Heap}
def N_is_whole : List Str := ["thing"]
theorem sc_is_whole : FnScope N_is_whole ["thing"] (defScope s_is_whole) := ⟨rfl, rfl, rfl, by decide +kernel, rfl, by decide +kernel, by decide +kernel⟩
def b_is_whole : DS :=
  (dRet (dAndV (dIsB (fun t => t == "int" || t == "bool") (dVar 0)) (dNotV (dIsB (fun t => t == "bool") (dVar 0)))))
def f_is_whole : FN := runB 1 b_is_whole
theorem ok_is_whole (T : Top K mg) : DefOk P w K mg base 1 "is_whole" 1 f_is_whole := by
  obtain ⟨fd, G⟩ := T.d_is_whole
  refine def_by T.g_is_whole G sc_is_whole rfl (fun _ _ _ _ _ _ us hl => match us, hl with | [_], _ => rfl) (fun cdv A outer s H E hr tk hp =>
  (db_one (ds_ret (de_and (de_isiB (T := "int") (by decide +kernel) rfl T.g_isinstance rfl T.g_int (by decide +kernel) (de_var (i := 0) rfl (.inl rfl))) (de_one (de_not (de_isiB (T := "bool") (by decide +kernel) rfl T.g_isinstance rfl T.g_bool (by decide +kernel) (de_var (i := 0) rfl (.inl rfl)))))))))
def N_is_text : List Str := ["thing", "sign"]
theorem sc_is_text : FnScope N_is_text ["thing"] (defScope s_is_text) := ⟨rfl, rfl, rfl, by decide +kernel, rfl, by decide +kernel, by decide +kernel⟩
def c1_is_text : DE :=
  (dAndV (dChain fLeX fLeX (dC (.str " ")) (dVar 1) (dC (.str "~"))) (dBin fNe (dCB fOrd (dCons (dVar 1) dNil)) (dC (.int 37))))
def b_is_text : DS :=
  (dSeq (dIf (dNot (dTest (dIsB (fun t => t == "str") (dVar 0))))
   (dRet (dC (.bl false)))
   dNext)
  (dRet (dCB fAll (dCons (dComp (dItS (dVar 0)) (gSlot 1) dYes c1_is_text [1]) dNil))))
def f_is_text : FN := runB 2 b_is_text
theorem ok_is_text (T : Top K mg) : DefOk P w K mg base 1 "is_text" 1 f_is_text := by
  obtain ⟨fd, G⟩ := T.d_is_text
  refine def_by T.g_is_text G sc_is_text rfl (fun _ _ _ _ _ _ us hl => match us, hl with | [_], _ => rfl) (fun cdv A outer s H E hr tk hp =>
  (db_cons (ds_if (dt_not (dt_val (de_isiB (T := "str") (by decide +kernel) rfl T.g_isinstance rfl T.g_str (by decide +kernel) (de_var (i := 0) rfl (.inl rfl)))))
   (db_one (ds_ret de_bl))
   db_nil)
  (db_one (ds_ret (de_callB (cr_all rfl) o_all rfl T.g_all (by decide +kernel) (da_cons (de_comp (own := [("sign", 1)]) rfl sc_is_text.nd (di_str (de_var (i := 0) rfl (.inl rfl))) (show BlkOk N_is_text (defScope s_is_text) _ _ from blk_of (by decide +kernel)) (fun _ _ _ _ _ => (dc_name sc_is_text.nd rfl (.inl rfl) (by simp))) (fun _ _ _ _ _ => dp_nil) (fun _ _ _ _ _ => (de_and (de_chain opr_leX o_leX opr_leX o_leX de_str (de_var (i := 1) rfl (.inl rfl)) de_str) (de_one (de_cmp (op_neD hr.units) o_ne (de_callB call_ord o_ord rfl T.g_ord (by decide +kernel) (da_cons (de_var (i := 1) rfl (.inl rfl)) da_nil)) (de_gint rfl T.g_PERCENT)))))) da_nil))))))
def N_digits : List Str := ["number", "many", "place"]
theorem sc_digits : FnScope N_digits ["number", "many"] (defScope s_digits) := ⟨rfl, rfl, rfl, by decide +kernel, rfl, by decide +kernel, by decide +kernel⟩
def c1_digits : DE :=
  (dBin fIx (dC (.str c_SIGNS)) (dBin fBitAnd (dBin fShr (dVar 0) (dBin fMulX (dC (.int 6)) (dVar 2))) (dC (.int 63))))
def b_digits : DS :=
  (dSeq (dIf (dOr (dNot (dTest (dCall 1 f_is_whole (dCons (dVar 1) dNil)))) (dOr (dNot (dTest (dChain fLeX fLeX (dC (.int 1)) (dVar 1) (dC (.int 3))))) (dNot (dTest (dCall 1 f_is_whole (dCons (dVar 0) dNil))))))
   (dRaise "BadNumber")
   dNext)
  (dSeq (dIf (dOr (dTest (dBin fLtX (dVar 0) (dC (.int 0)))) (dTest (dBin fNe (dBin fShr (dVar 0) (dBin fMulX (dC (.int 6)) (dVar 1))) (dC (.int 0)))))
   (dRaise "BadNumber")
   dNext)
  (dRet (dM1 mJoin (dC (.str "")) (dComp (dItRR1 (dVar 1)) (gSlot 2) dYes c1_digits [2])))))
def f_digits : FN := runB 3 b_digits
theorem ok_digits (T : Top K mg) : DefOk P w K mg base 2 "digits" 2 f_digits := by
  obtain ⟨fd, G⟩ := T.d_digits
  refine def_by T.g_digits G sc_digits rfl (fun _ _ _ _ _ _ us hl => match us, hl with | [_, _], _ => rfl) (fun cdv A outer s H E hr tk hp =>
  (db_cons (ds_if (dt_w (dw_or (dt_not (dt_val (de_call (ok_is_whole T) (hr.mono (by decide)) tk rfl (da_cons (de_var (i := 1) rfl (.inl rfl)) da_nil)))) (dw_or (dt_not (dt_chain opr_leX o_leX opr_leX o_leX de_int (de_var (i := 1) rfl (.inl rfl)) (de_gint rfl T.g_MOST_MANY))) (dw_or1 (dt_not (dt_val (de_call (ok_is_whole T) (hr.mono (by decide)) tk rfl (da_cons (de_var (i := 0) rfl (.inr (.inl rfl))) da_nil))))))))
   (db_one (ds_raise T.e_BadNumber rfl tk rfl))
   db_nil)
  (db_cons (ds_if (dt_w (dw_or (dt_cmp opr_ltX o_ltX (de_var (i := 0) rfl (.inr (.inl rfl))) de_int) (dw_or1 (dt_cmp (op_neD hr.units) o_ne (de_bin op_shr o_shr (de_var (i := 0) rfl (.inr (.inl rfl))) (de_bin opr_mul o_mulX de_int (de_var (i := 1) rfl (.inl rfl)))) de_int))))
   (db_one (ds_raise T.e_BadNumber rfl tk rfl))
   db_nil)
  (db_one (ds_ret (de_join de_str (de_comp (own := [("place", 2)]) rfl sc_digits.nd (di_rrange1 rfl T.g_reversed rfl T.g_range (de_var (i := 1) rfl (.inl rfl))) (show BlkOk N_digits (defScope s_digits) _ _ from blk_of (by decide +kernel)) (fun _ _ _ _ _ => (dc_name sc_digits.nd rfl (.inl rfl) (by simp))) (fun _ _ _ _ _ => dp_nil) (fun _ _ _ _ _ => (de_ix (de_gstr (z := c_SIGNS) rfl T.g_SIGNS) (de_bin op_and o_and (de_bin op_shr o_shr (de_var (i := 0) rfl (.inr (.inl rfl))) (de_bin opr_mul o_mulX de_int (de_var (i := 2) rfl (.inl rfl)))) de_int))))))))))
def N_check_of : List Str := ["text", "found", "place", "sign"]
theorem sc_check_of : FnScope N_check_of ["text"] (defScope s_check_of) := ⟨rfl, rfl, rfl, by decide +kernel, rfl, by decide +kernel, by decide +kernel⟩
def l1_check_of : DS :=
  (dAug 1 fAddI (dBin fMulX (dBin fSub (dCB fOrd (dCons (dVar 3) dNil)) (dC (.int 31))) (dBin fAdd (dVar 2) (dC (.int 1)))))
def b_check_of : DS :=
  (dSeq (dIf (dNot (dTest (dCall 1 f_is_text (dCons (dVar 0) dNil))))
   (dRaise "BadText")
   dNext)
  (dSeq (dAsg (dC (.int 0)) (gSlot 1))
  (dSeq (dFor (dItES (dVar 0)) (gTupD 2 (gsCons (gSlot 2) (gsCons (gSlot 3) gsNil)))
   l1_check_of)
  (dRet (dCall 2 f_digits (dCons (dBin fMod (dVar 1) (dC (.int 4093))) (dCons (dC (.int 2)) dNil)))))))
def f_check_of : FN := runB 4 b_check_of
theorem ok_check_of (T : Top K mg) : DefOk P w K mg base 3 "check_of" 1 f_check_of := by
  obtain ⟨fd, G⟩ := T.d_check_of
  refine def_by T.g_check_of G sc_check_of rfl (fun _ _ _ _ _ _ us hl => match us, hl with | [_], _ => rfl) (fun cdv A outer s H E hr tk hp =>
  (db_cons (ds_if (dt_not (dt_val (de_call (ok_is_text T) (hr.mono (by decide)) tk rfl (da_cons (de_var (i := 0) rfl (.inl rfl)) da_nil))))
   (db_one (ds_raise T.e_BadText rfl tk rfl))
   db_nil)
  (db_cons (ds_set sc_check_of.nd (i := 1) rfl (.inl rfl) de_int)
  (db_cons (ds_for hp rfl (di_enumS rfl T.g_enumerate (de_var (i := 0) rfl (.inl rfl))) (dg_tup rfl (dgs_cons (dg_name sc_check_of.nd (i := 2) rfl (.inl rfl)) (dgs_cons (dg_name sc_check_of.nd (i := 3) rfl (.inl rfl)) dgs_nil)))
   (db_one (ds_aug sc_check_of.nd (i := 1) rfl (.inl rfl) (de_bin opr_mul o_mulX (de_bin op_sub o_sub (de_callB call_ord o_ord rfl T.g_ord (by decide +kernel) (da_cons (de_var (i := 3) rfl (.inl rfl)) da_nil)) (de_gint rfl T.g_AHEAD)) (de_bin opr_add o_add (de_var (i := 2) rfl (.inl rfl)) de_int)) ip_add o_ip)))
  (db_one (ds_ret (de_call (ok_digits T) (hr.mono (by decide)) tk rfl (da_cons (de_bin op_mod o_mod (de_var (i := 1) rfl (.inl rfl)) (de_gint rfl T.g_CHECK)) (da_cons de_int da_nil)))))))))
def N__law_cell_at : List Str := ["_law_script", "_law_k"]
theorem sc__law_cell_at : FnScope N__law_cell_at ["_law_script", "_law_k"] (defScope s__law_cell_at) := ⟨rfl, rfl, rfl, by decide +kernel, rfl, by decide +kernel, by decide +kernel⟩
def b__law_cell_at : DS :=
  (dSeq (dIf (dTest (dBin fLtX (dVar 1) (dCB fLen (dCons (dVar 0) dNil))))
   (dRet (dBin fIx (dVar 0) (dVar 1)))
   dNext)
  (dRet (dC (.int 0))))
def f__law_cell_at : FN := runB 2 b__law_cell_at
theorem ok__law_cell_at (T : Top K mg) : DefOk P w K mg base 1 "_law_cell_at" 2 f__law_cell_at := by
  obtain ⟨fd, G⟩ := T.d__law_cell_at
  refine def_by T.g__law_cell_at G sc__law_cell_at rfl (fun _ _ _ _ _ _ us hl => match us, hl with | [_, _], _ => rfl) (fun cdv A outer s H E hr tk hp =>
  (db_cons (ds_if (dt_cmp opr_ltX o_ltX (de_var (i := 1) rfl (.inl rfl)) (de_callB c_len o_len rfl T.g_len (by decide +kernel) (da_cons (de_var (i := 0) rfl (.inl rfl)) da_nil)))
   (db_one (ds_ret (de_ix (de_var (i := 0) rfl (.inl rfl)) (de_var (i := 1) rfl (.inl rfl)))))
   db_nil)
  (db_one (ds_ret de_int))))
def N__law_next : List Str := ["_law_state", "_law_k", "_law_cell"]
theorem sc__law_next : FnScope N__law_next ["_law_state"] (defScope s__law_next) := ⟨rfl, rfl, rfl, by decide +kernel, rfl, by decide +kernel, by decide +kernel⟩
def b__law_next : DS :=
  (dSeq (dDPut (dVar 0) (dC (.str "at")) (dBin fAdd (dBin fDGet (dVar 0) (dC (.str "at"))) (dC (.int 1))))
  (dSeq (dAsg (dBin fDGet (dVar 0) (dC (.str "at"))) (gSlot 1))
  (dSeq (dAsg (dCall 2 f__law_cell_at (dCons (dBin fDGet (dVar 0) (dC (.str "cells"))) (dCons (dBin fMod (dVar 1) (dCB fMax2 (dCons (dC (.int 1)) (dCons (dCB fLen (dCons (dBin fDGet (dVar 0) (dC (.str "cells"))) dNil)) dNil)))) dNil))) (gSlot 2))
  (dRet (dBin fFdiv (dBin fMod (dBin fAdd (dBin fMulX (dVar 2) (dC (.int 48271))) (dBin fMulX (dBin fMulX (dVar 1) (dVar 1)) (dC (.int 69621)))) (dC (.int 2147483647))) (dC (.int 8)))))))
def f__law_next : FN := runB 3 b__law_next
theorem ok__law_next (T : Top K mg) : DefOk P w K mg base 2 "_law_next" 1 f__law_next := by
  obtain ⟨fd, G⟩ := T.d__law_next
  refine def_by T.g__law_next G sc__law_next rfl (fun _ _ _ _ _ _ us hl => match us, hl with | [_], _ => rfl) (fun cdv A outer s H E hr tk hp =>
  (db_cons (ds_dput (room1 hr) (de_var (i := 0) rfl (.inl rfl)) de_str (de_bin opr_add o_add (de_dget (room1 hr) (de_var (i := 0) rfl (.inl rfl)) de_str) de_int))
  (db_cons (ds_set sc__law_next.nd (i := 1) rfl (.inl rfl) (de_dget (room1 hr) (de_var (i := 0) rfl (.inl rfl)) de_str))
  (db_cons (ds_set sc__law_next.nd (i := 2) rfl (.inl rfl) (de_call (ok__law_cell_at T) (hr.mono (by decide)) tk rfl (da_cons (de_dget (room1 hr) (de_var (i := 0) rfl (.inl rfl)) de_str) (da_cons (de_bin op_mod o_mod (de_var (i := 1) rfl (.inl rfl)) (de_callB (call_max2 rfl) o_max2 rfl T.g_max (by decide +kernel) (da_cons de_int (da_cons (de_callB c_len o_len rfl T.g_len (by decide +kernel) (da_cons (de_dget (room1 hr) (de_var (i := 0) rfl (.inl rfl)) de_str) da_nil)) da_nil)))) da_nil))))
  (db_one (ds_ret (de_bin op_fdiv o_fdiv (de_bin op_mod o_mod (de_bin opr_add o_add (de_bin opr_mul o_mulX (de_var (i := 2) rfl (.inl rfl)) de_int) (de_bin opr_mul o_mulX (de_bin opr_mul o_mulX (de_var (i := 1) rfl (.inl rfl)) (de_var (i := 1) rfl (.inl rfl))) de_int)) de_int) de_int)))))))
def N__law_signs : List Str := ["_law_some"]
theorem sc__law_signs : FnScope N__law_signs [] (defScope s__law_signs) := ⟨rfl, rfl, rfl, by decide +kernel, rfl, by decide +kernel, by decide +kernel⟩
def b__law_signs : DS :=
  (dSeq (dAsg (dC (.str "0123456789abcdefghijklmnopqrstuvwxyzABCDEFGHIJKLMNOPQRSTUVWXYZ")) (gSlot 0))
  (dRet (dBin fAdd (dC (.str " !\"\x23$&'()*+,-./:;<=>?\x40[\\]^_`{|}~")) (dVar 0))))
def f__law_signs : FN := runB 1 b__law_signs
theorem ok__law_signs (T : Top K mg) : DefOk P w K mg base 1 "_law_signs" 0 f__law_signs := by
  obtain ⟨fd, G⟩ := T.d__law_signs
  refine def_by T.g__law_signs G sc__law_signs rfl (fun _ _ _ _ _ _ us hl => match us, hl with | [], _ => rfl) (fun cdv A outer s H E hr tk hp =>
  (db_cons (ds_set sc__law_signs.nd (i := 0) rfl (.inl rfl) de_str)
  (db_one (ds_ret (de_bin opr_add o_add de_str (de_var (i := 0) rfl (.inl rfl)))))))
def N__law_text : List Str := ["_law_number", "_law_size", "_law_signs_here", "_law_many", "_law_k"]
theorem sc__law_text : FnScope N__law_text ["_law_number", "_law_size"] (defScope s__law_text) := ⟨rfl, rfl, rfl, by decide +kernel, rfl, by decide +kernel, by decide +kernel⟩
def c1__law_text : DE :=
  (dBin fIx (dVar 2) (dBin fMod (dBin fAdd (dBin fAdd (dBin fFdiv (dVar 0) (dC (.int 7))) (dBin fMulX (dBin fMulX (dC (.int 13)) (dVar 4)) (dVar 4))) (dBin fMulX (dC (.int 5)) (dVar 4))) (dVar 3)))
def b__law_text : DS :=
  (dSeq (dAsg (dCall 0 f__law_signs dNil) (gSlot 2))
  (dSeq (dAsg (dCB fLen (dCons (dVar 2) dNil)) (gSlot 3))
  (dRet (dM1 mJoin (dC (.str "")) (dComp (dItR1 (dVar 1)) (gSlot 4) dYes c1__law_text [4])))))
def f__law_text : FN := runB 5 b__law_text
theorem ok__law_text (T : Top K mg) : DefOk P w K mg base 2 "_law_text" 2 f__law_text := by
  obtain ⟨fd, G⟩ := T.d__law_text
  refine def_by T.g__law_text G sc__law_text rfl (fun _ _ _ _ _ _ us hl => match us, hl with | [_, _], _ => rfl) (fun cdv A outer s H E hr tk hp =>
  (db_cons (ds_set sc__law_text.nd (i := 2) rfl (.inr rfl) (de_call0 (ok__law_signs T) (hr.mono (by decide)) tk rfl))
  (db_cons (ds_set sc__law_text.nd (i := 3) rfl (.inr rfl) (de_callB c_len o_len rfl T.g_len (by decide +kernel) (da_cons (de_var (i := 2) rfl (.inr (.inl rfl))) da_nil)))
  (db_one (ds_ret (de_join de_str (de_comp (own := [("_law_k", 4)]) rfl sc__law_text.nd (di_range1 rfl T.g_range (de_var (i := 1) rfl (.inl rfl))) (show BlkOk N__law_text (defScope s__law_text) _ _ from blk_of (by decide +kernel)) (fun _ _ _ _ _ => (dc_name sc__law_text.nd rfl (.inl rfl) (by simp))) (fun _ _ _ _ _ => dp_nil) (fun _ _ _ _ _ => (de_ix (de_var (i := 2) rfl (.inr (.inl rfl))) (de_bin op_mod o_mod (de_bin opr_add o_add (de_bin opr_add o_add (de_bin op_fdiv o_fdiv (de_var (i := 0) rfl (.inr (.inl rfl))) de_int) (de_bin opr_mul o_mulX (de_bin opr_mul o_mulX de_int (de_var (i := 4) rfl (.inl rfl))) (de_var (i := 4) rfl (.inl rfl)))) (de_bin opr_mul o_mulX de_int (de_var (i := 4) rfl (.inl rfl)))) (de_var (i := 3) rfl (.inr (.inl rfl)))))))))))))
def N__law_digits : List Str := ["_law_number", "_law_many", "_law_signs_here", "_law_found", "_law_k"]
theorem sc__law_digits : FnScope N__law_digits ["_law_number", "_law_many"] (defScope s__law_digits) := ⟨rfl, rfl, rfl, by decide +kernel, rfl, by decide +kernel, by decide +kernel⟩
def l1__law_digits : DS :=
  (dSeq (dAsg (dBin fAdd (dBin fIx (dVar 2) (dBin fMod (dVar 0) (dC (.int 64)))) (dVar 3)) (gSlot 3))
   (dAsg (dBin fFdiv (dVar 0) (dC (.int 64))) (gSlot 0)))
def b__law_digits : DS :=
  (dSeq (dAsg (dC (.str "0123456789abcdefghijklmnopqrstuvwxyzABCDEFGHIJKLMNOPQRSTUVWXYZ+-")) (gSlot 2))
  (dSeq (dAsg (dC (.str "")) (gSlot 3))
  (dSeq (dFor (dItR1 (dVar 1)) (gSlot 4)
   l1__law_digits)
  (dRet (dVar 3)))))
def f__law_digits : FN := runB 5 b__law_digits
theorem ok__law_digits (T : Top K mg) : DefOk P w K mg base 1 "_law_digits" 2 f__law_digits := by
  obtain ⟨fd, G⟩ := T.d__law_digits
  refine def_by T.g__law_digits G sc__law_digits rfl (fun _ _ _ _ _ _ us hl => match us, hl with | [_, _], _ => rfl) (fun cdv A outer s H E hr tk hp =>
  (db_cons (ds_set sc__law_digits.nd (i := 2) rfl (.inl rfl) de_str)
  (db_cons (ds_set sc__law_digits.nd (i := 3) rfl (.inl rfl) de_str)
  (db_cons (ds_for hp rfl (di_range1 rfl T.g_range (de_var (i := 1) rfl (.inl rfl))) (dg_name sc__law_digits.nd (i := 4) rfl (.inl rfl))
   (db_cons (ds_set sc__law_digits.nd (i := 3) rfl (.inl rfl) (de_bin opr_add o_add (de_ix (de_var (i := 2) rfl (.inl rfl)) (de_bin op_mod o_mod (de_var (i := 0) rfl (.inl rfl)) de_int)) (de_var (i := 3) rfl (.inl rfl))))
   (db_one (ds_set sc__law_digits.nd (i := 0) rfl (.inl rfl) (de_bin op_fdiv o_fdiv (de_var (i := 0) rfl (.inl rfl)) de_int)))))
  (db_one (ds_ret (de_var (i := 3) rfl (.inl rfl))))))))
def N__law_check : List Str := ["_law_text_here", "_law_order", "_law_found", "_law_k", "_law_sign", "_law_place"]
theorem sc__law_check : FnScope N__law_check ["_law_text_here"] (defScope s__law_check) := ⟨rfl, rfl, rfl, by decide +kernel, rfl, by decide +kernel, by decide +kernel⟩
def l1__law_check : DS :=
  (dSeq (dAsg (dBin fIx (dVar 0) (dVar 3)) (gSlot 4))
   (dSeq (dAsg (dM1 (mInt PySem.Txt.find) (dVar 1) (dVar 4)) (gSlot 5))
   (dSeq (dIf (dTest (dBin fEq (dVar 4) (dC (.str "?"))))
    (dAsg (dM1 (mInt PySem.Txt.rfind) (dVar 1) (dVar 4)) (gSlot 5))
    dNext)
   (dAsg (dBin fAdd (dVar 2) (dBin fMulX (dBin fAdd (dVar 5) (dC (.int 1))) (dBin fAdd (dVar 3) (dC (.int 1))))) (gSlot 2)))))
def b__law_check : DS :=
  (dSeq (dAsg (dC (.str " !\"\x23$?&'()*+,-./0123456789:;<=>?\x40ABCDEFGHIJKLMNOPQRSTUVWXYZ[\\]^_`abcdefghijklmnopqrstuvwxyz{|}~")) (gSlot 1))
  (dSeq (dAsg (dC (.int 0)) (gSlot 2))
  (dSeq (dFor (dItR1 (dCB fLen (dCons (dVar 0) dNil))) (gSlot 3)
   l1__law_check)
  (dRet (dCall 2 f__law_digits (dCons (dBin fMod (dVar 2) (dC (.int 4093))) (dCons (dC (.int 2)) dNil)))))))
def f__law_check : FN := runB 6 b__law_check
theorem ok__law_check (T : Top K mg) : DefOk P w K mg base 2 "_law_check" 1 f__law_check := by
  obtain ⟨fd, G⟩ := T.d__law_check
  refine def_by T.g__law_check G sc__law_check rfl (fun _ _ _ _ _ _ us hl => match us, hl with | [_], _ => rfl) (fun cdv A outer s H E hr tk hp =>
  (db_cons (ds_set sc__law_check.nd (i := 1) rfl (.inl rfl) de_str)
  (db_cons (ds_set sc__law_check.nd (i := 2) rfl (.inl rfl) de_int)
  (db_cons (ds_for hp rfl (di_range1 rfl T.g_range (de_callB c_len o_len rfl T.g_len (by decide +kernel) (da_cons (de_var (i := 0) rfl (.inl rfl)) da_nil))) (dg_name sc__law_check.nd (i := 3) rfl (.inl rfl))
   (db_cons (ds_set sc__law_check.nd (i := 4) rfl (.inl rfl) (de_ix (de_var (i := 0) rfl (.inl rfl)) (de_var (i := 3) rfl (.inl rfl))))
   (db_cons (ds_set sc__law_check.nd (i := 5) rfl (.inl rfl) (de_find (de_var (i := 1) rfl (.inl rfl)) (de_var (i := 4) rfl (.inl rfl))))
   (db_cons (ds_if (dt_cmp (op_eqD hr.units) o_eq (de_var (i := 4) rfl (.inl rfl)) de_str)
    (db_one (ds_set sc__law_check.nd (i := 5) rfl (.inl rfl) (de_rfind (de_var (i := 1) rfl (.inl rfl)) (de_var (i := 4) rfl (.inl rfl)))))
    db_nil)
   (db_one (ds_set sc__law_check.nd (i := 2) rfl (.inl rfl) (de_bin opr_add o_add (de_var (i := 2) rfl (.inl rfl)) (de_bin opr_mul o_mulX (de_bin opr_add o_add (de_var (i := 5) rfl (.inl rfl)) de_int) (de_bin opr_add o_add (de_var (i := 3) rfl (.inl rfl)) de_int)))))))))
  (db_one (ds_ret (de_call (ok__law_digits T) (hr.mono (by decide)) tk rfl (da_cons (de_bin op_mod o_mod (de_var (i := 2) rfl (.inl rfl)) de_int) (da_cons de_int da_nil)))))))))
def N__law_refused : List Str := ["_law_thing", "e"]
theorem sc__law_refused : FnScope N__law_refused ["_law_thing"] (defScope s__law_refused) := ⟨rfl, rfl, rfl, by decide +kernel, rfl, by decide +kernel, by decide +kernel⟩
def b__law_refused : DS :=
  (dSeq (dTryAs (exX xtab "TableError") 1
   (dExpr (dCall 1 f_check_of (dCons (dVar 0) dNil)))
   (dRet (dAndV (dIs (isX xtab ["BadText"]) (dVar 1)) (dIs (isXv xtab) (dVar 1)))))
  (dRet (dC (.bl false))))
def f__law_refused : FN := runB 2 b__law_refused
theorem ok__law_refused (T : Top K mg) : DefOk P w K mg base 4 "_law_refused" 1 f__law_refused := by
  obtain ⟨fd, G⟩ := T.d__law_refused
  refine def_by T.g__law_refused G sc__law_refused rfl (fun _ _ _ _ _ _ us hl => match us, hl with | [_], _ => rfl) (fun cdv A outer s H E hr tk hp =>
  (db_cons (ds_try_as (i := 1) rfl rfl rfl sc__law_refused.nd rfl rfl rfl T.g_TableError rfl tk (T.x.ex (by decide +kernel)) (fun W pn xe tk2 hp2 =>
   (db_one (ds_expr (de_call (ok_check_of T) (hr.mono (by decide)) tk2 rfl (da_cons (de_var (i := 0) rfl (.inl rfl)) da_nil)))))
   (fun a pn => (db_one (ds_ret (de_and (de_is1 (T.x.is1 (by decide +kernel)) rfl T.g_isinstance rfl T.g_BadText (de_var (i := 1) rfl (.inl rfl))) (de_one (de_is1T T.x.isV rfl T.g_isinstance rfl T.g_ValueError (by decide +kernel) (de_var (i := 1) rfl (.inl rfl)))))))))
  (db_one (ds_ret de_bl))))
def N_law : List Str := ["_law_script", "_law_state", "_law_turn", "_law_number", "_law_size", "_law_text_here", "_law_due", "_law_found", "_law_at", "_law_signs_here", "_law_step", "_law_here", "_law_other", "_law_bent", "_law_odd"]
theorem sc_law : FnScope N_law ["_law_script"] (defScope s_law) := ⟨rfl, rfl, rfl, by decide +kernel, rfl, by decide +kernel, by decide +kernel⟩
def l1_law : DS :=
  (dSeq (dAsg (dCall 1 f__law_next (dCons (dVar 1) dNil)) (gSlot 3))
   (dSeq (dAsg (dBin fIx (dLst (dCons (dBin fMod (dBin fFdiv (dVar 3) (dC (.int 4))) (dC (.int 12))) (dCons (dBin fMod (dBin fFdiv (dVar 3) (dC (.int 4))) (dC (.int 211))) (dCons (dBin fAdd (dC (.int 64)) (dBin fMod (dBin fFdiv (dVar 3) (dC (.int 4))) (dC (.int 140)))) (dCons (dC (.int 0)) dNil))))) (dBin fMod (dVar 3) (dC (.int 4)))) (gSlot 4))
   (dSeq (dAsg (dCall 2 f__law_text (dCons (dBin fFdiv (dVar 3) (dC (.int 3))) (dCons (dVar 4) dNil))) (gSlot 5))
   (dSeq (dAsg (dCall 1 f__law_check (dCons (dVar 5) dNil)) (gSlot 6))
   (dSeq (dAsg (dCall 1 f_check_of (dCons (dVar 5) dNil)) (gSlot 7))
   (dSeq (dIf (dOr (dNot (dTest (dIsB (fun t => t == "str") (dVar 7)))) (dOr (dTest (dBin fNe (dVar 7) (dVar 6))) (dTest (dBin fNe (dCall 1 f_check_of (dCons (dVar 5) dNil)) (dVar 6)))))
    (dRet (dC (.bl false)))
    dNext)
   (dSeq (dIf (dTest (dBin fGtX (dVar 4) (dC (.int 1))))
    (dSeq (dAsg (dBin fMod (dBin fFdiv (dVar 3) (dC (.int 800))) (dBin fSub (dVar 4) (dC (.int 1)))) (gSlot 8))
    (dSeq (dAsg (dCall 0 f__law_signs dNil) (gSlot 9))
    (dSeq (dAsg (dBin fAdd (dC (.int 1)) (dBin fMod (dBin fFdiv (dVar 3) (dC (.int 7))) (dBin fSub (dCB fLen (dCons (dVar 9) dNil)) (dC (.int 1))))) (gSlot 10))
    (dSeq (dAsg (dM1 mIndex (dVar 9) (dBin fIx (dVar 5) (dVar 8))) (gSlot 11))
    (dSeq (dAsg (dBin fIx (dVar 9) (dBin fMod (dBin fAdd (dVar 11) (dVar 10)) (dCB fLen (dCons (dVar 9) dNil)))) (gSlot 12))
    (dSeq (dAsg (dBin fAdd (dSl (dVar 5) dNoPart (dPart (dVar 8))) (dVar 12)) (gSlot 13))
    (dSeq (dAsg (dBin fAdd (dVar 13) (dSl (dVar 5) (dPart (dBin fAdd (dVar 8) (dC (.int 1)))) dNoPart)) (gSlot 13))
    (dSeq (dAsg (dCall 1 f_check_of (dCons (dVar 13) dNil)) (gSlot 7))
    (dSeq (dIf (dOr (dTest (dBin fEq (dVar 7) (dVar 6))) (dTest (dBin fNe (dVar 7) (dCall 1 f__law_check (dCons (dVar 13) dNil)))))
     (dRet (dC (.bl false)))
     dNext)
    (dSeq (dAsg (dBin fAdd (dSl (dVar 5) dNoPart (dPart (dVar 8))) (dBin fIx (dVar 5) (dBin fAdd (dVar 8) (dC (.int 1))))) (gSlot 13))
    (dSeq (dAsg (dBin fAdd (dVar 13) (dBin fIx (dVar 5) (dVar 8))) (gSlot 13))
    (dSeq (dAsg (dBin fAdd (dVar 13) (dSl (dVar 5) (dPart (dBin fAdd (dVar 8) (dC (.int 2)))) dNoPart)) (gSlot 13))
    (dSeq (dAsg (dCall 1 f_check_of (dCons (dVar 13) dNil)) (gSlot 7))
    (dSeq (dIf (dAnd (dTest (dBin fNe (dVar 13) (dVar 5))) (dTest (dBin fEq (dVar 7) (dVar 6))))
     (dRet (dC (.bl false)))
     dNext)
    (dIf (dTest (dBin fNe (dVar 7) (dCall 1 f__law_check (dCons (dVar 13) dNil))))
     (dRet (dC (.bl false)))
     dNext)))))))))))))))
    dNext)
   (dSeq (dAsg (dBin fIx (dLst (dCons (dC .non) (dCons (dC (.int 5)) (dCons (dLst (dCons (dC (.str "a")) dNil)) (dCons (dC (.bl true)) (dCons (dTup (dCons (dC (.str "a")) dNil)) (dCons (dC (.dic [] [])) (dCons (dC (.str "a\n")) (dCons (dC (.str "\t")) (dCons (dBin fAdd (dVar 5) (dC (.str "\n"))) dNil)))))))))) (dBin fMod (dBin fFdiv (dVar 3) (dC (.int 5))) (dC (.int 9)))) (gSlot 14))
   (dIf (dNot (dTest (dCall 1 f__law_refused (dCons (dVar 14) dNil))))
    (dRet (dC (.bl false)))
    dNext)))))))))
def b_law : DS :=
  (dSeq (dAsg (dDisp [(.inr "cells", (dVar 0)), (.inr "at", (dC (.int 0)))]) (gSlot 1))
  (dSeq (dFor (dItR1 (dC (.int 3))) (gSlot 2)
   l1_law)
  (dRet (dC (.bl true)))))
def f_law : FN := runB 15 b_law
theorem fn_law (T : Top K mg) {fd : FuncData} (G : FunD K "law" "law" (defArgs s_law) (defBody s_law) (defScope s_law) [] [] (He.ga K "law") fd) : FnOk P w K mg base (L2.CX P w) 5 (He.ga K "law") fd ["_law_script"] (SpD K 1 f_law) := by
  refine fn_by (ps := ["_law_script"]) G sc_law (fun cdv A outer s H E hr tk hp =>
  (db_cons (ds_set sc_law.nd (i := 1) rfl (.inl rfl) (de_disp (dpp_str (de_var (i := 0) rfl (.inl rfl)) (dpp_str de_int dpp_nil)) rfl rfl (by simp) (by decide)))
  (db_cons (ds_for hp rfl (di_range1 rfl T.g_range de_int) (dg_name sc_law.nd (i := 2) rfl (.inl rfl))
   (db_cons (ds_set sc_law.nd (i := 3) rfl (.inl rfl) (de_call (ok__law_next T) (hr.mono (by decide)) tk rfl (da_cons (de_var (i := 1) rfl (.inl rfl)) da_nil)))
   (db_cons (ds_set sc_law.nd (i := 4) rfl (.inl rfl) (de_ix (de_lst (da_cons (de_bin op_mod o_mod (de_bin op_fdiv o_fdiv (de_var (i := 3) rfl (.inl rfl)) de_int) de_int) (da_cons (de_bin op_mod o_mod (de_bin op_fdiv o_fdiv (de_var (i := 3) rfl (.inl rfl)) de_int) de_int) (da_cons (de_bin opr_add o_add de_int (de_bin op_mod o_mod (de_bin op_fdiv o_fdiv (de_var (i := 3) rfl (.inl rfl)) de_int) de_int)) (da_cons de_int da_nil))))) (de_bin op_mod o_mod (de_var (i := 3) rfl (.inl rfl)) de_int)))
   (db_cons (ds_set sc_law.nd (i := 5) rfl (.inl rfl) (de_call (ok__law_text T) (hr.mono (by decide)) tk rfl (da_cons (de_bin op_fdiv o_fdiv (de_var (i := 3) rfl (.inl rfl)) de_int) (da_cons (de_var (i := 4) rfl (.inl rfl)) da_nil))))
   (db_cons (ds_set sc_law.nd (i := 6) rfl (.inl rfl) (de_call (ok__law_check T) (hr.mono (by decide)) tk rfl (da_cons (de_var (i := 5) rfl (.inl rfl)) da_nil)))
   (db_cons (ds_set sc_law.nd (i := 7) rfl (.inl rfl) (de_call (ok_check_of T) (hr.mono (by decide)) tk rfl (da_cons (de_var (i := 5) rfl (.inl rfl)) da_nil)))
   (db_cons (ds_if (dt_w (dw_or (dt_not (dt_val (de_isiB (T := "str") (by decide +kernel) rfl T.g_isinstance rfl T.g_str (by decide +kernel) (de_var (i := 7) rfl (.inl rfl))))) (dw_or (dt_cmp (op_neD hr.units) o_ne (de_var (i := 7) rfl (.inl rfl)) (de_var (i := 6) rfl (.inl rfl))) (dw_or1 (dt_cmp (op_neD hr.units) o_ne (de_call (ok_check_of T) (hr.mono (by decide)) tk rfl (da_cons (de_var (i := 5) rfl (.inl rfl)) da_nil)) (de_var (i := 6) rfl (.inl rfl)))))))
    (db_one (ds_ret de_bl))
    db_nil)
   (db_cons (ds_if (dt_cmp opr_gtX o_gtX (de_var (i := 4) rfl (.inl rfl)) de_int)
    (db_cons (ds_set sc_law.nd (i := 8) rfl (.inl rfl) (de_bin op_mod o_mod (de_bin op_fdiv o_fdiv (de_var (i := 3) rfl (.inl rfl)) de_int) (de_bin op_sub o_sub (de_var (i := 4) rfl (.inl rfl)) de_int)))
    (db_cons (ds_set sc_law.nd (i := 9) rfl (.inl rfl) (de_call0 (ok__law_signs T) (hr.mono (by decide)) tk rfl))
    (db_cons (ds_set sc_law.nd (i := 10) rfl (.inl rfl) (de_bin opr_add o_add de_int (de_bin op_mod o_mod (de_bin op_fdiv o_fdiv (de_var (i := 3) rfl (.inl rfl)) de_int) (de_bin op_sub o_sub (de_callB c_len o_len rfl T.g_len (by decide +kernel) (da_cons (de_var (i := 9) rfl (.inl rfl)) da_nil)) de_int))))
    (db_cons (ds_set sc_law.nd (i := 11) rfl (.inl rfl) (de_index (de_var (i := 9) rfl (.inl rfl)) (de_ix (de_var (i := 5) rfl (.inl rfl)) (de_var (i := 8) rfl (.inl rfl)))))
    (db_cons (ds_set sc_law.nd (i := 12) rfl (.inl rfl) (de_ix (de_var (i := 9) rfl (.inl rfl)) (de_bin op_mod o_mod (de_bin opr_add o_add (de_var (i := 11) rfl (.inl rfl)) (de_var (i := 10) rfl (.inl rfl))) (de_callB c_len o_len rfl T.g_len (by decide +kernel) (da_cons (de_var (i := 9) rfl (.inl rfl)) da_nil)))))
    (db_cons (ds_set sc_law.nd (i := 13) rfl (.inl rfl) (de_bin opr_add o_add (de_sl (de_var (i := 5) rfl (.inl rfl)) do_none (do_some (de_var (i := 8) rfl (.inl rfl)))) (de_var (i := 12) rfl (.inl rfl))))
    (db_cons (ds_set sc_law.nd (i := 13) rfl (.inl rfl) (de_bin opr_add o_add (de_var (i := 13) rfl (.inl rfl)) (de_sl (de_var (i := 5) rfl (.inl rfl)) (do_some (de_bin opr_add o_add (de_var (i := 8) rfl (.inl rfl)) de_int)) do_none)))
    (db_cons (ds_set sc_law.nd (i := 7) rfl (.inl rfl) (de_call (ok_check_of T) (hr.mono (by decide)) tk rfl (da_cons (de_var (i := 13) rfl (.inl rfl)) da_nil)))
    (db_cons (ds_if (dt_w (dw_or (dt_cmp (op_eqD hr.units) o_eq (de_var (i := 7) rfl (.inl rfl)) (de_var (i := 6) rfl (.inl rfl))) (dw_or1 (dt_cmp (op_neD hr.units) o_ne (de_var (i := 7) rfl (.inl rfl)) (de_call (ok__law_check T) (hr.mono (by decide)) tk rfl (da_cons (de_var (i := 13) rfl (.inl rfl)) da_nil))))))
     (db_one (ds_ret de_bl))
     db_nil)
    (db_cons (ds_set sc_law.nd (i := 13) rfl (.inl rfl) (de_bin opr_add o_add (de_sl (de_var (i := 5) rfl (.inl rfl)) do_none (do_some (de_var (i := 8) rfl (.inl rfl)))) (de_ix (de_var (i := 5) rfl (.inl rfl)) (de_bin opr_add o_add (de_var (i := 8) rfl (.inl rfl)) de_int))))
    (db_cons (ds_set sc_law.nd (i := 13) rfl (.inl rfl) (de_bin opr_add o_add (de_var (i := 13) rfl (.inl rfl)) (de_ix (de_var (i := 5) rfl (.inl rfl)) (de_var (i := 8) rfl (.inl rfl)))))
    (db_cons (ds_set sc_law.nd (i := 13) rfl (.inl rfl) (de_bin opr_add o_add (de_var (i := 13) rfl (.inl rfl)) (de_sl (de_var (i := 5) rfl (.inl rfl)) (do_some (de_bin opr_add o_add (de_var (i := 8) rfl (.inl rfl)) de_int)) do_none)))
    (db_cons (ds_set sc_law.nd (i := 7) rfl (.inl rfl) (de_call (ok_check_of T) (hr.mono (by decide)) tk rfl (da_cons (de_var (i := 13) rfl (.inl rfl)) da_nil)))
    (db_cons (ds_if (dt_w (dw_and (dt_cmp (op_neD hr.units) o_ne (de_var (i := 13) rfl (.inl rfl)) (de_var (i := 5) rfl (.inl rfl))) (dw_and1 (dt_cmp (op_eqD hr.units) o_eq (de_var (i := 7) rfl (.inl rfl)) (de_var (i := 6) rfl (.inl rfl))))))
     (db_one (ds_ret de_bl))
     db_nil)
    (db_one (ds_if (dt_cmp (op_neD hr.units) o_ne (de_var (i := 7) rfl (.inl rfl)) (de_call (ok__law_check T) (hr.mono (by decide)) tk rfl (da_cons (de_var (i := 13) rfl (.inl rfl)) da_nil)))
     (db_one (ds_ret de_bl))
     db_nil))))))))))))))))
    db_nil)
   (db_cons (ds_set sc_law.nd (i := 14) rfl (.inl rfl) (de_ix (de_lst (da_cons de_non (da_cons de_int (da_cons (de_lst (da_cons de_str da_nil)) (da_cons de_bl (da_cons (de_tup (da_cons de_str da_nil)) (da_cons de_dnew (da_cons de_str (da_cons de_str (da_cons (de_bin opr_add o_add (de_var (i := 5) rfl (.inl rfl)) de_str) da_nil)))))))))) (de_bin op_mod o_mod (de_bin op_fdiv o_fdiv (de_var (i := 3) rfl (.inl rfl)) de_int) de_int)))
   (db_one (ds_if (dt_not (dt_val (de_call (ok__law_refused T) (hr.mono (by decide)) tk rfl (da_cons (de_var (i := 14) rfl (.inl rfl)) da_nil))))
    (db_one (ds_ret de_bl))
    db_nil)))))))))))
  (db_one (ds_ret de_bl))))) (fun _ _ _ _ => rfl)
end
def dd_is_whole : He.DefD := ⟨("is_whole", none), "is_whole", "is_whole", defArgs s_is_whole, defBody s_is_whole, defScope s_is_whole, [], []⟩
def dd_is_text : He.DefD := ⟨("is_text", none), "is_text", "is_text", defArgs s_is_text, defBody s_is_text, defScope s_is_text, [], []⟩
def dd_digits : He.DefD := ⟨("digits", none), "digits", "digits", defArgs s_digits, defBody s_digits, defScope s_digits, [], []⟩
def dd_check_of : He.DefD := ⟨("check_of", none), "check_of", "check_of", defArgs s_check_of, defBody s_check_of, defScope s_check_of, [], []⟩
def dd__law_cell_at : He.DefD := ⟨("_law_cell_at", none), "_law_cell_at", "_law_cell_at", defArgs s__law_cell_at, defBody s__law_cell_at, defScope s__law_cell_at, [], []⟩
def dd__law_next : He.DefD := ⟨("_law_next", none), "_law_next", "_law_next", defArgs s__law_next, defBody s__law_next, defScope s__law_next, [], []⟩
def dd__law_signs : He.DefD := ⟨("_law_signs", none), "_law_signs", "_law_signs", defArgs s__law_signs, defBody s__law_signs, defScope s__law_signs, [], []⟩
def dd__law_text : He.DefD := ⟨("_law_text", none), "_law_text", "_law_text", defArgs s__law_text, defBody s__law_text, defScope s__law_text, [], []⟩
def dd__law_digits : He.DefD := ⟨("_law_digits", none), "_law_digits", "_law_digits", defArgs s__law_digits, defBody s__law_digits, defScope s__law_digits, [], []⟩
def dd__law_check : He.DefD := ⟨("_law_check", none), "_law_check", "_law_check", defArgs s__law_check, defBody s__law_check, defScope s__law_check, [], []⟩
def dd__law_refused : He.DefD := ⟨("_law_refused", none), "_law_refused", "_law_refused", defArgs s__law_refused, defBody s__law_refused, defScope s__law_refused, [], []⟩
def dd_law : He.DefD := ⟨("law", none), "law", "law", defArgs s_law, defBody s_law, defScope s_law, [], []⟩
def fn : List He.DefD := [dd_is_whole, dd_is_text, dd_digits, dd_check_of, dd__law_cell_at, dd__law_next, dd__law_signs, dd__law_text, dd__law_digits, dd__law_check, dd__law_refused, dd_law]
def fa : List He.Fa := [.free "ValueError", .free "all", .free "bool", .free "enumerate", .free "int", .free "isinstance", .free "len", .free "max", .free "ord", .free "range", .free "reversed", .free "str", .int "AHEAD" 31, .int "CHECK" 4093, .int "MOST_MANY" 3, .int "PERCENT" 37, .str "SIGNS" c_SIGNS, .glo "BadText", .glo "TableError", .glo "BadNumber", .exc "BadNumber", .glo "BadText", .exc "BadText", .glo "is_whole", .glo "is_text", .glo "digits", .glo "check_of", .glo "_law_cell_at", .glo "_law_next", .glo "_law_signs", .glo "_law_text", .glo "_law_digits", .glo "_law_check", .glo "_law_refused", .glo "law"]
def xb : Frg → Bool := xfB xtab xU xV
theorem top_of {K : Frg} {h : Heap} {mg : Str → Option Value} (X : K.In h) (G : h.Ns mainGlobals mg) (c : SaysX xb fa fn K) : Top K mg :=
  ⟨He.free_ok X G (c.2.fact 0 (f := .free "ValueError") rfl),
  He.free_ok X G (c.2.fact 1 (f := .free "all") rfl),
  He.free_ok X G (c.2.fact 2 (f := .free "bool") rfl),
  He.free_ok X G (c.2.fact 3 (f := .free "enumerate") rfl),
  He.free_ok X G (c.2.fact 4 (f := .free "int") rfl),
  He.free_ok X G (c.2.fact 5 (f := .free "isinstance") rfl),
  He.free_ok X G (c.2.fact 6 (f := .free "len") rfl),
  He.free_ok X G (c.2.fact 7 (f := .free "max") rfl),
  He.free_ok X G (c.2.fact 8 (f := .free "ord") rfl),
  He.free_ok X G (c.2.fact 9 (f := .free "range") rfl),
  He.free_ok X G (c.2.fact 10 (f := .free "reversed") rfl),
  He.free_ok X G (c.2.fact 11 (f := .free "str") rfl),
  He.int_ok X G (c.2.fact 12 (f := .int "AHEAD" 31) rfl),
  He.int_ok X G (c.2.fact 13 (f := .int "CHECK" 4093) rfl),
  He.int_ok X G (c.2.fact 14 (f := .int "MOST_MANY" 3) rfl),
  He.int_ok X G (c.2.fact 15 (f := .int "PERCENT" 37) rfl),
  He.str_ok X G (c.2.fact 16 (f := .str "SIGNS" c_SIGNS) rfl),
  He.glo_ok X G (c.2.fact 17 (f := .glo "BadText") rfl),
  He.glo_ok X G (c.2.fact 18 (f := .glo "TableError") rfl),
  excOk X G (c.2.fact 19 (f := .glo "BadNumber") rfl) (c.2.fact 20 (f := .exc "BadNumber") rfl),
  excOk X G (c.2.fact 21 (f := .glo "BadText") rfl) (c.2.fact 22 (f := .exc "BadText") rfl),
  He.glo_ok X G (c.2.fact 23 (f := .glo "is_whole") rfl),
  He.glo_ok X G (c.2.fact 24 (f := .glo "is_text") rfl),
  He.glo_ok X G (c.2.fact 25 (f := .glo "digits") rfl),
  He.glo_ok X G (c.2.fact 26 (f := .glo "check_of") rfl),
  He.glo_ok X G (c.2.fact 27 (f := .glo "_law_cell_at") rfl),
  He.glo_ok X G (c.2.fact 28 (f := .glo "_law_next") rfl),
  He.glo_ok X G (c.2.fact 29 (f := .glo "_law_signs") rfl),
  He.glo_ok X G (c.2.fact 30 (f := .glo "_law_text") rfl),
  He.glo_ok X G (c.2.fact 31 (f := .glo "_law_digits") rfl),
  He.glo_ok X G (c.2.fact 32 (f := .glo "_law_check") rfl),
  He.glo_ok X G (c.2.fact 33 (f := .glo "_law_refused") rfl),
  He.glo_ok X G (c.2.fact 34 (f := .glo "law") rfl),
  c.2.def_ 0 (d := dd_is_whole) rfl,
  c.2.def_ 1 (d := dd_is_text) rfl,
  c.2.def_ 2 (d := dd_digits) rfl,
  c.2.def_ 3 (d := dd_check_of) rfl,
  c.2.def_ 4 (d := dd__law_cell_at) rfl,
  c.2.def_ 5 (d := dd__law_next) rfl,
  c.2.def_ 6 (d := dd__law_signs) rfl,
  c.2.def_ 7 (d := dd__law_text) rfl,
  c.2.def_ 8 (d := dd__law_digits) rfl,
  c.2.def_ 9 (d := dd__law_check) rfl,
  c.2.def_ 10 (d := dd__law_refused) rfl,
  c.2.def_ 11 (d := dd_law) rfl,
  xfB_ok c.1⟩
end K02
set_option Elab.async false
set_option linter.all false
set_option maxRecDepth 100000
set_option maxHeartbeats 0
namespace K02
open PySem PySem.Spec PyProof.Rows L2 LF
def loose0 : List Str := ["TableError", "BadNumber", "BadText", "SIGNS", "MOST_MANY", "CHECK", "PERCENT", "AHEAD", "is_whole", "is_text", "digits", "check_of", "_law_cell_at", "_law_next", "_law_whole", "_law_signs", "_law_text", "_law_digits", "_law_check", "_law_refused"]
def loose : List Str := loose0
abbrev R : PySem.W.OpenRow := PySem.W.OpenLaw.row PySem.Challenge.rw_leafhouse_k02_checks
abbrev hk : PySem.W.Hook := hookX 4 xb fa fn
def ob (s : PySem.W.SharedT) : AlX := obsXG 4 xb fa fn (HandSHeadRun.getT s)
theorem ob_eq (s : PySem.W.SharedT) : ob s = hk.obs s.abs := obsXG_eq (HandSHeadRun.getT_eq s)
theorem run (w : World) : HandSHeadRun.RunEq R (PySem.W.view R.prog [23]) hk ob 3000 loose w := by
  intro os
  kernel_rfl
end K02
set_option Elab.async false
set_option linter.all false
set_option maxRecDepth 100000
set_option maxHeartbeats 4000000
/-! K02, the plain law. -/
namespace K02
open PySem PySem.Spec PyProof.Rows L2 LF
/-! ### the signs -/
def SL : List Nat := c_SIGNS.cps.toList
theorem c_tx : c_SIGNS = tx SL := tx_eta _
theorem is_whole_int (n : Int) (M : Mem) : f_is_whole [.int n] M = .ok (.bl true) M := rfl
def sgN (i : Int) : Nat := (atI SL i).getD 0
theorem sg_at {i : Int} (h0 : 0 ≤ i) (h1 : i < 64) : atI SL i = some (sgN i) := by
  have e : i = ((i.toNat : Nat) : Int) := by omega
  have hk : i.toNat < 64 := by omega
  generalize i.toNat = k at e hk
  subst e
  have : ∀ k : Fin 64, (atI SL ((k.val : Nat) : Int)) = some (sgN ((k.val : Nat) : Int)) := by decide +kernel
  exact this ⟨k, hk⟩
theorem sg_mem {i : Int} (h0 : 0 ≤ i) (h1 : i < 64) : sgN i ∈ SL ∧ ((SL.idxOf (sgN i) : Nat) : Int) = i := by
  have e : i = ((i.toNat : Nat) : Int) := by omega
  have hk : i.toNat < 64 := by omega
  generalize i.toNat = k at e hk
  subst e
  have : ∀ k : Fin 64, sgN ((k.val : Nat) : Int) ∈ SL ∧ ((SL.idxOf (sgN ((k.val : Nat) : Int)) : Nat) : Int) = ((k.val : Nat) : Int) := by decide +kernel
  exact this ⟨k, hk⟩
theorem sg_lt {c : Nat} (h : c ∈ SL) : c < 1114112 := by
  have : ∀ c ∈ SL, c < 1114112 := by decide +kernel
  exact this c h
theorem sg_ix {i : Int} {M : Mem} (h0 : 0 ≤ i) (h1 : i < 64) : fIx (.str c_SIGNS) (.int i) M = .ok (.str (tx [sgN i])) M := fIx_str (by decide +kernel) (sg_at h0 h1)
theorem sg_ixm (M : Mem) (x : Int) : fIx (.str c_SIGNS) (.int (x % 64)) M = .ok (.str (tx [sgN (x % 64)])) M := sg_ix (by omega) (by omega)
def digL (m : Int) (n : Int) : List Nat := if m = 1 then [sgN (n % 64)] else if m = 2 then [sgN (n / 64 % 64), sgN (n % 64)] else [sgN (n / 4096 % 64), sgN (n / 64 % 64), sgN (n % 64)]
theorem digits_ok (n m : Int) (M : Mem) (hm : m = 1 ∨ m = 2 ∨ m = 3) (h0 : 0 ≤ n) (h : n / 2 ^ (6 * m.toNat) = 0) : f_digits [.int n, .int m] M = .ok (.str (tx (digL m n))) M := by
  have h1 : ¬ n < 0 := by omega
  have e1 : (irng 0 1).reverse = [.int 0] := rfl
  have e2 : (irng 0 2).reverse = [.int 1, .int 0] := rfl
  have e3 : (irng 0 3).reverse = [.int 2, .int 1, .int 0] := rfl
  have b1 := fun a => mJoin_tx (l := [a]) (M := M) (by simp)
  have b2 := fun a b => mJoin_tx (l := [a, b]) (M := M) (by simp)
  have b3 := fun a b c => mJoin_tx (l := [a, b, c]) (M := M) (by simp)
  simp only [List.map_cons, List.map_nil] at b1 b2 b3
  rcases hm with rfl | rfl | rfl <;> simp at h <;> simp [f_digits, b_digits, c1_digits, runB_ev, is_whole_int, fMulX_l, decide_eq_false h1, h, e1, e2, e3, bitAnd_m6, sg_ixm, tx_empty, b1, b2, b3, digL]
theorem ldigits_ok (n m : Int) (M : Mem) (hm : m = 1 ∨ m = 2 ∨ m = 3) : f__law_digits [.int n, .int m] M = .ok (.str (tx (digL m n))) M := by
  have e1 : irng 0 1 = [.int 0] := rfl
  have e2 : irng 0 2 = [.int 0, .int 1] := rfl
  have e3 : irng 0 3 = [.int 0, .int 1, .int 2] := rfl
  have b : ∀ (M : Mem) (x : Int), fIx (.str (Str.ofString "0123456789abcdefghijklmnopqrstuvwxyzABCDEFGHIJKLMNOPQRSTUVWXYZ+-")) (.int (x % 64)) M = .ok (.str (tx [sgN (x % 64)])) M := sg_ixm
  have d : ∀ x : Int, x / 64 / 64 = x / 4096 := fun x => by omega
  rcases hm with rfl | rfl | rfl <;> simp [f__law_digits, b__law_digits, l1__law_digits, runB_ev, e1, e2, e3, b, tx_empty, fAdd_tx, digL, d]
/-! ### the law's own text -/
def ALs : Str := ((" !\"#$&'()*+,-./:;<=>?\x40[\\]^_`{|}~" : Str) ++ ("0123456789abcdefghijklmnopqrstuvwxyzABCDEFGHIJKLMNOPQRSTUVWXYZ" : Str))
def AL : List Nat := ALs.cps.toList
theorem lsigns (M : Mem) : f__law_signs [] M = .ok (.str (tx AL)) M := by
  simp [f__law_signs, b__law_signs, runB_ev]
  rw [fAdd_str (by decide +kernel)]
  have e : tx AL = ALs := (tx_eta ALs).symm
  rw [e]
  simp [ALs]
theorem al_at {i : Int} (h0 : 0 ≤ i) (h1 : i < 94) : ∃ c, atI AL i = some c ∧ c ∈ AL := by
  have e : i = ((i.toNat : Nat) : Int) := by omega
  have hk : i.toNat < 94 := by omega
  generalize i.toNat = k at e hk
  subst e
  have : ∀ k : Fin 94, ∃ c, atI AL ((k.val : Nat) : Int) = some c ∧ c ∈ AL := by
    intro k
    refine ⟨(atI AL ((k.val : Nat) : Int)).getD 0, ?_⟩
    revert k
    decide +kernel
  exact this ⟨k, hk⟩
theorem al_len : AL.length = 94 := by decide +kernel
theorem ltext (nn sz : Int) (M : Mem) (h0 : 0 ≤ sz) (h1 : sz < 1000) : ∃ l : List Nat, l.length = sz.toNat ∧ (∀ c ∈ l, c ∈ AL) ∧ f__law_text [.int nn, .int sz] M = .ok (.str (tx l)) M := by
  have hx : ∀ x : Int, ∃ c, atI AL (x % 94) = some c ∧ c ∈ AL := fun x => al_at (by omega) (by omega)
  have key : ∀ ks : List Int, (∀ k ∈ ks, 0 ≤ k ∧ k < 1000) → ∃ l : List Nat, l.length = ks.length ∧ (∀ c ∈ l, c ∈ AL) ∧
      ∀ acc : List D, acc.length + ks.length ≤ 100000 → compL anyM (gSlot 4) dYes c1__law_text
        [some (.int nn), some (.int sz), some (.str (tx AL)), some (.int 94), none] (ks.map .int) acc M = .ok (acc ++ l.map fun c => .str (tx [c])) M := by
    intro ks
    induction ks with
    | nil => exact fun _ => ⟨[], rfl, by simp, by simp⟩
    | cons k ks ih =>
      intro hk
      obtain ⟨l, e1, e2, e3⟩ := ih fun x hx => hk x (List.mem_cons_of_mem _ hx)
      obtain ⟨k0, k1⟩ := hk k List.mem_cons_self
      obtain ⟨c, c1, c2⟩ := hx (nn / 7 + 13 * k * k + 5 * k)
      refine ⟨c :: l, by simp [e1], by simpa [c2] using e2, fun acc hl => ?_⟩
      rw [List.length_cons] at hl
      have f := fIx_tx (M := M) (l := AL) (by rw [al_len]; omega) c1
      have m1 : ∀ y : Int, fMulX (.int y) (.int k) M = .ok (.int (y * k)) M := fun y => fMulX_r (by omega) (by omega)
      have ev : c1__law_text [some (.int nn), some (.int sz), some (.str (tx AL)), some (.int 94), some (.int k)] M = .ok (.str (tx [c])) M := by
        simp only [c1__law_text, dBin_ev, dVar_ev, dC_ev, List.getElem?_cons_succ, List.getElem?_cons_zero, binK1_ok, binK2_ok, m1, fAdd_int, fFdiv_int (show (0 : Int) < 7 by omega) (show (7 : Int) < 1073741824 by omega), fMod_int (show (0 : Int) < 94 by omega), f]
      simp only [List.map_cons, compL_consA, gSlot_ev, List.set_cons_succ, List.set_cons_zero, cmpK1_ok, dYes_ev, cmpK2_t, ev]
      rw [cmpK3_ok (by omega), e3 _ (by simp; omega)]
      simp
  have hi : irng 0 sz.toNat = ((List.range sz.toNat).map fun i : Nat => (i : Int)).map .int := by
    unfold irng
    rw [List.map_map]
    exact List.map_congr_left fun i _ => by simp
  obtain ⟨l, e1, e2, e3⟩ := key ((List.range sz.toNat).map fun i : Nat => (i : Int)) (fun k hk => by
    obtain ⟨i, hi, rfl⟩ := List.mem_map.mp hk
    have := List.mem_range.mp hi
    omega)
  refine ⟨l, by simpa using e1, e2, ?_⟩
  have hl : l.length ≤ 100000 := by rw [e1]; simp; omega
  have q := e3 [] (by simp; omega)
  rw [← hi, List.nil_append] at q
  simp [f__law_text, b__law_text, runB_ev, lsigns, fLen_tx (l := AL) (show AL.length ≤ 100000 by rw [al_len]; omega), al_len, itR1K_ok (show (-4611686018427387904 : Int) ≤ sz by omega) (show sz < 4611686018427387904 by omega), q, tx_empty, mJoin_tx hl]
/-! ### the law's numbers -/
def St (cs : D) (k : Int) : Mem := [.dic [(.inr "cells", cs), (.inr "at", .int k)]]
theorem cell_at (ns : List Int) (k : Int) (M : Mem) (h0 : 0 ≤ k) : ∃ c : Int, f__law_cell_at [.lst (ns.map .int), .int k] M = .ok (.int c) M := by
  by_cases h : k < ns.length
  · obtain ⟨j, rfl⟩ : ∃ j : Nat, k = j := ⟨k.toNat, by omega⟩
    have hk : j < ns.length := by omega
    have a : atI (ns.map D.int) (j : Int) = some (.int (ns[j]'hk)) := L2.atI_nat (by simp [hk])
    exact ⟨ns[j]'hk, by simp [f__law_cell_at, b__law_cell_at, runB_ev, hk, fIx_lst a]⟩
  · exact ⟨0, by simp [f__law_cell_at, b__law_cell_at, runB_ev, decide_eq_false h]⟩
theorem lnext (ns : List Int) (k : Int) (h0 : 0 ≤ k) (h1 : k < 1000) : ∃ nn : Int, 0 ≤ nn ∧ nn < 268435456 ∧ f__law_next [.obj 0] (St (.lst (ns.map .int)) k) = .ok (.int nn) (St (.lst (ns.map .int)) (k + 1)) := by
  obtain ⟨mx, e, hp⟩ : ∃ mx : Int, (if 1 < (ns.length : Int) then (ns.length : Int) else 1) = mx ∧ 0 < mx := ⟨_, rfl, by split <;> omega⟩
  obtain ⟨c, hc⟩ := cell_at ns ((k + 1) % mx) (St (.lst (ns.map .int)) (k + 1)) (Int.emod_nonneg _ (by omega))
  refine ⟨(c * 48271 + (k + 1) * (k + 1) * 69621) % 2147483647 / 8, by omega, by omega, ?_⟩
  have g1 : fDGet (.obj 0) (.str "at") (St (.lst (ns.map .int)) k) = .ok (.int k) (St (.lst (ns.map .int)) k) := fDGet_of (k := .inr "at") rfl rfl rfl
  have g2 : fDGet (.obj 0) (.str "at") (St (.lst (ns.map .int)) (k + 1)) = .ok (.int (k + 1)) (St (.lst (ns.map .int)) (k + 1)) := fDGet_of (k := .inr "at") rfl rfl rfl
  have g3 : fDGet (.obj 0) (.str "cells") (St (.lst (ns.map .int)) (k + 1)) = .ok (.lst (ns.map .int)) (St (.lst (ns.map .int)) (k + 1)) := fDGet_of (k := .inr "cells") rfl rfl rfl
  have p1 : ∀ r, putAt (.obj 0) (.str "at") (.int (k + 1)) r (St (.lst (ns.map .int)) k) = .nx r (St (.lst (ns.map .int)) (k + 1)) := fun r => putAt_of (k := .inr "at") (kvs := [(.inr "cells", .lst (ns.map .int)), (.inr "at", .int k)]) rfl rfl (by simp)
  have m1 : ∀ (y : Int) (M : Mem), fMulX (.int y) (.int (k + 1)) M = .ok (.int (y * (k + 1))) M := fun y M => fMulX_r (by omega) (by omega)
  have m2 : ∀ (y : Int) (M : Mem), fMulX (.int y) (.int 48271) M = .ok (.int (y * 48271)) M := fun y M => fMulX_r (by omega) (by omega)
  have m3 : ∀ (y : Int) (M : Mem), fMulX (.int y) (.int 69621) M = .ok (.int (y * 69621)) M := fun y M => fMulX_r (by omega) (by omega)
  simp [f__law_next, b__law_next, runB_ev, g1, g2, g3, p1, m1, m2, m3, e, fMod_int hp, hc]
end K02
set_option Elab.async false
set_option linter.all false
set_option maxRecDepth 100000
set_option maxHeartbeats 4000000
/-! K02: the checks. -/
namespace K02
open PySem PySem.Spec PyProof.Rows L2 LF
/-! ### good signs -/
def okc (c : Nat) : Bool := decide (32 ≤ c) && (decide (c ≤ 126) && !decide (c = 37))
theorem al_ok {c : Nat} (h : c ∈ AL) : okc c = true ∧ c < 128 := by
  have : ∀ c ∈ AL, okc c = true ∧ c < 128 := by decide +kernel
  exact this c h
theorem chain_ev (c : Nat) (M : Mem) (r : Env') (x0 : D) (y : Option D) : c1_is_text [some x0, some (.str (tx [c]))] M = .ok (.bl (okc c)) M := by
  have e1 : Str.ofString " " = tx [32] := by rw [tx_lit]; rfl
  have e2 : Str.ofString "~" = tx [126] := by rw [tx_lit]; rfl
  have n1 : decide (c < 32) = !decide (32 ≤ c) := by
    by_cases h : c < 32
    · rw [decide_eq_true h, decide_eq_false (by omega)]; rfl
    · rw [decide_eq_false h, decide_eq_true (by omega)]; rfl
  have n2 : decide (126 < c) = !decide (c ≤ 126) := by
    by_cases h : 126 < c
    · rw [decide_eq_true h, decide_eq_false (by omega)]; rfl
    · rw [decide_eq_false h, decide_eq_true (by omega)]; rfl
  have n3 : decide ((c : Int) = 37) = decide (c = 37) := decide_eq_decide.mpr (by omega)
  unfold okc
  cases h1 : decide (32 ≤ c) with
  | false => simp [c1_is_text, e1, e2, strLt_one, n1, h1]
  | true =>
    cases h2 : decide (c ≤ 126) with
    | false => simp [c1_is_text, e1, e2, strLt_one, n1, n2, h1, h2]
    | true => simp [c1_is_text, e1, e2, strLt_one, n1, n2, h1, h2, n3]
theorem text_comp (M : Mem) (x0 : D) : ∀ (l : List Nat) (acc : List D), acc.length + l.length ≤ 100000 →
    compL anyM (gSlot 1) dYes c1_is_text [some x0, none] (l.map fun c => .str (tx [c])) acc M = .ok (acc ++ l.map fun c => .bl (okc c)) M
  | [], acc, _ => by simp
  | c :: l, acc, h => by
    rw [List.length_cons] at h
    have ih := text_comp M x0 l (acc ++ [.bl (okc c)]) (by simp; omega)
    simp only [List.map_cons, compL_consA, gSlot_ev, List.set_cons_succ, List.set_cons_zero, cmpK1_ok, dYes_ev, cmpK2_t]
    rw [chain_ev c M [] x0 none, cmpK3_ok (by omega), ih]
    simp
theorem is_text_tx (l : List Nat) (M : Mem) (h : l.length ≤ 100000) : f_is_text [.str (tx l)] M = .ok (.bl (l.all okc)) M := by
  have c := text_comp M (.str (tx l)) l [] (by simpa using h)
  rw [List.nil_append] at c
  have a := fAll_of (M := M) (blsOf_map (f := okc) l)
  simp only [f_is_text, b_is_text, runB_ev, List.map_cons, List.map_nil, List.length_cons, List.length_nil]
  simp [signs_tx, c, a]
/-! ### the sum -/
def wS : Nat → List Nat → Int
  | _, [] => 0
  | k, c :: l => ((c : Int) - 31) * ((k : Int) + 1) + wS (k + 1) l
theorem wS_app : ∀ (a b : List Nat) (k : Nat), wS k (a ++ b) = wS k a + wS (k + a.length) b
  | [], b, k => by simp [wS]
  | c :: a, b, k => by
    rw [List.cons_append, wS, wS, wS_app a b (k + 1), List.length_cons, show k + 1 + a.length = k + (a.length + 1) by omega]
    omega
theorem chk_loop (M : Mem) (x0 : Option D) : ∀ (l : List Nat) (n : Nat) (a : Int) (x2 x3 : Option D), n + l.length ≤ 100000 → ∃ y2 y3, forL anyM (gTupD 2 (gsCons (gSlot 2) (gsCons (gSlot 3) gsNil))) l1_check_of ((l.zipIdx n).map fun ci => .tup [.int (ci.2 : Nat), .str (tx [ci.1])]) [x0, some (.int a), x2, x3] M = .nx [x0, some (.int (a + wS n l)), y2, y3] M
  | [], n, a, x2, x3, _ => ⟨x2, x3, by simp [wS]⟩
  | c :: l, n, a, x2, x3, h => by
    rw [List.length_cons] at h
    obtain ⟨y2, y3, ih⟩ := chk_loop M x0 l (n + 1) (a + ((c : Int) - 31) * ((n : Int) + 1)) (some (.int (n : Nat))) (some (.str (tx [c]))) (by omega)
    refine ⟨y2, y3, ?_⟩
    have m : ∀ y : Int, fMulX (.int y) (.int ((n : Int) + 1)) M = .ok (.int (y * ((n : Int) + 1))) M := fun y => fMulX_r (by omega) (by omega)
    have ev : l1_check_of [x0, some (.int a), some (.int (n : Nat)), some (.str (tx [c]))] M = .nx [x0, some (.int (a + ((c : Int) - 31) * ((n : Int) + 1))), some (.int (n : Nat)), some (.str (tx [c]))] M := by
      simp [l1_check_of, dAug_ev, m]
    simp [ev, ih, wS, Int.add_assoc]
theorem digits2 (w : Int) (M : Mem) : f_digits [.int (w % 4093), .int 2] M = .ok (.str (tx (digL 2 (w % 4093)))) M := by
  have h : w % 4093 < 4093 := Int.emod_lt_of_pos _ (by decide)
  exact digits_ok _ _ M (.inr (.inl rfl)) (by omega) (Int.ediv_eq_zero_of_lt (by omega) (show w % 4093 < 4096 by omega))
theorem check_ok (l : List Nat) (M : Mem) (h : l.length ≤ 1000) (ho : l.all okc = true) : f_check_of [.str (tx l)] M = .ok (.str (tx (digL 2 (wS 0 l % 4093)))) M := by
  obtain ⟨y2, y3, q⟩ := chk_loop M (some (.str (tx l))) l 0 0 none none (by omega)
  rw [Int.zero_add] at q
  simp [f_check_of, b_check_of, runB_ev, is_text_tx l M (by omega), ho, pairs_tx, q, digits2]
theorem check_bad (d : D) (M : Mem) (h : f_is_text [d] M = .ok (.bl false) M) : f_check_of [d] M = .ex ⟨"BadText", [], []⟩ M := by
  simp [f_check_of, b_check_of, runB_ev, h]
theorem refused_ok (d : D) (M : Mem) (h : f_is_text [d] M = .ok (.bl false) M) : f__law_refused [d] M = .ok (.bl true) M := by
  simp [f__law_refused, b__law_refused, runB_ev, check_bad d M h, tryK_yes (e := ⟨"BadText", [], []⟩) (isa := exX xtab "TableError") (by decide +kernel), isK_exc (isa := isX xtab ["BadText"]) (c := "BadText") (q := true) (by decide +kernel), isK_exc (isa := isXv xtab) (c := "BadText") (q := true) (by decide +kernel)]
end K02
set_option Elab.async false
set_option linter.all false
set_option maxRecDepth 100000
set_option maxHeartbeats 4000000
/-! K02: the law's own check, the law. -/
namespace K02
open PySem PySem.Spec PyProof.Rows L2 LF
def OLs : Str := (" !\"\x23$?&'()*+,-./0123456789:;<=>?\x40ABCDEFGHIJKLMNOPQRSTUVWXYZ[\\]^_`abcdefghijklmnopqrstuvwxyz{|}~" : Str)
def OL : List Nat := OLs.cps.toList
theorem ol_tx : OLs = tx OL := tx_eta _
theorem ol_find {c : Nat} (h : c ∈ AL) (n : c ≠ 63) : Txt.find OLs (tx [c]) = (c : Int) - 32 := by
  have : ∀ c ∈ AL, c ≠ 63 → (if c ∈ OL then (OL.idxOf c : Int) else -1) = (c : Int) - 32 := by decide +kernel
  rw [ol_tx, find_tx]
  exact this c h n
theorem ol_rfind : Txt.rfind OLs (tx [63]) = 31 := by
  have nx : ∀ k, OL[k]? = some 63 → k ≤ 31 := by
    intro k hk
    have hl : k < 95 := by
      have := (List.getElem?_eq_some_iff.mp hk).1
      have e : OL.length = 95 := by decide +kernel
      omega
    have : ∀ k : Fin 95, OL[k.val]? = some 63 → k.val ≤ 31 := by decide +kernel
    exact this ⟨k, hl⟩ hk
  have h31 : OL[31]? = some 63 := by decide +kernel
  rw [ol_tx]
  rcases rfind_whole (tx OL) (tx [63]) with ⟨_, h⟩ | ⟨i, e, h1, h2⟩
  · exact absurd (at_one.mpr h31) (h 31)
  · have k1 := nx i (at_one.mp h1)
    have k2 : ¬ i < 31 := fun z => h2 31 z (at_one.mpr h31)
    rw [e]
    omega
theorem lchk_loop (M : Mem) (l : List Nat) (hl : l.length ≤ 1000) : ∀ (suf pre : List Nat) (a : Int) (x3 x4 x5 : Option D), l = pre ++ suf → (∀ c ∈ suf, c ∈ AL) → ∃ y3 y4 y5,
    forL anyM (gSlot 3) l1__law_check (irng (pre.length : Nat) suf.length) [some (.str (tx l)), some (.str OLs), some (.int a), x3, x4, x5] M = .nx [some (.str (tx l)), some (.str OLs), some (.int (a + wS pre.length suf)), y3, y4, y5] M
  | [], pre, a, x3, x4, x5, _, _ => ⟨x3, x4, x5, by simp [wS, irng]⟩
  | c :: suf, pre, a, x3, x4, x5, e, hc => by
    have hcm := hc c List.mem_cons_self
    obtain ⟨y3, y4, y5, ih⟩ := lchk_loop M l hl suf (pre ++ [c]) (a + ((c : Int) - 31) * ((pre.length : Int) + 1)) (some (.int pre.length)) (some (.str (tx [c]))) (some (.int ((c : Int) - 32))) (by rw [e]; simp) fun d hd => hc d (List.mem_cons_of_mem _ hd)
    refine ⟨y3, y4, y5, ?_⟩
    have lp : pre.length < 1000 := by
      have := congrArg List.length e
      simp at this
      omega
    have m : ∀ y : Int, fMulX (.int y) (.int ((pre.length : Int) + 1)) M = .ok (.int (y * ((pre.length : Int) + 1))) M := fun y => fMulX_r (by omega) (by omega)
    have ix : fIx (.str (tx l)) (.int (pre.length : Nat)) M = .ok (.str (tx [c])) M := fIx_tx (by omega) (L2.atI_nat (by rw [e]; simp))
    have sc : PyData.strOk (tx [c]) = true := by
      rw [strOk_tx]
      have := (al_ok hcm).2
      simp
      omega
    have sq : PyData.strOk (Str.ofString "?") = true := by decide +kernel
    have q63 : (Str.ofString "?") = tx [63] := by rw [tx_lit]; rfl
    have eqq : fEq (.str (tx [c])) (.str (Str.ofString "?")) M = .ok (.bl (decide (c = 63))) M := by
      rw [fEq_str sc sq, q63, tx_beq]
      congr 2
      by_cases h : c = 63
      · subst h; rfl
      · rw [decide_eq_false h]; simp [h]
    rw [List.length_cons, irng_one]
    have ev : l1__law_check [some (.str (tx l)), some (.str OLs), some (.int a), some (.int (pre.length : Nat)), x4, x5] M = .nx [some (.str (tx l)), some (.str OLs), some (.int (a + ((c : Int) - 31) * ((pre.length : Int) + 1))), some (.int (pre.length : Nat)), some (.str (tx [c])), some (.int ((c : Int) - 32))] M := by
      by_cases h : c = 63
      · subst h
        simp [l1__law_check, ix, eqq, m, ol_rfind]
      · have z : (c : Int) - 32 + 1 = (c : Int) - 31 := by omega
        simp [l1__law_check, ix, eqq, decide_eq_false h, m, ol_find hcm h, z]
    have q : ((pre ++ [c]).length : Nat) = pre.length + 1 := by simp
    rw [q] at ih
    rw [forL_consA, gSlot_ev, forK1_ok]
    simp only [List.set_cons_succ, List.set_cons_zero]
    rw [ev, forK2_nx, show ((pre.length : Int) + 1) = ((pre.length + 1 : Nat) : Int) by omega] at *
    rw [ih, wS]
    simp [Int.add_assoc]
end K02
set_option Elab.async false
set_option linter.all false
set_option maxRecDepth 100000
set_option maxHeartbeats 4000000
/-! K02: sums that differ. -/
namespace K02
open PySem PySem.Spec PyProof.Rows L2 LF
theorem lcheck_ok (l : List Nat) (M : Mem) (hl : l.length ≤ 1000) (hc : ∀ c ∈ l, c ∈ AL) : f__law_check [.str (tx l)] M = .ok (.str (tx (digL 2 (wS 0 l % 4093)))) M := by
  obtain ⟨y3, y4, y5, q⟩ := lchk_loop M l hl l [] 0 none none none rfl hc
  rw [Int.zero_add] at q
  have q : forL anyM (gSlot 3) l1__law_check (irng 0 l.length) [some (.str (tx l)), some (.str (Str.ofString " !\"\x23$?&'()*+,-./0123456789:;<=>?\x40ABCDEFGHIJKLMNOPQRSTUVWXYZ[\\]^_`abcdefghijklmnopqrstuvwxyz{|}~")), some (.int 0), none, none, none] M = .nx [some (.str (tx l)), some (.str OLs), some (.int (wS 0 l)), y3, y4, y5] M := q
  simp [f__law_check, b__law_check, runB_ev, fLen_tx (l := l) (show l.length ≤ 100000 by omega), itR1K_ok (show (-4611686018427387904 : Int) ≤ (l.length : Nat) by omega) (show ((l.length : Nat) : Int) < 4611686018427387904 by omega), q, ldigits_ok _ 2 M (.inr (.inl rfl))]
theorem sg_inj {i j : Int} (h0 : 0 ≤ i) (h1 : i < 64) (k0 : 0 ≤ j) (k1 : j < 64) (h : sgN i = sgN j) : i = j := by
  have a := (sg_mem h0 h1).2
  have b := (sg_mem k0 k1).2
  rw [h] at a
  omega
theorem dig_inj {a b : Int} (a0 : 0 ≤ a) (a1 : a < 4093) (b0 : 0 ≤ b) (b1 : b < 4093) (h : digL 2 a = digL 2 b) : a = b := by
  have h : [sgN (a / 64 % 64), sgN (a % 64)] = [sgN (b / 64 % 64), sgN (b % 64)] := h
  injection h with h1 h2
  injection h2 with h2 _
  have p := sg_inj (by omega) (by omega) (by omega) (by omega) h1
  have q := sg_inj (by omega) (by omega) (by omega) (by omega) h2
  omega
theorem mod_tab : ∀ d : Fin 95, ∀ k : Fin 250, d.val ≠ 0 → k.val ≠ 0 → (d.val * k.val) % 4093 ≠ 0 := by decide +kernel
theorem mod_ne {d : Int} {k : Nat} (hd : d ≠ 0) (h1 : -95 < d) (h2 : d < 95) (k0 : k ≠ 0) (k1 : k < 250) : (d * (k : Int)) % 4093 ≠ 0 := by
  intro z
  rcases Int.le_total 0 d with h | h
  · obtain ⟨n, rfl⟩ : ∃ n : Nat, d = n := ⟨d.toNat, by omega⟩
    refine mod_tab ⟨n, by omega⟩ ⟨k, k1⟩ (by simpa using (show n ≠ 0 by omega)) k0 ?_
    show n * k % 4093 = 0
    have : ((n * k : Nat) : Int) % 4093 = 0 := by rw [Int.natCast_mul]; exact z
    omega
  · obtain ⟨n, rfl⟩ : ∃ n : Nat, d = -(n : Int) := ⟨(-d).toNat, by omega⟩
    refine mod_tab ⟨n, by omega⟩ ⟨k, k1⟩ (by simpa using (show n ≠ 0 by omega)) k0 ?_
    show n * k % 4093 = 0
    have : ((n * k : Nat) : Int) % 4093 = 0 := by
      rw [Int.natCast_mul]
      rw [Int.neg_mul] at z
      omega
    omega
theorem al_bd {c : Nat} (h : c ∈ AL) : 32 ≤ c ∧ c ≤ 126 := by
  have := (al_ok h).1
  unfold okc at this
  simp only [Bool.and_eq_true, decide_eq_true_eq] at this
  omega
/-- another sign at a place -/
theorem bent1 {p s : List Nat} {a o : Nat} (ha : a ∈ AL) (ho : o ∈ AL) (n : o ≠ a) (hp : p.length < 249) : digL 2 (wS 0 (p ++ o :: s) % 4093) ≠ digL 2 (wS 0 (p ++ a :: s) % 4093) := by
  intro h
  have e := dig_inj (Int.emod_nonneg _ (by decide)) (Int.emod_lt_of_pos _ (by decide)) (Int.emod_nonneg _ (by decide)) (Int.emod_lt_of_pos _ (by decide)) h
  rw [wS_app, wS_app, wS, wS] at e
  have z : ((o : Int) - 31) * (((0 + p.length : Nat) : Int) + 1) = ((a : Int) - 31) * (((0 + p.length : Nat) : Int) + 1) + ((o : Int) - a) * ((p.length + 1 : Nat) : Int) := by
    have q : (((0 + p.length : Nat) : Int) + 1) = ((p.length + 1 : Nat) : Int) := by omega
    rw [q, ← Int.add_mul]
    congr 1
    omega
  rw [z] at e
  have b1 := al_bd ha
  have b2 := al_bd ho
  have ne := mod_ne (d := (o : Int) - a) (k := p.length + 1) (by omega) (by omega) (by omega) (by omega) (by omega)
  omega
/-- two neighbours exchanged -/
theorem bent2 {p s : List Nat} {a b : Nat} (ha : a ∈ AL) (hb : b ∈ AL) (n : a ≠ b) : digL 2 (wS 0 (p ++ b :: a :: s) % 4093) ≠ digL 2 (wS 0 (p ++ a :: b :: s) % 4093) := by
  intro h
  have e := dig_inj (Int.emod_nonneg _ (by decide)) (Int.emod_lt_of_pos _ (by decide)) (Int.emod_nonneg _ (by decide)) (Int.emod_lt_of_pos _ (by decide)) h
  rw [wS_app, wS_app, wS, wS, wS, wS] at e
  have b1 := al_bd ha
  have b2 := al_bd hb
  generalize p.length = k at e
  have z : ((b : Int) - 31) * (((0 + k : Nat) : Int) + 1) + ((a : Int) - 31) * (((0 + k + 1 : Nat) : Int) + 1) = ((a : Int) - 31) * (((0 + k : Nat) : Int) + 1) + ((b : Int) - 31) * (((0 + k + 1 : Nat) : Int) + 1) + ((a : Int) - b) := by
    have q : (((0 + k + 1 : Nat) : Int) + 1) = (((0 + k : Nat) : Int) + 1) + 1 := by omega
    rw [q]
    generalize (((0 + k : Nat) : Int) + 1) = t
    rw [Int.mul_add ((a : Int) - 31) t 1, Int.mul_add ((b : Int) - 31) t 1, Int.mul_one, Int.mul_one]
    omega
  omega
end K02
set_option Elab.async false
set_option linter.all false
set_option maxRecDepth 100000
set_option maxHeartbeats 8000000
/-! K02: the law. -/
namespace K02
open PySem PySem.Spec PyProof.Rows L2 LF
theorem atI_some {α : Type} (l : List α) (i : Int) (h0 : 0 ≤ i) (h1 : i < l.length) : ∃ x ∈ l, atI l i = some x := by
  obtain ⟨j, rfl⟩ : ∃ j : Nat, i = j := ⟨i.toNat, by omega⟩
  have hj : j < l.length := by omega
  exact ⟨l[j], List.getElem_mem hj, L2.atI_nat (List.getElem?_eq_getElem hj)⟩
theorem is_text_str (s : String) (M : Mem) (h : ((s.toList.map Char.toNat).all okc) = false) (hl : (s.toList.map Char.toNat).length ≤ 100000) : f_is_text [.str (Str.ofString s)] M = .ok (.bl false) M := by
  rw [tx_lit, is_text_tx _ M hl, h]
theorem odd1 (l : List Nat) (i : Int) (M : Mem) (hl : l.length ≤ 1000) (h0 : 0 ≤ i) (h1 : i < 9) : ∃ a, fIx (.lst [.non, .int 5, .lst [.str "a"], .bl true, .tup [.str "a"], .dic [] [], .str "a\n", .str "\t", .str (tx (l ++ [10]))]) (.int i) M = .ok a M ∧ f__law_refused [a] M = .ok (.bl true) M := by
  obtain ⟨x, hx, e⟩ := atI_some [D.non, .int 5, .lst [.str "a"], .bl true, .tup [.str "a"], .dic [] [], .str "a\n", .str "\t", .str (tx (l ++ [10]))] i h0 (by simpa using h1)
  have f := fIx_lst (M := M) e
  simp only [List.mem_cons, List.mem_nil_iff, or_false] at hx
  refine ⟨x, f, refused_ok x M ?_⟩
  rcases hx with rfl | rfl | rfl | rfl | rfl | rfl | rfl | rfl | rfl
  · rfl
  · rfl
  · rfl
  · rfl
  · rfl
  · rfl
  · exact is_text_str "a\n" M (by decide) (by decide)
  · exact is_text_str "\t" M (by decide) (by decide)
  · rw [is_text_tx _ M (by simp; omega), List.all_append]
    have : okc 10 = false := by decide
    simp [this]
theorem size1 (nn : Int) (M : Mem) (h : 0 ≤ nn) : ∃ sz : Int, fIx (.lst [.int (nn / 4 % 12), .int (nn / 4 % 211), .int (64 + nn / 4 % 140), .int 0]) (.int (nn % 4)) M = .ok (.int sz) M ∧ 0 ≤ sz ∧ sz ≤ 210 := by
  obtain ⟨x, hx, e⟩ := atI_some [D.int (nn / 4 % 12), .int (nn / 4 % 211), .int (64 + nn / 4 % 140), .int 0] (nn % 4) (by omega) (by simp; omega)
  have f := fIx_lst (M := M) e
  simp only [List.mem_cons, List.mem_nil_iff, or_false] at hx
  rcases hx with rfl | rfl | rfl | rfl
  · exact ⟨_, f, by omega, by omega⟩
  · exact ⟨_, f, by omega, by omega⟩
  · exact ⟨_, f, by omega, by omega⟩
  · exact ⟨_, f, by omega, by omega⟩
theorem strOk_dig (m n : Int) : PyData.strOk (tx (digL m n)) = true := by
  rw [strOk_tx, List.all_eq_true]
  have a := (sg_mem (i := n % 64) (by omega) (by omega)).1
  have b := (sg_mem (i := n / 64 % 64) (by omega) (by omega)).1
  have c := (sg_mem (i := n / 4096 % 64) (by omega) (by omega)).1
  intro d hd
  refine decide_eq_true (sg_lt ?_)
  unfold digL at hd
  split at hd
  · simp only [List.mem_cons, List.mem_nil_iff, or_false] at hd
    rw [hd]; exact a
  · split at hd
    · simp only [List.mem_cons, List.mem_nil_iff, or_false] at hd
      rcases hd with rfl | rfl <;> assumption
    · simp only [List.mem_cons, List.mem_nil_iff, or_false] at hd
      rcases hd with rfl | rfl | rfl <;> assumption
theorem strOk_AL {l : List Nat} (h : ∀ c ∈ l, c ∈ AL) : PyData.strOk (tx l) = true := by
  rw [strOk_tx, List.all_eq_true]
  exact fun c hc => decide_eq_true (by have := (al_ok (h c hc)).2; omega)
/-- what the law finds of a text, by both -/
theorem chk (l : List Nat) (M : Mem) (hl : l.length ≤ 1000) (hc : ∀ c ∈ l, c ∈ AL) : f_check_of [.str (tx l)] M = .ok (.str (tx (digL 2 (wS 0 l % 4093)))) M ∧ f__law_check [.str (tx l)] M = .ok (.str (tx (digL 2 (wS 0 l % 4093)))) M :=
  ⟨check_ok l M hl (List.all_eq_true.mpr fun c h => (al_ok (hc c h)).1), lcheck_ok l M hl hc⟩
theorem neq_ev {a b : List Nat} {M : Mem} (h1 : PyData.strOk (tx a) = true) (h2 : PyData.strOk (tx b) = true) (h : a ≠ b) : fEq (.str (tx a)) (.str (tx b)) M = .ok (.bl false) M := by
  rw [fEq_str h1 h2, tx_beq, beq_eq_false_iff_ne.mpr h]
theorem nne_ev {a b : List Nat} {M : Mem} (h1 : PyData.strOk (tx a) = true) (h2 : PyData.strOk (tx b) = true) (h : a ≠ b) : fNe (.str (tx a)) (.str (tx b)) M = .ok (.bl true) M := by
  rw [fNe_str h1 h2, tx_beq, beq_eq_false_iff_ne.mpr h]
  rfl
theorem same_ev {a : List Nat} {M : Mem} (h1 : PyData.strOk (tx a) = true) : fNe (.str (tx a)) (.str (tx a)) M = .ok (.bl false) M := fNe_same (by simp [h1])
theorem al_nd : AL.Nodup := by decide +kernel
theorem other (a : Nat) (ha : a ∈ AL) (st : Int) (M : Mem) (h0 : 1 ≤ st) (h1 : st ≤ 93) : ∃ o ∈ AL, o ≠ a ∧ fIx (.str (tx AL)) (.int (((AL.idxOf a : Nat) + st) % 94)) M = .ok (.str (tx [o])) M := by
  have hi : AL.idxOf a < 94 := by
    have := List.idxOf_lt_length_of_mem ha
    rw [al_len] at this
    exact this
  obtain ⟨j, ej⟩ : ∃ j : Nat, ((AL.idxOf a : Nat) + st) % 94 = j := ⟨(((AL.idxOf a : Nat) + st) % 94).toNat, by omega⟩
  have hj : j < AL.length := by rw [al_len]; omega
  refine ⟨AL[j], List.getElem_mem hj, fun z => ?_, ?_⟩
  · have q : j = AL.idxOf a := by
      have h2 : AL[AL.idxOf a]'(by rw [al_len]; exact hi) = a := List.getElem_idxOf _
      exact (List.getElem_inj al_nd).mp (z.trans h2.symm)
    omega
  · rw [ej]
    exact fIx_tx (by rw [al_len]; omega) (L2.atI_nat (List.getElem?_eq_getElem hj))
end K02
set_option Elab.async false
set_option linter.all false
set_option maxRecDepth 100000
set_option maxHeartbeats 8000000
namespace K02
open PySem PySem.Spec PyProof.Rows L2 LF
theorem law_body (ns : List Int) (k : Int) (x0 x2 x3 x4 x5 x6 x7 x8 x9 x10 x11 x12 x13 x14 : Option D) (h0 : 0 ≤ k) (h1 : k < 1000) : ∃ y3 y4 y5 y6 y7 y8 y9 y10 y11 y12 y13 y14,
    l1_law [x0, some (.obj 0), x2, x3, x4, x5, x6, x7, x8, x9, x10, x11, x12, x13, x14] (St (.lst (ns.map .int)) k) = .nx [x0, some (.obj 0), x2, y3, y4, y5, y6, y7, y8, y9, y10, y11, y12, y13, y14] (St (.lst (ns.map .int)) (k + 1)) := by
  obtain ⟨nn, n0, n1, hn⟩ := lnext ns k h0 h1
  generalize St (.lst (ns.map .int)) (k + 1) = M at hn ⊢
  obtain ⟨sz, hsz, z0, z1⟩ := size1 nn M n0
  obtain ⟨l, hl, hc, ht⟩ := ltext (nn / 3) sz M z0 (by omega)
  have hlen : l.length ≤ 1000 := by omega
  obtain ⟨ck, lk⟩ := chk l M hlen hc
  have s1 : PyData.strOk (tx (digL 2 (wS 0 l % 4093))) = true := strOk_dig _ _
  have sm := same_ev (M := M) s1
  obtain ⟨oa, ho1, ho2⟩ := odd1 l (nn / 5 % 9) M hlen (by omega) (by omega)
  have nl : fAdd (.str (tx l)) (.str "\n") M = .ok (.str (tx (l ++ [10]))) M := by
    rw [show (Str.ofString "\n") = tx [10] by rw [tx_lit]; rfl]
    exact fAdd_tx (by simp; omega)
  generalize l ++ [10] = l10 at ho1 nl
  have lA := fLen_tx (l := AL) (M := M) (by rw [al_len]; omega)
  rw [al_len] at lA
  by_cases hs : 1 < sz
  · obtain ⟨at_, eat⟩ : ∃ j : Nat, nn / 800 % (sz - 1) = j := ⟨(nn / 800 % (sz - 1)).toNat, by have := Int.emod_nonneg (nn / 800) (show sz - 1 ≠ 0 by omega); omega⟩
    have hat : at_ + 1 < l.length := by
      have := Int.emod_lt_of_pos (nn / 800) (show 0 < sz - 1 by omega)
      omega
    have modm : ∀ x : Int, fMod (.int x) (.int (sz - 1)) M = .ok (.int (x % (sz - 1))) M := fun x => fMod_int (by omega)
    obtain ⟨p, a, b, s, hp, rfl⟩ : ∃ p a b s, p.length = at_ ∧ l = p ++ a :: b :: s := by
      refine ⟨l.take at_, l[at_]'(by omega), l[at_ + 1]'hat, l.drop (at_ + 2), by rw [List.length_take]; omega, ?_⟩
      rw [← List.drop_eq_getElem_cons hat, ← List.drop_eq_getElem_cons (show at_ < l.length by omega), List.take_append_drop]
    subst hp
    have ha : a ∈ AL := hc a (by simp)
    have hb : b ∈ AL := hc b (by simp)
    have hpc : ∀ c ∈ p, c ∈ AL := fun c h => hc c (by simp [h])
    have hsc : ∀ c ∈ s, c ∈ AL := fun c h => hc c (by simp [h])
    simp only [List.length_append, List.length_cons] at hlen hl
    have ia : fIx (.str (tx (p ++ a :: b :: s))) (.int (p.length : Nat)) M = .ok (.str (tx [a])) M := fIx_tx (by simp; omega) (L2.atI_nat (by simp))
    have ib : fIx (.str (tx (p ++ a :: b :: s))) (.int ((p.length : Int) + 1)) M = .ok (.str (tx [b])) M := fIx_tx (by simp; omega) (by
      rw [show (p.length : Int) + 1 = ((p.length + 1 : Nat) : Int) by omega]
      exact L2.atI_nat (by simp))
    have c1 : fSl (.str (tx (p ++ a :: b :: s))) none (some (p.length : Int)) M = .ok (.str (tx p)) M := by
      rw [fSl_tx (by simp; omega), cutN_to (by simp), List.take_left]
    have c2 : fSl (.str (tx (p ++ a :: b :: s))) (some ((p.length : Int) + 1)) none M = .ok (.str (tx (b :: s))) M := by
      rw [fSl_tx (by simp; omega), show (p.length : Int) + 1 = ((p.length + 1 : Nat) : Int) by omega, cutN_from (by simp)]
      congr 3
      rw [show p ++ a :: b :: s = (p ++ [a]) ++ (b :: s) by simp]
      exact List.drop_left' (by simp)
    have c3 : fSl (.str (tx (p ++ a :: b :: s))) (some ((p.length : Int) + 2)) none M = .ok (.str (tx s)) M := by
      rw [fSl_tx (by simp; omega), show (p.length : Int) + 2 = ((p.length + 2 : Nat) : Int) by omega, cutN_from (by simp)]
      congr 3
      rw [show p ++ a :: b :: s = (p ++ [a, b]) ++ s by simp]
      exact List.drop_left' (by simp)
    have ix := mIndex_tx (M := M) ha
    obtain ⟨o, hoA, hoa, io⟩ := other a ha (1 + nn / 7 % 93) M (by omega) (by omega)
    have d1 : fAdd (.str (tx p)) (.str (tx [o])) M = .ok (.str (tx (p ++ [o]))) M := fAdd_tx (by simp; omega)
    have d2 : fAdd (.str (tx (p ++ [o]))) (.str (tx (b :: s))) M = .ok (.str (tx (p ++ o :: b :: s))) M := by
      rw [fAdd_tx (by simp; omega)]
      simp
    have d3 : fAdd (.str (tx p)) (.str (tx [b])) M = .ok (.str (tx (p ++ [b]))) M := fAdd_tx (by simp; omega)
    have d4 : fAdd (.str (tx (p ++ [b]))) (.str (tx [a])) M = .ok (.str (tx (p ++ [b, a]))) M := by
      rw [fAdd_tx (by simp; omega)]
      simp
    have d5 : fAdd (.str (tx (p ++ [b, a]))) (.str (tx s)) M = .ok (.str (tx (p ++ b :: a :: s))) M := by
      rw [fAdd_tx (by simp; omega)]
      simp
    have m1 : ∀ c ∈ p ++ o :: b :: s, c ∈ AL := by
      intro c h
      simp only [List.mem_append, List.mem_cons] at h
      rcases h with h | rfl | rfl | h
      · exact hpc c h
      · exact hoA
      · exact hb
      · exact hsc c h
    have m2 : ∀ c ∈ p ++ b :: a :: s, c ∈ AL := by
      intro c h
      simp only [List.mem_append, List.mem_cons] at h
      rcases h with h | rfl | rfl | h
      · exact hpc c h
      · exact hb
      · exact ha
      · exact hsc c h
    obtain ⟨ck1, lk1⟩ := chk _ M (by simp; omega) m1
    obtain ⟨ck2, lk2⟩ := chk _ M (by simp; omega) m2
    have e1 := neq_ev (M := M) (strOk_dig 2 (wS 0 (p ++ o :: b :: s) % 4093)) s1 (bent1 ha hoA hoa (by omega))
    have sm1 := same_ev (M := M) (strOk_dig 2 (wS 0 (p ++ o :: b :: s) % 4093))
    have sm2 := same_ev (M := M) (strOk_dig 2 (wS 0 (p ++ b :: a :: s) % 4093))
    by_cases hab : a = b
    · subst hab
      have sm3 := same_ev (M := M) (strOk_AL hc)
      simp [l1_law, lsigns, hn, hsz, ht, ck, lk, sm, nl, ho1, ho2, lA, decide_eq_true hs, modm, eat, ia, ib, c1, c2, c3, ix, io, d1, d2, d3, d4, d5, ck1, lk1, ck2, lk2, e1, sm1, sm2, sm3]
    · have e2 := neq_ev (M := M) (strOk_dig 2 (wS 0 (p ++ b :: a :: s) % 4093)) s1 (bent2 ha hb hab)
      have e3 := nne_ev (M := M) (strOk_AL m2) (strOk_AL hc) (fun z => by
        have := List.append_cancel_left z
        injection this with h _
        exact hab h.symm)
      simp [l1_law, lsigns, hn, hsz, ht, ck, lk, sm, nl, ho1, ho2, lA, decide_eq_true hs, modm, eat, ia, ib, c1, c2, c3, ix, io, d1, d2, d3, d4, d5, ck1, lk1, ck2, lk2, e1, sm1, sm2, e2, e3]
  · simp [l1_law, lsigns, hn, hsz, ht, ck, lk, sm, nl, ho1, ho2, decide_eq_false hs]
theorem f_law_ok (ns : List Int) : ∃ M, f_law [.lst (ns.map .int)] [] = .ok (.bl true) M := by
  obtain ⟨r, M, q, I⟩ := forL_inv (chk := anyM) (dg := gSlot 2) (sb := l1_law) (fun i r M => i ≤ 3 ∧ ∃ x2 x3 x4 x5 x6 x7 x8 x9 x10 x11 x12 x13 x14, r = [some (.lst (ns.map .int)), some (.obj 0), x2, x3, x4, x5, x6, x7, x8, x9, x10, x11, x12, x13, x14] ∧ M = St (.lst (ns.map .int)) i) (irng 0 3) 0
    [some (.lst (ns.map .int)), some (.obj 0), none, none, none, none, none, none, none, none, none, none, none, none, none] (St (.lst (ns.map .int)) 0) (fun i d r M hd hi => by
      obtain ⟨h10, x2, x3, x4, x5, x6, x7, x8, x9, x10, x11, x12, x13, x14, rfl, rfl⟩ := hi
      have hlt : i < 3 := by
        have := (List.getElem?_eq_some_iff.mp hd).1
        simpa [irng] using this
      obtain ⟨y3, y4, y5, y6, y7, y8, y9, y10, y11, y12, y13, y14, hq⟩ := law_body ns ((0 + i : Nat) : Int) (some (.lst (ns.map .int))) (some d) x3 x4 x5 x6 x7 x8 x9 x10 x11 x12 x13 x14 (by omega) (by omega)
      exact ⟨rfl, _, _, rfl, _, _, .inl hq, by omega, _, _, _, _, _, _, _, _, _, _, _, _, _, rfl, rfl⟩) (fun _ _ _ => rfl) ⟨by omega, _, _, _, _, _, _, _, _, _, _, _, _, _, rfl, rfl⟩
  have ds : dDisp [(.inr "cells", dVar 0), (.inr "at", dC (.int 0))] [some (.lst (ns.map .int)), none, none, none, none, none, none, none, none, none, none, none, none, none, none] [] = .ok (.obj 0) [.dic [(.inr "cells", .lst (ns.map .int)), (.inr "at", .int 0)]] := rfl
  refine ⟨M, ?_⟩
  have q : forL anyM (gSlot 2) l1_law (irng 0 3) [some (.lst (ns.map .int)), some (.obj 0), none, none, none, none, none, none, none, none, none, none, none, none, none] [.dic [(.inr "cells", .lst (ns.map .int)), (.inr "at", .int 0)]] = .nx r M := q
  simp [f_law, b_law, runB_ev, -dDisp_ev, ds, q]
end K02
set_option Elab.async false
set_option linter.all false
set_option maxRecDepth 100000
set_option maxHeartbeats 0
namespace K02
open PySem PySem.Spec PyProof.Rows L2 LF
theorem facts {P : Program} {w : World} {K : Frg} {h : Heap} {mg : Str → Option Value} {f : Addr} (X : K.In h) (G : h.Ns mainGlobals mg) (e : mg "law" = some (.ref f)) (c : SaysX xb fa fn K) :
    ∃ fd : FuncData, (∀ (s : Shared) (v : Value), BindsTo s fd ⟨[v], []⟩ [("_law_script", v)]) ∧ ∀ base : Heap, FnOk P w K mg base (L2.CX P w) 5 f fd ["_law_script"] (SpD K 1 f_law) := by
  have T := top_of X G c
  obtain ⟨fd, D⟩ := T.d_law
  have q := e.symm.trans T.g_law
  cases q
  have b := FunD.bindsA (ps := ["_law_script"]) D fun _ _ _ _ _ _ us hl => match us, hl with | [_], _ => rfl
  exact ⟨fd, fun s v => b s [v] rfl, fun base => fn_law T D⟩
end K02
set_option maxHeartbeats 0 in
theorem PySem.Challenge.cw_leafhouse_k02_checks_holds : PySem.Challenge.rw_leafhouse_k02_checks.Holds := by
  w_on; o_law
  refine HandSHeadRun.head_any (r := PySem.W.OpenLaw.row PySem.Challenge.rw_leafhouse_k02_checks) (q := PySem.W.view (PySem.W.OpenLaw.row PySem.Challenge.rw_leafhouse_k02_checks).prog [23]) (H := K02.hk) (ob := K02.ob) (M := 3000) (loose := K02.loose) (d := HandSHeadRun.topDef (PySem.W.OpenLaw.row PySem.Challenge.rw_leafhouse_k02_checks).prog 23) (kwd := []) K02.ob_eq
    (by kernel_rfl) (fun s => by kernel_rfl) K02.run (by kernel_rfl) (by kernel_rfl) (by kernel_rfl) (by rfl) (by first | assumption | decide +kernel) (by decide +kernel) ⟨rfl, rfl, rfl, rfl, rfl, by decide +kernel⟩ ?hw ?hc
  case hw => w_witness2
  case hc =>
    refine LF.law_walk (l := PySem.Challenge.rw_leafhouse_k02_checks) (n := 63) (k := 5) (x := "_law_script") (F := K02.f_law) rfl (by decide) (by kernel_rfl) ⟨rfl, by decide, by decide⟩ ?B (fun ns _ => K02.f_law_ok ns)
    intro w mg f h Y G m
    obtain ⟨K, KX, c⟩ := Y
    have e : mg ("law" : PySem.Str) = some (.ref f) := by
      have q : (HandSHeadRun.topDef (PySem.W.OpenLaw.row PySem.Challenge.rw_leafhouse_k02_checks).prog 23).name = ("law" : PySem.Str) := by kernel_rfl
      rw [← q]
      exact m
    obtain ⟨fd, hb, hF⟩ := K02.facts (P := (PySem.Challenge.rw_leafhouse_k02_checks).prog) (w := w) KX G e c
    exact ⟨K, fd, KX, hb, fun base _ _ => hF base⟩
