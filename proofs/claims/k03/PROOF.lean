import PyProof.Rows.All
import Wide.All
import OpenK.AllK
import Wide.FinOn
import HandS.ForMost
import HandS.Exc
import HandS.ExcOwn
import HandS.HeadHook2
import HandS.HeadHook4
import HandS.Lambda
import HandS.ExcCtx
import HandS.Hot
import HandS.HotCalls
import HandS.Defaults
import HandS.IsInst
import HandS.StrMore
import HandS.RevRange
import HandS.ExcIs
import KE.KExcIs
import HandS.Base
import HandS.Call
import HandS.Ends
import HandS.More
import HandS.Words
import HandS.WordsExc
import HandS.Head0
import HandS.Head1
import HandS.Head2
import HandS.HeadEnd
import HandS.HeadHook1
import KE.KStateDown
import HandS.WideBits
import KE.BitLaws
import HandS.Text
import PyProof.Rows.StrLast
import PyProof.Rows.StrFirst
import PyProof.EnumMake
import PyProof.Draws
import HandS.Iter
import HandS.Replace
import HandS.Codes
import HandS.TupAny
import HandS.ExcInit
import HandS.List
import HandS.CallSlots
import HandS.ExcField
import PyProof.ListStr
import HandS.Set
import HandS.SetFor
import HandS.Strs
import HandS.Zip
import PyProof.Rows.SeqMore
import HandS.TryOnly
import HandS.SortInts
import HandS.TupLe
import HandS.SuiteRaise
import HandS.RaiseFrom
import HandS.TryMany
import HandS.ExcInitHot
import HandS.HeadWalk
import HandS.SortKw
import KE.DataMinKey
import HandS.Rev
import KE.GoesMore
import HandS.NoneIn
import HandS.Style
import HandS.DictTup
import PyProof.EqKinds
import HandS.RaiseMore
import PyProof.Rows.StrJoinRep
import PySem.Challenge.RW_leafhouse_k03_keys_values_pages
set_option Elab.async false
set_option linter.all false
set_option maxRecDepth 100000
set_option maxHeartbeats 2000000
namespace LF
open PySem PySem.Spec PyProof.Rows L2
/-- plain data -/
inductive D where
  | non | bl (b : Bool) | int (i : Int) | str (x : Str)
  | tup (ds : List D) | lst (ds : List D) | dic (ks : List Key) (ds : List D)
  | obj (i : Nat)
  | exc (c : Str) (ns : List Str) (ds : List D)
  | ins (c : Str) (ns : List Str) (ds : List D)
/-- what may change: in the arena -/
inductive MO where
  | lst (ds : List D) | dic (kvs : List (Key × D)) | ins (c : Str) (fs : List (Str × D)) | ro (ds : List D) | fz (kvs : List (Key × D)) | tbl (d : He.Defn) (q : Str)
abbrev Mem := List MO
abbrev Env' := List (Option D)
abbrev Frg := PySem.W.Frag
/-- the arena's places; places that are under construction (nothing may stand for them) -/
structure Wd where
  ar : List Addr
  lk : List Addr
abbrev Wd.out (w : Wd) (a : Addr) : Prop := a ∉ w.ar ∧ a ∉ w.lk
/-- an exception object -/
def IsX (a C : Addr) (dd : Option Addr) : Heap → Prop := fun h => ∃ o vs, h.get? a = some o ∧ o.cls = .ref C ∧ o.dict = dd ∧ o.data = .fields vs
/-- it is tracked, or known to its fields -/
def ExAt (H : Hp) (a C : Addr) (dd : Option Addr) : Prop := ∃ u, H a = some u ∧ (u = .ext (IsX a C dd) ∨ ∃ o, u = .frz o (.ext (IsX a C dd)))
theorem ExAt.ne {a C : Addr} {dd : Option Addr} {u : HO} (h : u = .ext (IsX a C dd) ∨ ∃ o, u = .frz o (.ext (IsX a C dd))) : ∀ ps, u ≠ .tbl ps := fun ps z => by
  rcases h with h | ⟨o, h⟩
  · rw [h] at z; cases z
  · rw [h] at z; cases z
/-- a list, a tuple that is not in the arena -/
def StL (K : Frg) (φ : Wd) (H : Hp) (a : Addr) (xs : List V) : Prop :=
  (φ.out a ∧ Rd H a (.lst xs)) ∨ ∃ (o : Obj) (its : Array Value) (n : Nat), K.lookup a = some o ∧ o.cls = .type "list" ∧ o.dict = none ∧ o.data = .seq its n ∧ its.size ≤ sizeLine ∧ Vals xs its.toList
def StT (K : Frg) (φ : Wd) (H : Hp) (a : Addr) (xs : List V) : Prop :=
  (φ.out a ∧ Rd H a (.tup xs)) ∨ ∃ (o : Obj) (its : Array Value) (n : Nat), K.lookup a = some o ∧ o.cls = .type "tuple" ∧ o.data = .seq its n ∧ its.size ≤ sizeLine ∧ Vals xs its.toList
theorem StL.sq {K : Frg} {φ : Wd} {H : Hp} {a : Addr} {xs : List V} (h : StL K φ H a xs) : SqL K H a xs := by
  rcases h with ⟨_, h⟩ | h
  · exact .inl h
  · exact .inr h
theorem StT.sq {K : Frg} {φ : Wd} {H : Hp} {a : Addr} {xs : List V} (h : StT K φ H a xs) : SqT K H a xs := by
  rcases h with ⟨_, h⟩ | h
  · exact .inl h
  · exact .inr h
theorem ExAt.is {P : Program} {w : World} {H : Hp} {h : Heap} {a C : Addr} {dd : Option Addr} (hok : HOk P w H h) (x : ExAt H a C dd) : IsX a C dd h := by
  obtain ⟨u, e, q⟩ := x
  rcases q with rfl | ⟨o, rfl⟩
  · exact (show ObjOk P w H h a (.ext (IsX a C dd)) from hok a _ e).1
  · exact (show ObjOk P w H h a (.ext (IsX a C dd)) from (show ObjOk P w H h a (.frz o (.ext (IsX a C dd))) from hok a _ e).2).1
mutual
/-- v stands for d -/
def Rep (K : Frg) (φ : Wd) (H : Hp) : D → V → Prop
  | .non, v => v = .non
  | .bl b, v => v = .bl b
  | .int i, v => v = .int i
  | .str x, v => v = .str x
  | .tup ds, v => ∃ a xs, v = .ref a ∧ StT K φ H a xs ∧ RepL K φ H ds xs
  | .lst ds, v => ∃ a xs, v = .ref a ∧ StL K φ H a xs ∧ RepL K φ H ds xs
  | .dic ks ds, v => ∃ a kv, v = .ref a ∧ φ.out a ∧ H a = some (.dK kv) ∧ kv.map (·.1) = ks ∧ RepL K φ H ds (kv.map (·.2))
  | .obj i, v => ∃ a, φ.ar[i]? = some a ∧ v = .ref a
  | .exc c ns ds, v => ∃ a dd, v = .ref a ∧ φ.out a ∧ ExAt H a (He.ga K c) dd ∧ ∃ fv, ((dd = none ∧ fv = []) ∨ ∃ d, dd = some d ∧ φ.out d ∧ H d = some (.xd fv)) ∧ fv.map (·.1) = ns ∧ RepL K φ H ds (fv.map (·.2))
  | .ins c ns ds, v => ∃ a dx fv, v = .ref a ∧ φ.out a ∧ H a = some (.ins (He.ga K c) dx fv) ∧ fv.map (·.1) = ns ∧ RepL K φ H ds (fv.map (·.2))
def RepL (K : Frg) (φ : Wd) (H : Hp) : List D → List V → Prop
  | [], vs => vs = []
  | d :: ds, vs => ∃ v r, vs = v :: r ∧ Rep K φ H d v ∧ RepL K φ H ds r
end
/-- how a state may go on: new arena objects stand at new places; all that is not in the arena stays -/
structure Grow (φ : Wd) (H : Hp) (φ' : Wd) (H' : Hp) : Prop where
  ext : ∃ ψ, φ'.ar = φ.ar ++ ψ ∧ ∀ a ∈ ψ, H a = none
  lk : φ'.lk = φ.lk
  stay : ∀ a o, H a = some o → a ∉ φ.ar → (∀ ps, o ≠ .tbl ps) → H' a = some o
  dom : ∀ a, H' a = none → H a = none
  frz : ∀ a o u, H a = some (.frz o u) → H' a = some (.frz o u)
theorem Grow.refl {φ : Wd} {H : Hp} : Grow φ H φ H := ⟨⟨[], by simp, by simp⟩, rfl, fun _ _ h _ _ => h, fun _ h => h, fun _ _ _ h => h⟩
theorem Grow.notin {φ φ' : Wd} {H H' : Hp} (g : Grow φ H φ' H') {a : Addr} {o : HO} (h : H a = some o) (n : a ∉ φ.ar) : a ∉ φ'.ar := by
  obtain ⟨⟨ψ, e, hψ⟩, _, _, _, _⟩ := g
  intro hm
  rw [e] at hm
  rcases List.mem_append.mp hm with q | q
  · exact n q
  · rw [hψ a q] at h; cases h
theorem Grow.out {φ φ' : Wd} {H H' : Hp} (g : Grow φ H φ' H') {a : Addr} {o : HO} (h : H a = some o) (n : φ.out a) : φ'.out a := ⟨g.notin h n.1, by rw [g.lk]; exact n.2⟩
theorem Grow.trans {φ φ1 φ2 : Wd} {H H1 H2 : Hp} (g : Grow φ H φ1 H1) (k : Grow φ1 H1 φ2 H2) : Grow φ H φ2 H2 := by
  refine ⟨?_, k.lk.trans g.lk, fun a o h n t => k.stay a o (g.stay a o h n t) (g.notin h n) t, fun a h => g.dom a (k.dom a h), fun a o u h => k.frz a o u (g.frz a o u h)⟩
  obtain ⟨ψ, e, hψ⟩ := g.ext
  obtain ⟨χ, e2, hχ⟩ := k.ext
  refine ⟨ψ ++ χ, by rw [e2, e, List.append_assoc], fun a ha => ?_⟩
  rcases List.mem_append.mp ha with q | q
  · exact hψ a q
  · exact g.dom a (hχ a q)
theorem Grow.get {φ φ' : Wd} {H H' : Hp} (g : Grow φ H φ' H') {i : Nat} {a : Addr} (h : φ.ar[i]? = some a) : φ'.ar[i]? = some a := by
  obtain ⟨ψ, e, _⟩ := g.ext
  rw [e, List.getElem?_append_left (List.getElem?_eq_some_iff.mp h).1]; exact h
/-- what keeps a standing-for -/
structure Mo (φ : Wd) (H : Hp) (φ' : Wd) (H' : Hp) : Prop where
  out : ∀ a u, φ.out a → H a = some u → (∀ ps, u ≠ .tbl ps) → φ'.out a ∧ H' a = some u
  get : ∀ (i : Nat) (a : Addr), φ.ar[i]? = some a → φ'.ar[i]? = some a
theorem Grow.mo {φ φ' : Wd} {H H' : Hp} (g : Grow φ H φ' H') : Mo φ H φ' H' := ⟨fun a u n h t => ⟨g.out h n, g.stay _ _ h n.1 t⟩, fun _ _ h => g.get h⟩
theorem Mo.rd {φ φ' : Wd} {H H' : Hp} (g : Mo φ H φ' H') {a : Addr} {u : HO} (n : φ.out a) (t : ∀ ps, u ≠ .tbl ps) (h : Rd H a u) : φ'.out a ∧ Rd H' a u := by
  rcases h with h | ⟨o, h⟩
  · exact ⟨(g.out _ _ n h t).1, .inl (g.out _ _ n h t).2⟩
  · exact ⟨(g.out _ _ n h (fun _ z => by cases z)).1, .inr ⟨o, (g.out _ _ n h (fun _ z => by cases z)).2⟩⟩
theorem StL.mo {K : Frg} {φ φ' : Wd} {H H' : Hp} (g : Mo φ H φ' H') {a : Addr} {xs : List V} (h : StL K φ H a xs) : StL K φ' H' a xs := by
  rcases h with ⟨n, h⟩ | h
  · exact .inl (g.rd n (fun _ z => by cases z) h)
  · exact .inr h
theorem StT.mo {K : Frg} {φ φ' : Wd} {H H' : Hp} (g : Mo φ H φ' H') {a : Addr} {xs : List V} (h : StT K φ H a xs) : StT K φ' H' a xs := by
  rcases h with ⟨n, h⟩ | h
  · exact .inl (g.rd n (fun _ z => by cases z) h)
  · exact .inr h
section
variable {K : Frg} {φ φ' : Wd} {H H' : Hp}
mutual
theorem Rep.mo (g : Mo φ H φ' H') : ∀ (d : D) (v : V), Rep K φ H d v → Rep K φ' H' d v
  | .non, _, h => h
  | .bl _, _, h => h
  | .int _, _, h => h
  | .str _, _, h => h
  | .tup ds, v, h => by
    unfold Rep at h ⊢
    obtain ⟨a, xs, e, h1, h2⟩ := h
    exact ⟨a, xs, e, h1.mo g, RepL.mo g ds xs h2⟩
  | .lst ds, v, h => by
    unfold Rep at h ⊢
    obtain ⟨a, xs, e, h1, h2⟩ := h
    exact ⟨a, xs, e, h1.mo g, RepL.mo g ds xs h2⟩
  | .dic ks ds, v, h => by
    unfold Rep at h ⊢
    obtain ⟨a, kv, e, n, h1, h2, h3⟩ := h
    exact ⟨a, kv, e, (g.out _ _ n h1 (fun _ z => by cases z)).1, (g.out _ _ n h1 (fun _ z => by cases z)).2, h2, RepL.mo g ds _ h3⟩
  | .obj i, v, h => by
    unfold Rep at h ⊢
    obtain ⟨a, h1, h2⟩ := h
    exact ⟨a, g.get _ _ h1, h2⟩
  | .exc c ns ds, v, h => by
    unfold Rep at h ⊢
    obtain ⟨a, dd, e, n, ⟨u, h1, hu⟩, fv, h2, h3, h4⟩ := h
    refine ⟨a, dd, e, (g.out _ _ n h1 (ExAt.ne hu)).1, ⟨u, (g.out _ _ n h1 (ExAt.ne hu)).2, hu⟩, fv, ?_, h3, RepL.mo g ds _ h4⟩
    rcases h2 with h2 | ⟨d, h5, h6, h7⟩
    · exact .inl h2
    · exact .inr ⟨d, h5, (g.out _ _ h6 h7 (fun _ z => by cases z)).1, (g.out _ _ h6 h7 (fun _ z => by cases z)).2⟩
  | .ins c ns ds, v, h => by
    unfold Rep at h ⊢
    obtain ⟨a, dx, fv, e, n, h1, h2, h3⟩ := h
    exact ⟨a, dx, fv, e, (g.out _ _ n h1 (fun _ z => by cases z)).1, (g.out _ _ n h1 (fun _ z => by cases z)).2, h2, RepL.mo g ds _ h3⟩
theorem RepL.mo (g : Mo φ H φ' H') : ∀ (ds : List D) (vs : List V), RepL K φ H ds vs → RepL K φ' H' ds vs
  | [], _, h => h
  | d :: ds, vs, h => by
    unfold RepL at h ⊢
    obtain ⟨v, r, e, h1, h2⟩ := h
    exact ⟨v, r, e, Rep.mo g d v h1, RepL.mo g ds r h2⟩
end
theorem Rep.grow (g : Grow φ H φ' H') (d : D) (v : V) (h : Rep K φ H d v) : Rep K φ' H' d v := Rep.mo g.mo d v h
theorem RepL.grow (g : Grow φ H φ' H') (ds : List D) (vs : List V) (h : RepL K φ H ds vs) : RepL K φ' H' ds vs := RepL.mo g.mo ds vs h
theorem RepL.nil : RepL K φ H [] [] := by unfold RepL; rfl
theorem RepL.cons {d : D} {v : V} {ds : List D} {vs : List V} (h : Rep K φ H d v) (t : RepL K φ H ds vs) : RepL K φ H (d :: ds) (v :: vs) := by
  unfold RepL; exact ⟨v, vs, rfl, h, t⟩
theorem RepL.inv {d : D} {ds : List D} {vs : List V} (h : RepL K φ H (d :: ds) vs) : ∃ v r, vs = v :: r ∧ Rep K φ H d v ∧ RepL K φ H ds r := by
  unfold RepL at h; exact h
theorem RepL.inv0 {vs : List V} (h : RepL K φ H [] vs) : vs = [] := by
  unfold RepL at h; exact h
theorem RepL.len : ∀ {ds : List D} {vs : List V}, RepL K φ H ds vs → vs.length = ds.length
  | [], vs, h => by rw [h.inv0]; rfl
  | d :: ds, vs, h => by
    obtain ⟨v, r, rfl, _, h2⟩ := h.inv
    simp [RepL.len h2]
theorem RepL.get : ∀ {ds : List D} {vs : List V} {i : Nat} {d : D}, RepL K φ H ds vs → ds[i]? = some d → ∃ v, vs[i]? = some v ∧ Rep K φ H d v
  | [], _, _, _, _, e => by simp at e
  | d :: ds, vs, 0, x, h, e => by
    obtain ⟨v, r, rfl, h1, _⟩ := h.inv
    simp at e; subst e
    exact ⟨v, by simp, h1⟩
  | d :: ds, vs, i + 1, x, h, e => by
    obtain ⟨v, r, rfl, _, h2⟩ := h.inv
    obtain ⟨w, e1, e2⟩ := RepL.get (i := i) (d := x) h2 (by simpa using e)
    exact ⟨w, by simpa using e1, e2⟩
theorem RepL.app : ∀ {ds es : List D} {vs ws : List V}, RepL K φ H ds vs → RepL K φ H es ws → RepL K φ H (ds ++ es) (vs ++ ws)
  | [], _, vs, _, h, k => by rw [h.inv0]; exact k
  | d :: ds, es, vs, ws, h, k => by
    obtain ⟨v, r, rfl, h1, h2⟩ := h.inv
    exact .cons h1 (RepL.app h2 k)
theorem RepL.take : ∀ {ds : List D} {vs : List V} (n : Nat), RepL K φ H ds vs → RepL K φ H (ds.take n) (vs.take n)
  | _, _, 0, _ => by simp [RepL.nil]
  | [], vs, n + 1, h => by rw [h.inv0]; simp [RepL.nil]
  | d :: ds, vs, n + 1, h => by
    obtain ⟨v, r, rfl, h1, h2⟩ := h.inv
    exact .cons h1 (RepL.take n h2)
theorem RepL.drop : ∀ {ds : List D} {vs : List V} (n : Nat), RepL K φ H ds vs → RepL K φ H (ds.drop n) (vs.drop n)
  | _, _, 0, h => by simpa using h
  | [], vs, n + 1, h => by rw [h.inv0]; simp [RepL.nil]
  | d :: ds, vs, n + 1, h => by
    obtain ⟨v, r, rfl, h1, h2⟩ := h.inv
    simpa using RepL.drop n h2
theorem RepL.rev {ds : List D} {vs : List V} (h : RepL K φ H ds vs) : RepL K φ H ds.reverse vs.reverse := by
  induction ds generalizing vs with
  | nil => rw [h.inv0]; exact .nil
  | cons d ds ih =>
    obtain ⟨v, r, rfl, h1, h2⟩ := h.inv
    rw [List.reverse_cons, List.reverse_cons]
    exact (ih h2).app (.cons h1 .nil)
end
/-- pairs: keys as they are, values stand for data -/
def RepK {κ : Type} (K : Frg) (φ : Wd) (H : Hp) : List (κ × D) → List (κ × V) → Prop
  | [], l => l = []
  | (k, d) :: r, l => ∃ v l', l = (k, v) :: l' ∧ Rep K φ H d v ∧ RepK K φ H r l'
section
variable {κ : Type} {K : Frg} {φ φ' : Wd} {H H' : Hp}
theorem RepK.nil : RepK K φ H ([] : List (κ × D)) [] := rfl
theorem RepK.cons {k : κ} {d : D} {v : V} {r : List (κ × D)} {l : List (κ × V)} (h : Rep K φ H d v) (t : RepK K φ H r l) : RepK K φ H ((k, d) :: r) ((k, v) :: l) := ⟨v, l, rfl, h, t⟩
theorem RepK.mo (g : Mo φ H φ' H') : ∀ {r : List (κ × D)} {l : List (κ × V)}, RepK K φ H r l → RepK K φ' H' r l
  | [], _, h => h
  | (k, d) :: r, _, ⟨v, l', e, h1, h2⟩ => ⟨v, l', e, Rep.mo g d v h1, RepK.mo g h2⟩
theorem RepK.len : ∀ {r : List (κ × D)} {l : List (κ × V)}, RepK K φ H r l → l.length = r.length
  | [], _, h => by
    have h : _ = [] := h
    rw [h]; rfl
  | (k, d) :: r, _, ⟨v, l', e, _, h2⟩ => by rw [e]; simp [RepK.len h2]
theorem RepK.keys : ∀ {r : List (κ × D)} {l : List (κ × V)}, RepK K φ H r l → l.map (·.1) = r.map (·.1)
  | [], _, h => by
    have h : _ = [] := h
    rw [h]; rfl
  | (k, d) :: r, _, ⟨v, l', e, _, h2⟩ => by rw [e]; simp [RepK.keys h2]
theorem RepK.app : ∀ {r r' : List (κ × D)} {l l' : List (κ × V)}, RepK K φ H r l → RepK K φ H r' l' → RepK K φ H (r ++ r') (l ++ l')
  | [], _, _, _, h, k => by
    have h : _ = [] := h
    rw [h]; exact k
  | (x, d) :: r, _, _, _, ⟨v, l', e, h1, h2⟩, k => by rw [e]; exact ⟨v, _, rfl, h1, RepK.app h2 k⟩
variable [DecidableEq κ]
def lookD (kvs : List (κ × D)) (k : κ) : Option D := (kvs.find? fun kv => decide (kv.1 = k)).map (·.2)
def putD (kvs : List (κ × D)) (k : κ) (d : D) : List (κ × D) := if (kvs.any fun kv => decide (kv.1 = k)) = true then kvs.map (fun kv => if kv.1 = k then (kv.1, d) else kv) else kvs ++ [(k, d)]
def dropD (kvs : List (κ × D)) (k : κ) : List (κ × D) := kvs.filter fun kv => decide (kv.1 ≠ k)
theorem RepK.look {k : κ} : ∀ {r : List (κ × D)} {l : List (κ × V)}, RepK K φ H r l → (lookD r k = none → valV l k = none) ∧ ∀ d, lookD r k = some d → ∃ v, valV l k = some v ∧ Rep K φ H d v
  | [], _, h => by
    have h : _ = [] := h
    rw [h]; exact ⟨fun _ => rfl, (fun d e => nomatch e)⟩
  | (x, d) :: r, _, ⟨v, l', e, h1, h2⟩ => by
    rw [e]
    by_cases q : x = k
    · rw [valV_pos (p := (x, v)) q]
      have z : lookD ((x, d) :: r) k = some d := by simp [lookD, List.find?_cons, q]
      rw [z]
      exact ⟨(fun z => nomatch z), fun d' e => ⟨v, rfl, Option.some.inj e ▸ h1⟩⟩
    · rw [valV_neg (p := (x, v)) q]
      have z : lookD ((x, d) :: r) k = lookD r k := by simp [lookD, List.find?_cons, q]
      rw [z]
      exact RepK.look h2
theorem RepK.any {k : κ} : ∀ {r : List (κ × D)} {l : List (κ × V)}, RepK K φ H r l → (l.any fun kv => decide (kv.1 = k)) = (r.any fun kv => decide (kv.1 = k))
  | [], _, h => by
    have h : _ = [] := h
    rw [h]; rfl
  | (x, d) :: r, _, ⟨v, l', e, h1, h2⟩ => by rw [e]; simp only [List.any_cons, RepK.any h2]
theorem RepK.map {k : κ} {d : D} {v : V} (hd : Rep K φ H d v) : ∀ {r : List (κ × D)} {l : List (κ × V)}, RepK K φ H r l → RepK K φ H (r.map fun kv => if kv.1 = k then (kv.1, d) else kv) (l.map fun kv => if kv.1 = k then (kv.1, v) else kv)
  | [], _, h => by
    have h : _ = [] := h
    rw [h]; rfl
  | (x, e) :: r, _, ⟨w, l', q, h1, h2⟩ => by
    rw [q, List.map_cons, List.map_cons]
    by_cases z : x = k
    · rw [if_pos z, if_pos z]; exact ⟨v, _, rfl, hd, RepK.map hd h2⟩
    · rw [if_neg z, if_neg z]; exact ⟨w, _, rfl, h1, RepK.map hd h2⟩
theorem RepK.put {k : κ} {d : D} {v : V} {r : List (κ × D)} {l : List (κ × V)} (h : RepK K φ H r l) (hd : Rep K φ H d v) : RepK K φ H (putD r k d) (putK l k v) := by
  unfold putD putK
  rw [h.any]
  split
  · exact RepK.map hd h
  · exact h.app ⟨v, [], rfl, hd, rfl⟩
theorem RepK.drop {k : κ} : ∀ {r : List (κ × D)} {l : List (κ × V)}, RepK K φ H r l → RepK K φ H (dropD r k) (dropK l k)
  | [], _, h => by
    have h : _ = [] := h
    rw [h]; rfl
  | (x, d) :: r, _, ⟨v, l', e, h1, h2⟩ => by
    rw [e]
    unfold dropD dropK
    by_cases q : x = k
    · rw [List.filter_cons_of_neg (by simp [q]), List.filter_cons_of_neg (by simp [q])]; exact RepK.drop h2
    · rw [List.filter_cons_of_pos (by simp [q]), List.filter_cons_of_pos (by simp [q])]; exact ⟨v, _, rfl, h1, RepK.drop h2⟩
end
/-- an attribute is stored -/
def putFD (f : Str) (d : D) : List (Str × D) → List (Str × D)
  | [] => [(f, d)]
  | (g, x) :: r => if g = f then (g, d) :: r else (g, x) :: putFD f d r
theorem RepK.putF {K : Frg} {φ : Wd} {H : Hp} {f : Str} {d : D} {v : V} (hd : Rep K φ H d v) : ∀ {r : List (Str × D)} {l : List (Str × V)}, RepK K φ H r l → RepK K φ H (putFD f d r) (putF f v l)
  | [], _, h => by
    have h : _ = [] := h
    rw [h]; exact ⟨v, [], rfl, hd, rfl⟩
  | (g, x) :: r, _, ⟨w, l', e, h1, h2⟩ => by
    rw [e]
    simp only [putFD, L2.putF]
    by_cases q : g = f
    · rw [if_pos q, if_pos q]; exact ⟨v, _, rfl, hd, h2⟩
    · rw [if_neg q, if_neg q]; exact ⟨w, _, rfl, h1, RepK.putF hd h2⟩
theorem RepK.lookup {K : Frg} {φ : Wd} {H : Hp} {f : Str} : ∀ {r : List (Str × D)} {l : List (Str × V)}, RepK K φ H r l → (r.lookup f = none → l.lookup f = none) ∧ ∀ d, r.lookup f = some d → ∃ v, l.lookup f = some v ∧ Rep K φ H d v
  | [], _, h => by
    have h : _ = [] := h
    rw [h]; exact ⟨fun _ => rfl, (fun d e => nomatch e)⟩
  | (x, d) :: r, _, ⟨v, l', e, h1, h2⟩ => by
    rw [e]
    rw [List.lookup_cons, List.lookup_cons]
    cases q : f == x with
    | true => exact ⟨(fun z => nomatch z), fun d' e => ⟨v, rfl, Option.some.inj e ▸ h1⟩⟩
    | false => exact RepK.lookup h2
/-- a table of code objects: what it tells is known, bears the name q -/
def TabR (φ : Wd) (H : Hp) (P : Addr) (q : Str) : Prop := ∃ ps : Array Value, H P = some (.tbl ps) ∧ TriplesOk ps.toList ∧ ∀ (pos : Pos) (cv : Value), codeAmong pos ps.toList = some cv → ∃ c, cv = .ref c ∧ φ.out c ∧ H c = some (LamX.CodeO c q)
theorem codeO_no {c : Addr} {q : Str} (ps : Array Value) : LamX.CodeO c q ≠ .tbl ps := fun z => by
  unfold LamX.CodeO at z
  cases z
theorem TabR.mo {φ φ' : Wd} {H H' : Hp} (g : Mo φ H φ' H') {P : Addr} {q : Str} (h : TabR φ H P q) (e : H' P = H P) : TabR φ' H' P q := by
  obtain ⟨ps, h1, h2, h3⟩ := h
  refine ⟨ps, by rw [e]; exact h1, h2, fun pos cv hc => ?_⟩
  obtain ⟨c, e1, e2, e3⟩ := h3 pos cv hc
  exact ⟨c, e1, g.out c _ e2 e3 codeO_no⟩
/-- neither a table nor a code object -/
def Pln (o : HO) : Prop := (∀ ps, o ≠ .tbl ps) ∧ ∀ c q, o ≠ LamX.CodeO c q
theorem pln_lst {xs : List V} : Pln (.lst xs) := ⟨fun _ z => (nomatch z), fun _ _ z => by unfold LamX.CodeO at z; cases z⟩
theorem pln_dK {xs : List (Key × V)} : Pln (.dK xs) := ⟨fun _ z => (nomatch z), fun _ _ z => by unfold LamX.CodeO at z; cases z⟩
theorem pln_ins {c : Addr} {dx : Addr} {fs : List (Str × V)} : Pln (.ins c dx fs) := ⟨fun _ z => (nomatch z), fun _ _ z => by unfold LamX.CodeO at z; cases z⟩
theorem pln_frz {ob : Obj} {u : HO} : Pln (.frz ob u) := ⟨fun _ z => (nomatch z), fun _ _ z => by unfold LamX.CodeO at z; cases z⟩
/-- an object of the arena -/
def RepO (K : Frg) (φ : Wd) (H : Hp) (a : Addr) : MO → Prop
  | .lst ds => ∃ xs, H a = some (.lst xs) ∧ RepL K φ H ds xs
  | .dic kvs => ∃ kv, H a = some (.dK kv) ∧ RepK K φ H kvs kv
  | .ins c fs => ∃ dx fv, H a = some (.ins (He.ga K c) dx fv) ∧ RepK K φ H fs fv
  | .ro ds => ∃ xs, Rd H a (.lst xs) ∧ RepL K φ H ds xs
  | .fz kvs => ∃ od kv, H a = some (.frz od (.dK kv)) ∧ RepK K φ H kvs kv
  | .tbl d q => a = (He.cT K d).2 ∧ TabR φ H a q
theorem RepO.there {K : Frg} {φ : Wd} {H : Hp} {a : Addr} {mo : MO} (h : RepO K φ H a mo) : H a ≠ none := by
  cases mo with
  | lst ds => obtain ⟨_, e, _⟩ := h; rw [e]; simp
  | dic kvs => obtain ⟨_, e, _⟩ := h; rw [e]; simp
  | ins c fs => obtain ⟨_, _, e, _⟩ := h; rw [e]; simp
  | ro ds =>
    obtain ⟨_, e, _⟩ := h
    rcases e with e | ⟨o, e⟩ <;> (rw [e]; simp)
  | fz kvs => obtain ⟨_, _, e, _⟩ := h; rw [e]; simp
  | tbl d q => obtain ⟨_, _, e, _⟩ := h; rw [e]; simp
/-- the arena stands in H -/
structure Sto (K : Frg) (φ : Wd) (M : Mem) (H : Hp) : Prop where
  len : φ.ar.length = M.length
  nd : φ.ar.Nodup
  lk : ∀ a ∈ φ.lk, ∃ o, H a = some o ∧ Pln o
  ob : ∀ (i : Nat) (a : Addr) (mo : MO), φ.ar[i]? = some a → M[i]? = some mo → RepO K φ H a mo
theorem Sto.get {K : Frg} {φ : Wd} {M : Mem} {H : Hp} (S : Sto K φ M H) {i : Nat} {mo : MO} (h : M[i]? = some mo) : ∃ a, φ.ar[i]? = some a ∧ RepO K φ H a mo := by
  have hi := (List.getElem?_eq_some_iff.mp h).1
  have hj : i < φ.ar.length := by rw [S.len]; exact hi
  have e : φ.ar[i]? = some (φ.ar[i]'hj) := List.getElem?_eq_getElem hj
  exact ⟨_, e, S.ob i _ mo e h⟩
theorem Sto.mem {K : Frg} {φ : Wd} {M : Mem} {H : Hp} (S : Sto K φ M H) {a : Addr} (h : a ∈ φ.ar) : H a ≠ none := by
  obtain ⟨i, hi, e⟩ := List.mem_iff_getElem.mp h
  have hi' : i < M.length := by rw [← S.len]; exact hi
  exact (S.ob i a M[i] (by rw [List.getElem?_eq_getElem hi, e]) (List.getElem?_eq_getElem hi')).there
theorem Sto.fresh {K : Frg} {φ : Wd} {M : Mem} {H : Hp} (S : Sto K φ M H) {a : Addr} (h : H a = none) : φ.out a := ⟨fun hm => S.mem hm h, fun hm => by
  obtain ⟨o, e, _⟩ := S.lk a hm
  rw [h] at e
  cases e⟩
/-- a new thing outside of the arena -/
theorem Grow.new {φ : Wd} {H : Hp} {p : Addr} {o : HO} (h : H p = none) : Grow φ H φ (upd H p o) := by
  refine ⟨⟨[], by simp, by simp⟩, rfl, fun a u e _ _ => ?_, fun a e => ?_, fun a ob u e => by rw [upd_ne (ne_of_none e h)]; exact e⟩
  · rw [upd_ne (ne_of_none e h)]; exact e
  · by_cases q : a = p
    · rw [q]; exact h
    · rw [upd_ne q] at e; exact e
theorem RepO.mo {K : Frg} {φ φ' : Wd} {H H' : Hp} (g : Mo φ H φ' H') {a : Addr} {mo : MO} (h : RepO K φ H a mo) (e : H' a = H a) : RepO K φ' H' a mo := by
  cases mo with
  | lst ds => obtain ⟨xs, h1, h2⟩ := h; exact ⟨xs, by rw [e]; exact h1, RepL.mo g _ _ h2⟩
  | dic kvs => obtain ⟨kv, h1, h2⟩ := h; exact ⟨kv, by rw [e]; exact h1, RepK.mo g h2⟩
  | ins c fs => obtain ⟨dx, fv, h1, h2⟩ := h; exact ⟨dx, fv, by rw [e]; exact h1, RepK.mo g h2⟩
  | ro ds =>
    obtain ⟨xs, h1, h2⟩ := h
    refine ⟨xs, ?_, RepL.mo g _ _ h2⟩
    rcases h1 with h1 | ⟨o, h1⟩
    · exact .inl (by rw [e]; exact h1)
    · exact .inr ⟨o, by rw [e]; exact h1⟩
  | fz kvs => obtain ⟨od, kv, h1, h2⟩ := h; exact ⟨od, kv, by rw [e]; exact h1, RepK.mo g h2⟩
  | tbl d q => exact ⟨h.1, h.2.mo g e⟩
theorem RepO.grow {K : Frg} {φ φ' : Wd} {H H' : Hp} (g : Grow φ H φ' H') {a : Addr} {mo : MO} (h : RepO K φ H a mo) (e : H' a = H a) : RepO K φ' H' a mo := h.mo g.mo e
theorem Sto.new {K : Frg} {φ : Wd} {M : Mem} {H : Hp} (S : Sto K φ M H) {p : Addr} {o : HO} (h : H p = none) : Sto K φ M (upd H p o) :=
  ⟨S.len, S.nd, fun a ha => by
    obtain ⟨o, e, q⟩ := S.lk a ha
    exact ⟨o, by rw [upd_ne (ne_of_none e h)]; exact e, q⟩, fun i a mo e1 e2 => (S.ob i a mo e1 e2).grow (Grow.new h) (upd_ne fun z => by
    have q := S.mem (List.mem_of_getElem? e1)
    rw [z] at q; exact q h)⟩
/-- a new object of the arena -/
abbrev Wd.add (φ : Wd) (p : Addr) : Wd := ⟨φ.ar ++ [p], φ.lk⟩
theorem Grow.alloc {φ : Wd} {H : Hp} {p : Addr} {o : HO} (h : H p = none) : Grow φ H (φ.add p) (upd H p o) := by
  refine ⟨⟨[p], rfl, fun a ha => by rw [List.mem_singleton.mp ha]; exact h⟩, rfl, fun a u e _ _ => ?_, fun a e => ?_, fun a ob u e => by rw [upd_ne (ne_of_none e h)]; exact e⟩
  · rw [upd_ne (ne_of_none e h)]; exact e
  · by_cases q : a = p
    · rw [q]; exact h
    · rw [upd_ne q] at e; exact e
theorem Sto.alloc {K : Frg} {φ : Wd} {M : Mem} {H : Hp} (S : Sto K φ M H) {p : Addr} {o : HO} {mo : MO} (h : H p = none) (r : RepO K (φ.add p) (upd H p o) p mo) : Sto K (φ.add p) (M ++ [mo]) (upd H p o) := by
  refine ⟨by simp [S.len], ?_, fun a ha => ?_, fun i a m e1 e2 => ?_⟩
  · refine List.nodup_append.mpr ⟨S.nd, by simp, fun a ha b hb => ?_⟩
    have hb' := List.mem_singleton.mp hb
    intro z
    rw [z, hb'] at ha
    exact (S.fresh h).1 ha
  · obtain ⟨o, e, q⟩ := S.lk a ha
    exact ⟨o, by rw [upd_ne (ne_of_none e h)]; exact e, q⟩
  · have e1 : (φ.ar ++ [p])[i]? = some a := e1
    by_cases hi : i < φ.ar.length
    · rw [List.getElem?_append_left hi] at e1
      rw [List.getElem?_append_left (by rw [← S.len]; exact hi)] at e2
      refine (S.ob i a m e1 e2).grow (Grow.alloc h) (upd_ne fun z => ?_)
      have q := S.mem (List.mem_of_getElem? e1)
      rw [z] at q; exact q h
    · rw [List.getElem?_append_right (by omega)] at e1
      rw [List.getElem?_append_right (by rw [← S.len]; omega), ← S.len] at e2
      cases hk : i - φ.ar.length with
      | zero =>
        rw [hk] at e1 e2
        simp at e1 e2
        subst e1; subst e2
        exact r
      | succ k => rw [hk] at e1; simp at e1
/-- an object of the arena is changed -/
theorem Mo.put {φ : Wd} {H : Hp} {p : Addr} {o : HO} (h : p ∈ φ.ar) : Mo φ H φ (upd H p o) := ⟨fun a u n e _ => ⟨n, by rw [upd_ne (fun z => n.1 (by rw [z]; exact h))]; exact e⟩, fun _ _ e => e⟩
theorem Grow.put {φ : Wd} {H : Hp} {p : Addr} {o : HO} (h : p ∈ φ.ar) (hz : ∀ ob u, H p ≠ some (.frz ob u)) : Grow φ H φ (upd H p o) := by
  refine ⟨⟨[], by simp, by simp⟩, rfl, fun a u e n _ => ?_, fun a e => ?_, fun a ob u e => by rw [upd_ne (fun z => hz ob u (by rw [← z]; exact e))]; exact e⟩
  · have np : a ≠ p := fun z => n (by rw [z]; exact h)
    rw [upd_ne np]; exact e
  · by_cases q : a = p
    · rw [q, upd_same] at e; cases e
    · rw [upd_ne q] at e; exact e
theorem Sto.put {K : Frg} {φ : Wd} {M : Mem} {H : Hp} (S : Sto K φ M H) {i : Nat} {p : Addr} {o : HO} {mo : MO} (h : φ.ar[i]? = some p) (r : RepO K φ (upd H p o) p mo) (ho : Pln o := by first | exact pln_lst | exact pln_dK | exact pln_ins | exact pln_frz) : Sto K φ (M.set i mo) (upd H p o) := by
  refine ⟨by simp [S.len], S.nd, fun a ha => ?_, fun j a m e1 e2 => ?_⟩
  · by_cases q : a = p
    · exact ⟨o, by rw [q, upd_same], ho⟩
    · obtain ⟨u, e, z⟩ := S.lk a ha
      exact ⟨u, by rw [upd_ne q]; exact e, z⟩
  by_cases q : j = i
  · subst q
    rw [h] at e1; cases e1
    have hl : j < M.length := by rw [← S.len]; exact (List.getElem?_eq_some_iff.mp h).1
    rw [List.getElem?_set_self hl] at e2; cases e2
    exact r
  · rw [List.getElem?_set_ne (fun z => q z.symm)] at e2
    refine (S.ob j a m e1 e2).mo (Mo.put (List.mem_of_getElem? h)) (upd_ne fun z => ?_)
    subst z
    have hj := List.getElem?_eq_some_iff.mp e1
    have hi := List.getElem?_eq_some_iff.mp h
    exact q ((List.getElem_inj S.nd).mp (hj.2.trans hi.2.symm))
/-- the slots stand for the names' data -/
structure EnvR (K : Frg) (φ : Wd) (H : Hp) (r : Env') (σ : L2.St) : Prop where
  len : r.length = σ.length
  at_ : ∀ (i : Nat) (d : D), r[i]? = some (some d) → ∃ v, σ[i]? = some (some v) ∧ Rep K φ H d v
theorem EnvR.grow {K : Frg} {φ φ' : Wd} {H H' : Hp} {r : Env'} {σ : L2.St} (g : Grow φ H φ' H') (h : EnvR K φ H r σ) : EnvR K φ' H' r σ :=
  ⟨h.len, fun i d e => let ⟨v, e1, e2⟩ := h.at_ i d e; ⟨v, e1, Rep.grow g d v e2⟩⟩
theorem EnvR.set {K : Frg} {φ : Wd} {H : Hp} {r : Env'} {σ : L2.St} (h : EnvR K φ H r σ) {i : Nat} {d : D} {v : V} (k : Rep K φ H d v) : EnvR K φ H (r.set i (some d)) (σ.set i (some v)) := by
  refine ⟨by simp [h.len], fun j e ej => ?_⟩
  by_cases q : j = i
  · subst q
    by_cases hl : j < r.length
    · rw [List.getElem?_set_self hl] at ej; cases ej
      exact ⟨v, List.getElem?_set_self (by rw [← h.len]; exact hl), k⟩
    · rw [List.getElem?_eq_none (by simp; omega)] at ej; cases ej
  · rw [List.getElem?_set_ne (fun z => q z.symm)] at ej ⊢
    exact h.at_ j e ej
theorem EnvR.unset {K : Frg} {φ : Wd} {H : Hp} {r : Env'} {σ : L2.St} (h : EnvR K φ H r σ) {i : Nat} : EnvR K φ H (r.set i none) (σ.set i none) := by
  refine ⟨by simp [h.len], fun j e ej => ?_⟩
  by_cases q : j = i
  · subst q
    by_cases hl : j < r.length
    · rw [List.getElem?_set_self hl] at ej; cases ej
    · rw [List.getElem?_eq_none (by simp; omega)] at ej; cases ej
  · rw [List.getElem?_set_ne (fun z => q z.symm)] at ej ⊢
    exact h.at_ j e ej
theorem EnvR.start {K : Frg} {φ : Wd} {H : Hp} {ds : List D} {vs : List V} (N : List Str) (h : RepL K φ H ds vs) :
    EnvR K φ H (ds.map some ++ List.replicate (N.length - ds.length) none) (L2.start N vs) := by
  unfold L2.start
  rw [h.len]
  refine ⟨by simp [h.len], fun i d e => ?_⟩
  by_cases hi : i < ds.length
  · rw [List.getElem?_append_left (by simpa using hi), List.getElem?_map] at e
    cases q : ds[i]? with
    | none => rw [q] at e; cases e
    | some x =>
      rw [q] at e; cases e
      obtain ⟨v, e1, e2⟩ := h.get q
      exact ⟨v, by rw [List.getElem?_append_left (by simpa [h.len] using hi), List.getElem?_map, e1]; rfl, e2⟩
  · rw [List.getElem?_append_right (by simpa using hi), List.getElem?_replicate] at e
    split at e <;> cases e
abbrev Wd.lock (φ : Wd) (p : Addr) : Wd := ⟨φ.ar, p :: φ.lk⟩
theorem Mo.lock {φ : Wd} {H : Hp} {p : Addr} {o : HO} (h : H p = none) : Mo φ H (φ.lock p) (upd H p o) :=
  ⟨fun a u n e _ => ⟨⟨n.1, fun z => (List.mem_cons.mp z).elim (fun q => ne_of_none e h q) n.2⟩, by rw [upd_ne (ne_of_none e h)]; exact e⟩, fun _ _ e => e⟩
theorem Mo.relock {φ : Wd} {H : Hp} {p : Addr} {o : HO} (hp : p ∈ φ.lk) : Mo φ H φ (upd H p o) :=
  ⟨fun a u n e _ => ⟨n, by rw [upd_ne (fun z => n.2 (by rw [z]; exact hp))]; exact e⟩, fun _ _ e => e⟩
theorem Sto.lock {K : Frg} {φ : Wd} {M : Mem} {H : Hp} {p : Addr} {o : HO} (S : Sto K φ M H) (h : H p = none) (ho : Pln o := by first | exact pln_lst | exact pln_dK | exact pln_ins | exact pln_frz) : Sto K (φ.lock p) M (upd H p o) := by
  refine ⟨S.len, S.nd, fun a ha => ?_, fun i a mo e1 e2 => (S.ob i a mo e1 e2).mo (Mo.lock h) (upd_ne fun z => ?_)⟩
  · by_cases q : a = p
    · exact ⟨o, by rw [q, upd_same], ho⟩
    · rcases List.mem_cons.mp ha with w | w
      · exact absurd w q
      · obtain ⟨u, e, z⟩ := S.lk a w
        exact ⟨u, by rw [upd_ne q]; exact e, z⟩
  · have q := S.mem (List.mem_of_getElem? e1)
    rw [z] at q; exact q h
theorem Sto.relock {K : Frg} {φ : Wd} {M : Mem} {H : Hp} {p : Addr} {o : HO} (S : Sto K φ M H) (hp : p ∈ φ.lk) (na : p ∉ φ.ar) (ho : Pln o := by first | exact pln_lst | exact pln_dK | exact pln_ins | exact pln_frz) : Sto K φ M (upd H p o) := by
  refine ⟨S.len, S.nd, fun a ha => ?_, fun i a mo e1 e2 => (S.ob i a mo e1 e2).mo (Mo.relock hp) (upd_ne fun z => na (z ▸ List.mem_of_getElem? e1))⟩
  by_cases q : a = p
  · exact ⟨o, by rw [q, upd_same], ho⟩
  · obtain ⟨u, e, z⟩ := S.lk a ha
    exact ⟨u, by rw [upd_ne q]; exact e, z⟩
theorem EnvR.mo {K : Frg} {φ φ' : Wd} {H H' : Hp} {r : Env'} {σ : L2.St} (g : Mo φ H φ' H') (h : EnvR K φ H r σ) : EnvR K φ' H' r σ :=
  ⟨h.len, fun i d e => let ⟨v, e1, e2⟩ := h.at_ i d e; ⟨v, e1, Rep.mo g d v e2⟩⟩
end LF
set_option Elab.async false
set_option linter.all false
set_option maxRecDepth 100000
set_option maxHeartbeats 2000000
namespace LF
open PySem PySem.Spec PyProof.Rows L2
/-- what is known of an exception's object, over a ground and what is held in it -/
abbrev ZT := Value → Option Addr → Heap → Hp → Obj → Prop
/-- a chain of contexts: from an exception's field 2 on -/
def ChL : List (Addr × Obj) → Value → Prop
  | [], v => v = .none
  | p :: l, v => v = .ref p.1 ∧ ∃ (vs : Array Value) (u : Value), p.2.data = .fields vs ∧ vs[2]? = some u ∧ ChL l u
/-- one that lies in a ground and stays -/
def ChIn (B : Heap) (H : Hp) (v : Value) : Prop := ∃ l, ChL l v ∧ ∀ p ∈ l, B.get? p.1 = some p.2 ∧ H p.1 = none
theorem ChIn.none {B : Heap} {H : Hp} : ChIn B H .none := ⟨[], rfl, fun _ h => nomatch h⟩
theorem ChL.fields {l : List (Addr × Obj)} : ∀ {v : Value}, ChL l v → ∀ p ∈ l, ∃ vs, p.2.data = .fields vs := by
  induction l with
  | nil => exact fun _ _ h => nomatch h
  | cons q l ih =>
    rintro v ⟨_, vs, u, d, _, k⟩ p hp
    rcases List.mem_cons.mp hp with e | e
    · subst e
      exact ⟨vs, d⟩
    · exact ih k p e
def Zk : ZT := fun cls d B H o => o.cls = cls ∧ o.dict = d ∧ ∀ vs : Array Value, o.data = .fields vs → ∃ u, vs[2]? = some u ∧ ChIn B H u
theorem Zk.steady {cls : Value} {d : Option Addr} {B : Heap} {H : Hp} : PXN.Steady1 (Zk cls d B H) := fun o v h => by
  refine ⟨PXN.steady_cls o v h.1, PXN.steady_dict o v h.2.1, ?_⟩
  obtain ⟨c, d, dt, sl⟩ := o
  cases dt with
  | fields vs0 =>
    intro vs e
    have e2 : vs0.setIfInBounds 1 v = vs := Data.fields.inj e
    have e3 : (vs0.setIfInBounds 1 v)[2]? = vs0[2]? := by
      first
      | exact Array.getElem?_setIfInBounds_ne (by decide)
      | simp [Array.getElem?_setIfInBounds]
    rw [← e2, e3]
    exact h.2.2 vs0 rfl
  | _ =>
    intro vs e
    first
    | exact Data.noConfusion e
    | cases e
theorem Zk.of_n {cls : Value} {d : Option Addr} {B : Heap} {H : Hp} {o : Obj} (h : L2N.Zn cls d o) : Zk cls d B H o := ⟨h.1, h.2.1, fun vs e => ⟨_, h.2.2 vs e, .none⟩⟩
theorem Zk.zc {cls : Value} {d : Option Addr} {B : Heap} {H : Hp} {o : Obj} (h : Zk cls d B H o) : Zc cls d o := ⟨h.1, h.2.1⟩
/-- an exception in the air of X, by what is known of its object -/
def XEz (Z : ZT) (X : Cx) (W : WX) (u : Value) (s' : Shared) : Prop :=
  ∃ (a : Addr) (B : Heap) (sI : Shared) (pins : List (Addr × Obj)) (σ : L2.St) (H : Hp) (cls : Value) (d : Option Addr), u = .ref a ∧ Inv X pins σ H sI ∧ (∀ b o, sI.heap.get? b = some o → b ∉ frs X.stack → B.get? b = some o) ∧ sI.heap.UpToSlots s'.heap ∧
    Sky B X.stack a (Z cls d B H) X.env.locals s'.heap ∧ H a = none ∧ s'.os = sI.os ∧ AllBare s'.gens ∧ W cls d σ H
/-- behind a call that let an exception out -/
def CXz (Z : ZT) (P : Program) (w : World) (outer : List Env) (H : Hp) (s : Shared) (E : XK) (u : Value) (s' : Shared) : Prop :=
  ∃ (a : Addr) (B : Heap) (H' : Hp) (cls : Value) (d : Option Addr), u = .ref a ∧ HandSPX.FlyingZ B outer a (Z cls d B H') s'.heap ∧ HOk P w H' B ∧ UB (frs outer) H H' s.heap B s'.heap ∧ H' a = none ∧ s'.os = s.os ∧ AllBare s'.gens ∧ E cls d H'
def TkZ (Z : ZT) (X : Cx) (W : WX) : Prop := ∀ u s', XEz Z X W u s' → X.xe u s'
section
variable {X : Cx} {pins : List (Addr × Obj)} {σ : L2.St} {H : Hp} {sI s s' : Shared} {B : Heap} {W : WX} {E : XK} {Z : ZT}
theorem sky_imp {B : Heap} {l : List Env} {a L : Addr} {Z Z' : Obj → Prop} {h : Heap} (z : ∀ o, Z o → Z' o) (x : Sky B l a Z L h) : Sky B l a Z' L h := by
  rcases x with ⟨x1, x2, x3, oe, vs, e, q, r⟩ | ⟨y1, y2, y3, oe, vs, T, oT, ts, e, q, r⟩ | ⟨y1, y2, y3, oe, vs, T, oT, ts, e, q, r⟩
  · exact .inl ⟨x1, x2, x3, oe, vs, e, z _ q, r⟩
  · exact .inr (.inl ⟨y1, y2, y3, oe, vs, T, oT, ts, e, z _ q, r⟩)
  · exact .inr (.inr ⟨y1, y2, y3, oe, vs, T, oT, ts, e, z _ q, r⟩)
theorem XEz.imp {Z' : ZT} {u : Value} (z : ∀ c d B H o, Z c d B H o → Z' c d B H o) (x : XEz Z X W u s') : XEz Z' X W u s' := by
  obtain ⟨a, B, sI, pins, σ, H, cls, d, e, I, nb, up, sky, r⟩ := x
  exact ⟨a, B, sI, pins, σ, H, cls, d, e, I, nb, up, sky_imp (fun o q => z _ _ _ _ o q) sky, r⟩
theorem XEz.of_call (I : Inv X pins σ H s) (hW : ∀ cls d H', E cls d H' → W cls d σ H') {u : Value} (c : CXz Z X.prog X.w X.stack H s E u s') : XEz Z X W u s' := by
  obtain ⟨a, B, H', cls, d, rfl, fl, hok, ub, na, os, ag, hE⟩ := c
  obtain ⟨G, g1, g2⟩ := restrict s'.heap fun b => (B.get? b).isSome || decide (b ∈ frs X.stack)
  have st : B.StaysIn s'.heap := fl.1
  have gB : ∀ b o, B.get? b = some o → G.get? b = some o := fun b o e => by
    rw [g1 b (by simp [e])]
    exact st b o e
  have gF : ∀ b, b ∈ frs X.stack → G.get? b = s'.heap.get? b := fun b hb => g1 b (by simp [hb])
  have og : ∀ b o, G.get? b = some o → s'.heap.get? b = some o ∧ ((B.get? b).isSome = true ∨ b ∈ frs X.stack) := fun b o e => by
    cases q : ((B.get? b).isSome || decide (b ∈ frs X.stack)) with
    | false => rw [g2 b q] at e; cases e
    | true =>
      rw [g1 b q] at e
      exact ⟨e, by simpa [Bool.or_eq_true] using q⟩
  refine ⟨a, B, { s with heap := G, gens := s'.gens, drawn := s'.drawn, toks := s'.toks }, pins, σ, H', cls, d, rfl, ?_, fun b o e hb => ?_, Heap.UpToSlots.of_keeps fun b o e => (og b o e).1, .inr (.inl fl), na, os, ag, hW _ _ _ hE⟩
  · refine I.call (ch := []) ⟨fun b o e n hb _ => gB b o (ub.keep b o e n hb), fun b o e n hb _ => ?_, fun b o e n _ => ub.free b o e n, fun b o e _ => ?_, ub.tups, ub.frzs, ub.tbls⟩ (hok.kept gB) ag (fun _ z => nomatch z)
    · obtain ⟨sl, q⟩ := ub.slot b o e hb
      exact ⟨sl, by rw [gF b hb]; exact q⟩
    · by_cases hb : b ∈ frs X.stack
      · obtain ⟨sl, q⟩ := ub.slot b o e hb
        exact ⟨_, by rw [gF b hb]; exact q⟩
      · obtain ⟨o', q⟩ := ub.there b o e hb
        exact ⟨o', gB b o' q⟩
  · obtain ⟨e', h⟩ := og b o e
    rcases h with h | h
    · obtain ⟨o', q⟩ := Option.isSome_iff_exists.mp h
      have z := st b o' q
      rw [e'] at z; cases z
      exact q
    · exact absurd h hb
theorem XEz.leave (hZ : ∀ c d B H, PXN.Steady1 (Z c d B H)) (hs : X.stack = X.env :: X.outer) (hf : X.env.frame = some X.env.locals) (hex : X.ex = []) {E₁ : Value → Shared → Prop} (hW : ∀ cls d σ H, W cls d σ H → E cls d H) {u : Value} (x : XEz Z X W u s') :
    wpAny (model X.prog X.w) X.A (leaving X.env u) (fun _ s'' => CXz Z X.prog X.w X.outer X.H_0 X.s_0 E u s'') E₁ s' := by
  obtain ⟨a, B, sI, pins, σ, H, cls, d, rfl, I, nb, up, sky, na, os, ag, w⟩ := x
  have hfr : X.A.frames = some (X.env :: X.outer) := by rw [I.ok.frames, hs]
  have nst : ∀ b o, X.s_0.heap.get? b = some o → b ∉ X.fs → b ∉ frs X.stack := fun b o e hb hm => by
    rcases List.mem_cons.mp (I.stkSub b hm) with z | z
    · have h1 := Heap.lt_size e
      have h2 := I.ok.above
      rw [z] at h1
      exact absurd (Nat.lt_of_lt_of_le h1 h2) (Nat.lt_irrefl _)
    · exact hb z
  have hex' : ∀ b, b ∉ X.ex := fun b hb => by rw [hex] at hb; cases hb
  have hokB := I.inGround nb
  have fin : ∀ h', HandSPX.FlyingZ B X.outer a (Z cls d B H) h' → s'.heap.UpToSlots h' → CXz Z X.prog X.w X.outer X.H_0 X.s_0 E (.ref a) { s' with heap := h' } := fun h' fl up' => by
    refine ⟨a, B, H, cls, d, rfl, fl, hokB, ⟨fun b o e n hb => nb b o (I.base.keep b o e n hb (hex' b)) (nst b o e hb), fun b o e hb => ?_, fun b o e n => I.base.free b o e n (hex' b), fun b o e hb => ?_, I.base.tups, I.base.frzs, I.base.tbls⟩,
      na, os.trans I.os, ag, hW _ _ _ _ w⟩
    · obtain ⟨_, o₀, e₀, hnf⟩ := I.ok.funs.mem hb
      rw [e] at e₀; cases e₀
      obtain ⟨sl, e1⟩ := I.base.slot b o e (I.ok.frf b hb) hb (hex' b)
      obtain ⟨sl2, e2⟩ := up b _ e1 hnf
      obtain ⟨sl3, e3⟩ := up' b _ e2 hnf
      exact ⟨sl3, e3⟩
    · obtain ⟨o', e1⟩ := I.base.there b o e (hex' b)
      exact ⟨o', nb b o' e1 (nst b o e hb)⟩
  rw [hs] at sky
  rcases sky with ⟨hB, hn, hl, oe, vs, he, hz, hd, h1⟩ | fl | hd
  · exact PXN.leaving_firstZ (hZ _ _ _ _) hfr hl hf he hB hn hd h1 hz fin
  · exact PXN.leaves_onZ (hZ _ _ _ _) hfr hf fl fin
  · exact HandSPX.leaves_heldZ hf hd fin
theorem TkZ.of (hZ : ∀ c d B H, PXN.Steady1 (Z c d B H)) (hs : X.stack = X.env :: X.outer) (hf : X.env.frame = some X.env.locals) (hex : X.ex = []) {E₁ : Value → Shared → Prop}
    (hx : X.xe = fun e s' => wpAny (model X.prog X.w) X.A (leaving X.env e) (fun _ s'' => CXz Z X.prog X.w X.outer X.H_0 X.s_0 E e s'') E₁ s') : TkZ Z X (fun cls d _ H => E cls d H) := fun u s' x => by
  rw [hx]
  exact XEz.leave (W := fun cls d _ H => E cls d H) (E := E) hZ hs hf hex (fun _ _ _ _ h => h) x
/-- a new exception is in our air -/
theorem XEz.new {a : Addr} {oe : Obj} {vs : Array Value} {cls : Value} {d : Option Addr} (I : Inv X pins σ H sI) (k : ∀ b o, sI.heap.get? b = some o → s'.heap.get? b = some o) (hne : sI.heap.get? a = none) (he : s'.heap.get? a = some oe)
    (hz : Z cls d (PySem.W.hideAll sI.heap (frs X.stack)) H oe) (hd : oe.data = .fields vs) (h1 : vs[1]? = some .none) (na : H a = none) (os : s'.os = sI.os) (ag : AllBare s'.gens) (w : W cls d σ H) : XEz Z X W (.ref a) s' := by
  refine ⟨a, PySem.W.hideAll sI.heap (frs X.stack), sI, pins, σ, H, cls, d, rfl, I, fun b o e hb => PySem.W.hideAll_get _ e hb, Heap.UpToSlots.of_keeps k,
    .inl ⟨fun b o e => k b o (PySem.W.of_hideAll _ e), ?_, ?_, oe, vs, he, hz, hd, h1⟩, na, os, ag, w⟩
  · cases q : (PySem.W.hideAll sI.heap (frs X.stack)).get? a with
    | none => rfl
    | some o =>
      have z := PySem.W.of_hideAll _ q
      rw [hne] at z; cases z
  · exact Heap.FunFrames.of_keeps (fun b o e _ => ⟨o, k b o e, rfl⟩) (funFrames_none I.stack fun b hb => PySem.W.hideAll_none _ hb)
theorem TkZ.passAt (tk : TkZ Z X W) (σ : L2.St) : PassesAt (CXz Z X.prog X.w) X σ (WE W σ) := fun _ _ _ e s' I c => tk e s' (XEz.of_call I (fun _ _ _ h => h) c)
end
end LF
set_option Elab.async false
set_option linter.all false
set_option maxRecDepth 100000
set_option maxHeartbeats 2000000
namespace LF
open PySem PySem.Spec PyProof.Rows L2
/-- a raised exception: its class by name, its fields -/
structure Exn where
  c : Str
  ns : List Str
  ds : List D
inductive Out (α : Type) where
  | ok (a : α) (M : Mem) | ex (e : Exn) (M : Mem) | no
/-- a statement's end -/
inductive SO where
  | nx (r : Env') (M : Mem) | rt (d : D) (M : Mem) | bk (r : Env') (M : Mem) | ct (r : Env') (M : Mem) | ex (e : Exn) (r : Env') (M : Mem) | no
def Out.bind {α β : Type} (o : Out α) (f : α → Mem → Out β) : Out β := match o with
  | .ok a M => f a M
  | .ex e M => .ex e M
  | .no => .no
def Out.bindS {α : Type} (o : Out α) (r : Env') (f : α → Mem → SO) : SO := match o with
  | .ok a M => f a M
  | .ex e M => .ex e r M
  | .no => .no
def liftO {α : Type} (o : Option α) (M : Mem) : Out α := match o with
  | some a => .ok a M
  | none => .no
abbrev DE := Env' → Mem → Out D
abbrev DT := Env' → Mem → Out Bool
abbrev DA := Env' → Mem → Out (List D)
abbrev DS := Env' → Mem → SO
abbrev DG := D → Env' → Mem → Out Env'
abbrev F1 := D → Mem → Out D
abbrev F2 := D → D → Mem → Out D
abbrev FN := List D → Mem → Out D
/-- an exception's own dict -/
def XF (K : Frg) (φ : Wd) (H : Hp) (ns : List Str) (ds : List D) (dd : Option Addr) : Prop := ∃ fv : List (Str × V), ((dd = none ∧ fv = []) ∨ ∃ d, dd = some d ∧ φ.out d ∧ H d = some (.xd fv)) ∧ fv.map (·.1) = ns ∧ RepL K φ H ds (fv.map (·.2))
def RepX (K : Frg) (φ : Wd) (H : Hp) (e : Exn) (cls : Value) (dd : Option Addr) : Prop := cls = .ref (He.ga K e.c) ∧ XF K φ H e.ns e.ds dd
theorem XF.mo {K : Frg} {φ φ' : Wd} {H H' : Hp} (g : Mo φ H φ' H') {ns : List Str} {ds : List D} {dd : Option Addr} (h : XF K φ H ns ds dd) : XF K φ' H' ns ds dd := by
  obtain ⟨fv, h1, h2, h3⟩ := h
  refine ⟨fv, ?_, h2, RepL.mo g _ _ h3⟩
  rcases h1 with h1 | ⟨d, h4, h5, h6⟩
  · exact .inl h1
  · exact .inr ⟨d, h4, (g.out _ _ h5 h6 (fun _ z => (nomatch z))).1, (g.out _ _ h5 h6 (fun _ z => (nomatch z))).2⟩
theorem RepX.mo {K : Frg} {φ φ' : Wd} {H H' : Hp} (g : Mo φ H φ' H') {e : Exn} {cls : Value} {dd : Option Addr} (h : RepX K φ H e cls dd) : RepX K φ' H' e cls dd := ⟨h.1, h.2.mo g⟩
/-- an outcome meets what is wanted -/
def Okd {α β : Type} (K : Frg) (φ : Wd) (H : Hp) (R : Wd → Hp → α → β → Prop) (o : Out α) (Q : β → Hp → Prop) (W : XK) : Prop := match o with
  | .ok a M => ∀ b φ' H', Grow φ H φ' H' → Sto K φ' M H' → R φ' H' a b → Q b H'
  | .ex e M => ∀ cls dd φ' H', Grow φ H φ' H' → Sto K φ' M H' → RepX K φ' H' e cls dd → W cls dd H'
  | .no => False
def OkS (K : Frg) (φ : Wd) (H : Hp) (o : SO) (E : Ends) (W : WX) : Prop := match o with
  | .nx r M => ∀ σ' φ' H', Grow φ H φ' H' → Sto K φ' M H' → EnvR K φ' H' r σ' → E.nx σ' H'
  | .rt d M => ∀ v φ' H', Grow φ H φ' H' → Sto K φ' M H' → Rep K φ' H' d v → E.rt v H'
  | .bk r M => ∀ σ' φ' H', Grow φ H φ' H' → Sto K φ' M H' → EnvR K φ' H' r σ' → E.bk σ' H'
  | .ct r M => ∀ σ' φ' H', Grow φ H φ' H' → Sto K φ' M H' → EnvR K φ' H' r σ' → E.ct σ' H'
  | .ex e r M => ∀ cls dd σ' φ' H', Grow φ H φ' H' → Sto K φ' M H' → EnvR K φ' H' r σ' → RepX K φ' H' e cls dd → W cls dd σ' H'
  | .no => False
abbrev RE (K : Frg) : Wd → Hp → D → V → Prop := fun φ H d v => Rep K φ H d v
abbrev RT : Wd → Hp → Bool → Bool → Prop := fun _ _ a b => b = a
abbrev RA (K : Frg) : Wd → Hp → List D → List V → Prop := fun φ H d v => RepL K φ H d v
section
variable {K : Frg} {φ φ1 : Wd} {H H1 : Hp} {α β γ δ : Type} {R1 : Wd → Hp → α → γ → Prop} {R2 : Wd → Hp → β → δ → Prop} {Q : δ → Hp → Prop} {Q1 : γ → Hp → Prop} {W : XK}
theorem Okd.grow {o : Out β} (g : Grow φ H φ1 H1) (h : Okd K φ H R2 o Q W) : Okd K φ1 H1 R2 o Q W := by
  cases o with
  | ok a M => exact fun b φ' H' g' => h b φ' H' (g.trans g')
  | ex e M => exact fun c d φ' H' g' => h c d φ' H' (g.trans g')
  | no => exact h
theorem Okd.bind {o : Out α} {f : α → Mem → Out β} (h : Okd K φ H R2 (o.bind f) Q W)
    (k : ∀ a M1 b φ1 H1, o = .ok a M1 → Grow φ H φ1 H1 → Sto K φ1 M1 H1 → R1 φ1 H1 a b → Okd K φ1 H1 R2 (f a M1) Q W → Q1 b H1) : Okd K φ H R1 o Q1 W := by
  cases o with
  | ok a M => exact fun b φ' H' g S r => k a M b φ' H' rfl g S r (Okd.grow g h)
  | ex e M => exact h
  | no => exact h
/-- nothing changes -/
theorem Okd.here {M : Mem} {b : β} {v : δ} (S : Sto K φ M H) (r : R2 φ H b v) (h : Okd K φ H R2 (.ok b M) Q W) : Q v H := h v φ H Grow.refl S r
end
section
variable {K : Frg} {φ φ1 : Wd} {H H1 : Hp} {E : Ends} {W : WX}
theorem OkS.grow {o : SO} (g : Grow φ H φ1 H1) (h : OkS K φ H o E W) : OkS K φ1 H1 o E W := by
  cases o with
  | nx r M => exact fun b φ' H' g' => h b φ' H' (g.trans g')
  | rt r M => exact fun b φ' H' g' => h b φ' H' (g.trans g')
  | bk r M => exact fun b φ' H' g' => h b φ' H' (g.trans g')
  | ct r M => exact fun b φ' H' g' => h b φ' H' (g.trans g')
  | ex e r M => exact fun c d s φ' H' g' => h c d s φ' H' (g.trans g')
  | no => exact h
theorem OkS.bind {α γ : Type} {R1 : Wd → Hp → α → γ → Prop} {Q1 : γ → Hp → Prop} {o : Out α} {r : Env'} {σ : L2.St} {f : α → Mem → SO} (er : EnvR K φ H r σ) (h : OkS K φ H (o.bindS r f) E W)
    (k : ∀ a M1 b φ1 H1, o = .ok a M1 → Grow φ H φ1 H1 → Sto K φ1 M1 H1 → R1 φ1 H1 a b → OkS K φ1 H1 (f a M1) E W → Q1 b H1) : Okd K φ H R1 o Q1 (fun c d H' => W c d σ H') := by
  cases o with
  | ok a M => exact fun b φ' H' g S r => k a M b φ' H' rfl g S r (OkS.grow g h)
  | ex e M => exact fun c d φ' H' g S x => h c d σ φ' H' g S (er.grow g) x
  | no => exact h
end
inductive Md where
  | a | n | c
  deriving DecidableEq
def CXm : Md → Program → World → CXT
  | .a => L2.CX
  | .n => L2N.CX
  | .c => CXz Zk
def Tk : Md → Cx → WX → Prop
  | .a => L2.Takes
  | .n => L2N.Takes
  | .c => TkZ Zk
theorem passTk {m : Md} {X : Cx} {W : WX} (tk : Tk m X W) (σ : L2.St) : PassesAt (CXm m X.prog X.w) X σ (WE W σ) := by
  cases m
  · exact L2.passAt tk σ
  · exact L2N.passAt tk σ
  · exact TkZ.passAt tk σ
theorem tk_of {m : Md} {P : Program} {w : World} {K : Frg} {mg : Str → Option Value} {base : Heap} {N : List Str} {qual : Str} {scope : Scope} {f : Addr} {cd : Value} {A : Around} {outer : List Env} {s : Shared} {H : Hp} {E : XK} : Tk m (cxOf (CXm m P w) P w K mg base N qual scope f cd A outer s H E) (fun cls d _ H => E cls d H) := by
  cases m
  · exact L2.takes_of rfl rfl rfl rfl
  · exact L2N.takes_of rfl rfl rfl rfl
  · exact TkZ.of (fun _ _ _ _ => Zk.steady) rfl rfl rfl rfl
/-- what is known of the object, by modes -/
def Zm : Md → ZT
  | .a => fun c d _ _ => Zc c d
  | .n => fun c d _ _ => L2N.Zn c d
  | .c => Zk
theorem Zm.steady {m : Md} {c : Value} {d : Option Addr} {B : Heap} {H : Hp} : PXN.Steady1 (Zm m c d B H) := by
  cases m
  · exact fun o v h => ⟨PXN.steady_cls o v h.1, PXN.steady_dict o v h.2⟩
  · exact L2N.Zn.steady
  · exact Zk.steady
theorem Tk.ez {m : Md} {X : Cx} {W : WX} : Tk m X W ↔ ∀ u s', XEz (Zm m) X W u s' → X.xe u s' := by
  cases m
  · exact Iff.rfl
  · exact Iff.rfl
  · exact Iff.rfl
theorem Zm.of_n {m : Md} {c : Value} {d : Option Addr} {B : Heap} {H : Hp} {o : Obj} (h : L2N.Zn c d o) : Zm m c d B H o := by
  cases m
  · exact h.zc
  · exact h
  · exact Zk.of_n h
theorem Zm.of_c {m : Md} (hm : m ≠ .n) {c : Value} {d : Option Addr} {B : Heap} {H : Hp} {o : Obj} (h : Zk c d B H o) : Zm m c d B H o := by
  cases m
  · exact h.zc
  · exact absurd rfl hm
  · exact h
/-- who takes more takes less -/
theorem Tk.n {m : Md} {X : Cx} {W : WX} (tk : Tk m X W) : Tk .n X W := Tk.ez.mpr fun u s' x => Tk.ez.mp tk u s' (x.imp fun _ _ _ _ _ h => Zm.of_n h)
theorem Tk.c {m : Md} {X : Cx} {W : WX} (tk : Tk m X W) (hm : m ≠ .n := by decide) : Tk .c X W := Tk.ez.mpr fun u s' x => Tk.ez.mp tk u s' (x.imp fun _ _ _ _ _ h => Zm.of_c hm h)
def SimE (K : Frg) (W : WX) (te : TE) (de : DE) : Prop := ∀ φ M H σ r Q, Sto K φ M H → EnvR K φ H r σ → Okd K φ H (RE K) (de r M) Q (fun c d H' => W c d σ H') → te σ H Q
def SimT (K : Frg) (W : WX) (te : TT) (de : DT) : Prop := ∀ φ M H σ r Q, Sto K φ M H → EnvR K φ H r σ → Okd K φ H RT (de r M) Q (fun c d H' => W c d σ H') → te σ H Q
def SimA (K : Frg) (W : WX) (te : TA) (de : DA) : Prop := ∀ φ M H σ r Q, Sto K φ M H → EnvR K φ H r σ → Okd K φ H (RA K) (de r M) Q (fun c d H' => W c d σ H') → te σ H Q
def SimS (K : Frg) (W : WX) (ts : TS) (ds : DS) : Prop := ∀ φ M H σ r E, Sto K φ M H → EnvR K φ H r σ → OkS K φ H (ds r M) E W → ts E σ H
def SimG (K : Frg) (W : WX) (g : TG) (dg : DG) : Prop := ∀ φ M H σ r x d Q, Sto K φ M H → EnvR K φ H r σ → Rep K φ H d x → (match dg d r M with
  | .ok r1 M1 => ∀ σ' φ' H', Grow φ H φ' H' → Sto K φ' M1 H' → EnvR K φ' H' r1 σ' → Q σ' H'
  | _ => False) → g x σ H Q
def SimGs (K : Frg) (W : WX) (g : TGs) (dg : List D → Env' → Mem → Out Env') : Prop := ∀ φ M H σ r xs ds Q, Sto K φ M H → EnvR K φ H r σ → RepL K φ H ds xs → (match dg ds r M with
  | .ok r1 M1 => ∀ σ' φ' H', Grow φ H φ' H' → Sto K φ' M1 H' → EnvR K φ' H' r1 σ' → Q σ' H'
  | _ => False) → g xs σ H Q
/-- by values -/
def Op1 (K : Frg) (r : V → Hp → VK → Prop) (f : F1) : Prop := ∀ φ M H x a Q W, Sto K φ M H → Rep K φ H a x → Okd K φ H (RE K) (f a M) Q W → r x H Q
def Op2 (K : Frg) (r : R2) (f : F2) : Prop := ∀ φ M H x y a b Q W, Sto K φ M H → Rep K φ H a x → Rep K φ H b y → Okd K φ H (RE K) (f a b M) Q W → r x y H Q
def OpN (K : Frg) (r : List V → Hp → VK → Prop) (f : FN) : Prop := ∀ φ M H xs ds Q W, Sto K φ M H → RepL K φ H ds xs → Okd K φ H (RE K) (f ds M) Q W → r xs H Q
def DEx (X : Cx) (W : WX) (e : Expr) (de : DE) : Prop := ∃ te, PE X e te ∧ SimE X.K W te de
def DTx (X : Cx) (W : WX) (e : Expr) (de : DT) : Prop := ∃ te, PT X e te ∧ SimT X.K W te de
def DWx (X : Cx) (W : WX) (e : Expr) (de : DT) : Prop := ∃ te, PW X e te ∧ SimT X.K W te de
def DAx (X : Cx) (W : WX) (es : List Expr) (de : DA) : Prop := ∃ te, PA X es te ∧ SimA X.K W te de
def DSx (X : Cx) (W : WX) (st : Stmt) (ds : DS) : Prop := ∃ ts, PS X st ts ∧ SimS X.K W ts ds
def DBx (X : Cx) (W : WX) (st : List Stmt) (ds : DS) : Prop := ∃ ts, PSs X st ts ∧ SimS X.K W ts ds
def DGx (X : Cx) (W : WX) (tg : Expr) (dg : DG) : Prop := ∃ g, PG X tg g ∧ SimG X.K W g dg
def DGsx (X : Cx) (W : WX) (tg : List Expr) (dg : List D → Env' → Mem → Out Env') : Prop := ∃ g, PGs X tg g ∧ SimGs X.K W g dg
def dVar (i : Nat) : DE := fun r M => match r[i]? with
  | some (some d) => .ok d M
  | _ => .no
def dC (d : D) : DE := fun _ M => .ok d M
section
variable {X : Cx} {W : WX} {pos : Pos}
theorem sim_var {K : Frg} {W : WX} {i : Nat} : SimE K W (tVar i) (dVar i) := by
  intro φ M H σ r Q S E h
  unfold dVar at h
  split at h
  · rename_i d e
    obtain ⟨v, e1, e2⟩ := E.at_ i d e
    exact ⟨v, e1, h.here S e2⟩
  · exact h.elim
theorem de_var {i : Nat} {x : Str} (hN : X.N[i]? = some x) (hv : Vis X.env.scope x) (hd : (x == ("__debug__" : Str)) = false := by decide) (hcd : (x == ("__classdict__" : Str)) = false := by decide) : DEx X W (.Name x pos) (dVar i) :=
  ⟨_, pe_var hN hv hd hcd, sim_var⟩
theorem sim_c {K : Frg} {v : V} {d : D} (h : ∀ φ H, Rep K φ H d v) : SimE K W (tC v) (dC d) := fun φ M H σ r Q S E k => k.here S (h φ H)
theorem de_int {i : Int} {j} : DEx X W (.Constant (.int i) j pos) (dC (.int i)) := ⟨_, pe_int, sim_c fun _ _ => by unfold Rep; rfl⟩
theorem de_bl {b : Bool} {j} : DEx X W (.Constant (.bool b) j pos) (dC (.bl b)) := ⟨_, pe_bl, sim_c fun _ _ => by unfold Rep; rfl⟩
theorem de_non {j} : DEx X W (.Constant .none j pos) (dC .non) := ⟨_, pe_non, sim_c fun _ _ => by unfold Rep; rfl⟩
theorem de_str {x : Str} {j} : DEx X W (.Constant (.str x) j pos) (dC (.str x)) := ⟨_, pe_str, sim_c fun _ _ => by unfold Rep; rfl⟩
/-- a module's constant -/
theorem de_gint {x : Str} {i : Int} (hg : Gl X x) (hm : ∃ t, X.mg x = some (.int i t)) (hd : (x == ("__debug__" : Str)) = false := by decide) : DEx X W (.Name x pos) (dC (.int i)) := by
  obtain ⟨t, hm⟩ := hm
  exact ⟨_, pe_glob (v := .int i) hg hm ⟨t, rfl⟩ hd, sim_c fun _ _ => by unfold Rep; rfl⟩
theorem de_gstr {x z : Str} (hg : Gl X x) (hm : ∃ t, X.mg x = some (.str z t)) (hd : (x == ("__debug__" : Str)) = false := by decide) : DEx X W (.Name x pos) (dC (.str z)) := by
  obtain ⟨t, hm⟩ := hm
  exact ⟨_, pe_glob (v := .str z) hg hm ⟨t, rfl⟩ hd, sim_c fun _ _ => by unfold Rep; rfl⟩
def dBin (f : F2) (da db : DE) : DE := fun r M => (da r M).bind fun x M1 => (db r M1).bind fun y M2 => f x y M2
def dUn (f : F1) (da : DE) : DE := fun r M => (da r M).bind fun x M1 => f x M1
theorem sim_op {K : Frg} {r2 : R2} {f : F2} {ta tb : TE} {da db : DE} (ho : Op2 K r2 f) (ha : SimE K W ta da) (hb : SimE K W tb db) : SimE K W (tOp r2 ta tb) (dBin f da db) := by
  intro φ M H σ r Q S E h
  refine ha φ M H σ r _ S E (Okd.bind h fun a M1 x φ1 H1 _ g1 S1 r1 h1 => ?_)
  refine hb φ1 M1 H1 σ r _ S1 (E.grow g1) (Okd.bind h1 fun b M2 y φ2 H2 _ g2 S2 r2 h2 => ?_)
  exact ho φ2 M2 H2 x y a b Q _ S2 (Rep.grow g2 _ _ r1) r2 h2
variable {a b c : Expr} {da db dc : DE} {ta' tb' : DT}
theorem de_bin {op : Operator} {r2 : R2} {f : F2} (h1 : OpR X (binaryOp op) r2) (ho : Op2 X.K r2 f) (ha : DEx X W a da) (hb : DEx X W b db) : DEx X W (.BinOp a op b pos) (dBin f da db) := by
  obtain ⟨_, p1, s1⟩ := ha
  obtain ⟨_, p2, s2⟩ := hb
  exact ⟨_, pe_op h1 p1 p2, sim_op ho s1 s2⟩
theorem de_un {op : UnaryOp} {r1 : V → Hp → VK → Prop} {f : F1} (h1 : UnR X (unaryOp op) r1) (ho : Op1 X.K r1 f) (ha : DEx X W a da) : DEx X W (.UnaryOp op a pos) (dUn f da) := by
  obtain ⟨_, p1, s1⟩ := ha
  refine ⟨_, pe_un h1 p1, fun φ M H σ r Q S E h => ?_⟩
  refine s1 φ M H σ r _ S E (Okd.bind h fun a M1 x φ1 H1 _ g1 S1 r1 h1 => ?_)
  exact ho φ1 M1 H1 x a Q _ S1 r1 h1
theorem de_cmp {op : CmpOp} {r2 : R2} {f : F2} (h1 : OpR X (compareOp op) r2) (ho : Op2 X.K r2 f) (ha : DEx X W a da) (hb : DEx X W b db) (hm : behindInMarks op b = false := by first | exact nomark _ | rfl) : DEx X W (.Compare a [op] [b] pos) (dBin f da db) := by
  obtain ⟨_, p1, s1⟩ := ha
  obtain ⟨_, p2, s2⟩ := hb
  exact ⟨_, pe_cmpR h1 p1 p2 hm, sim_op ho s1 s2⟩
/-- a value that is True or False, as a test -/
def dTest (da : DE) : DT := fun r M => (da r M).bind fun x M1 => match x with
  | .bl b => .ok b M1
  | _ => .no
theorem sim_test {K : Frg} {ta : TE} (ha : SimE K W ta da) : SimT K W (tTest ta) (dTest da) := by
  intro φ M H σ r Q S E h
  refine ha φ M H σ r _ S E (Okd.bind h fun a M1 x φ1 H1 _ g1 S1 r1 h1 => ?_)
  cases a with
  | bl b =>
    unfold Rep at r1
    exact ⟨b, r1, h1.here S1 rfl⟩
  | _ => exact h1.elim
theorem dt_cmp {op : CmpOp} {r2 : R2} {f : F2} (h1 : OpR X (compareOp op) r2) (ho : Op2 X.K r2 f) (ha : DEx X W a da) (hb : DEx X W b db) (hm : behindInMarks op b = false := by first | exact nomark _ | rfl) : DTx X W (.Compare a [op] [b] pos) (dTest (dBin f da db)) := by
  obtain ⟨_, p1, s1⟩ := ha
  obtain ⟨_, p2, s2⟩ := hb
  exact ⟨_, pt_cmpR h1 p1 p2 hm, sim_test (sim_op ho s1 s2)⟩
theorem dt_val (ha : DEx X W a da) (he : ∀ whole, isTrue a X.env whole = (do let v ← whole; standAt a.pos; holding [v] (truthy v)) := by intro _; rfl) : DTx X W a (dTest da) := by
  obtain ⟨_, p1, s1⟩ := ha
  exact ⟨_, pt_val p1 he, sim_test s1⟩
/-- a < b < c -/
def dChain (f f' : F2) (da db dc : DE) : DE := fun r M => (da r M).bind fun x M1 => (db r M1).bind fun y M2 => (f x y M2).bind fun z M3 => match z with
  | .bl true => (dc r M3).bind fun w M4 => f' y w M4
  | .bl false => .ok (.bl false) M3
  | _ => .no
end
end LF
set_option Elab.async false
set_option linter.all false
set_option maxRecDepth 100000
set_option maxHeartbeats 2000000
namespace LF
open PySem PySem.Spec PyProof.Rows L2
section
variable {X : Cx} {W : WX} {pos : Pos} {a b c : Expr} {da db dc : DE} {ta' tb' : DT} {rest : List Expr}
theorem sim_chain {K : Frg} {r2 r2' : R2} {f f' : F2} {ta tb tc : TE} (ho : Op2 K r2 f) (ho' : Op2 K r2' f') (ha : SimE K W ta da) (hb : SimE K W tb db) (hc : SimE K W tc dc) : SimE K W (tChain r2 r2' ta tb tc) (dChain f f' da db dc) := by
  intro φ M H σ r Q S E h
  refine ha φ M H σ r _ S E (Okd.bind h fun a M1 x φ1 H1 _ g1 S1 r1 h1 => ?_)
  refine hb φ1 M1 H1 σ r _ S1 (E.grow g1) (Okd.bind h1 fun b M2 y φ2 H2 _ g2 S2 r2 h2 => ?_)
  refine ho φ2 M2 H2 x y a b _ _ S2 (Rep.grow g2 _ _ r1) r2 (Okd.bind h2 fun z M3 v φ3 H3 _ g3 S3 r3 h3 => ?_)
  cases z with
  | bl k =>
    unfold Rep at r3
    refine ⟨k, r3, ?_⟩
    cases k with
    | true =>
      rw [if_pos rfl]
      refine hc φ3 M3 H3 σ r _ S3 ((E.grow g1).grow (g2.trans g3)) (Okd.bind h3 fun w M4 u φ4 H4 _ g4 S4 r4 h4 => ?_)
      exact ho' φ4 M4 H4 y u b w Q _ S4 (Rep.grow (g3.trans g4) _ _ r2) r4 h4
    | false =>
      rw [if_neg Bool.false_ne_true]
      exact h3.here S3 (by show Rep _ _ _ _ _; unfold Rep; rfl)
  | _ => exact h3.elim
theorem de_chain {op op' : CmpOp} {r2 r2' : R2} {f f' : F2} (h1 : OpR X (compareOp op) r2) (ho : Op2 X.K r2 f) (h2 : OpR X (compareOp op') r2') (ho' : Op2 X.K r2' f') (ha : DEx X W a da) (hb : DEx X W b db) (hc : DEx X W c dc)
    (hm : lastMarks [op, op'] [b, c] = false := by with_unfolding_all rfl) : DEx X W (.Compare a [op, op'] [b, c] pos) (dChain f f' da db dc) := by
  obtain ⟨_, p1, s1⟩ := ha
  obtain ⟨_, p2, s2⟩ := hb
  obtain ⟨_, p3, s3⟩ := hc
  exact ⟨_, pe_chain h1 h2 p1 p2 p3 hm, sim_chain ho ho' s1 s2 s3⟩
theorem dt_chain {op op' : CmpOp} {r2 r2' : R2} {f f' : F2} (h1 : OpR X (compareOp op) r2) (ho : Op2 X.K r2 f) (h2 : OpR X (compareOp op') r2') (ho' : Op2 X.K r2' f') (ha : DEx X W a da) (hb : DEx X W b db) (hc : DEx X W c dc)
    (hm : lastMarks [op, op'] [b, c] = false := by with_unfolding_all rfl) : DTx X W (.Compare a [op, op'] [b, c] pos) (dTest (dChain f f' da db dc)) := by
  obtain ⟨_, p1, s1⟩ := ha
  obtain ⟨_, p2, s2⟩ := hb
  obtain ⟨_, p3, s3⟩ := hc
  exact ⟨_, pt_chain h1 h2 p1 p2 p3 hm, sim_test (sim_chain ho ho' s1 s2 s3)⟩
def dAnd (t u : DT) : DT := fun r M => (t r M).bind fun b M1 => match b with
  | true => u r M1
  | false => .ok false M1
def dOr (t u : DT) : DT := fun r M => (t r M).bind fun b M1 => match b with
  | true => .ok true M1
  | false => u r M1
def dNot (t : DT) : DT := fun r M => (t r M).bind fun b M1 => .ok (!b) M1
theorem sim_and {K : Frg} {t u : TT} {dt du : DT} (ha : SimT K W t dt) (hb : SimT K W u du) : SimT K W (tAnd t u) (dAnd dt du) := by
  intro φ M H σ r Q S E h
  refine ha φ M H σ r _ S E (Okd.bind h fun b M1 x φ1 H1 _ g1 S1 r1 h1 => ?_)
  have e : x = b := r1
  subst e
  cases x with
  | true => rw [if_pos rfl]; exact hb φ1 M1 H1 σ r _ S1 (E.grow g1) h1
  | false => rw [if_neg Bool.false_ne_true]; exact h1.here S1 rfl
theorem sim_or {K : Frg} {t u : TT} {dt du : DT} (ha : SimT K W t dt) (hb : SimT K W u du) : SimT K W (tOr t u) (dOr dt du) := by
  intro φ M H σ r Q S E h
  refine ha φ M H σ r _ S E (Okd.bind h fun b M1 x φ1 H1 _ g1 S1 r1 h1 => ?_)
  have e : x = b := r1
  subst e
  cases x with
  | true => rw [if_pos rfl]; exact h1.here S1 rfl
  | false => rw [if_neg Bool.false_ne_true]; exact hb φ1 M1 H1 σ r _ S1 (E.grow g1) h1
theorem dt_w (h : DWx X W a ta') : DTx X W a ta' := let ⟨_, p, s⟩ := h; ⟨_, p.pt, s⟩
theorem dw_and1 (ha : DTx X W a ta') : DWx X W (.BoolOp .And [a] pos) ta' := let ⟨_, p, s⟩ := ha; ⟨_, pw_and1 p, s⟩
theorem dw_or1 (ha : DTx X W a ta') : DWx X W (.BoolOp .Or [a] pos) ta' := let ⟨_, p, s⟩ := ha; ⟨_, pw_or1 p, s⟩
theorem dw_and (ha : DTx X W a ta') (hb : DWx X W (.BoolOp .And (b :: rest) pos) tb') : DWx X W (.BoolOp .And (a :: b :: rest) pos) (dAnd ta' tb') := by
  obtain ⟨_, p1, s1⟩ := ha
  obtain ⟨_, p2, s2⟩ := hb
  exact ⟨_, pw_and p1 p2, sim_and s1 s2⟩
theorem dw_or (ha : DTx X W a ta') (hb : DWx X W (.BoolOp .Or (b :: rest) pos) tb') : DWx X W (.BoolOp .Or (a :: b :: rest) pos) (dOr ta' tb') := by
  obtain ⟨_, p1, s1⟩ := ha
  obtain ⟨_, p2, s2⟩ := hb
  exact ⟨_, pw_or p1 p2, sim_or s1 s2⟩
theorem dt_not (ha : DTx X W a ta') : DTx X W (.UnaryOp .Not a pos) (dNot ta') := by
  obtain ⟨_, p, s⟩ := ha
  refine ⟨_, pt_not p, fun φ M H σ r Q S E h => ?_⟩
  refine s φ M H σ r _ S E (Okd.bind h fun b M1 x φ1 H1 _ g1 S1 r1 h1 => ?_)
  have e : x = b := r1
  subst e
  exact h1.here S1 rfl
def dAndV (da db : DE) : DE := fun r M => (da r M).bind fun x M1 => match x with
  | .bl true => db r M1
  | .bl false => .ok (.bl false) M1
  | _ => .no
def dOrV (da db : DE) : DE := fun r M => (da r M).bind fun x M1 => match x with
  | .bl true => .ok (.bl true) M1
  | .bl false => db r M1
  | _ => .no
def dNotV (da : DE) : DE := fun r M => (da r M).bind fun x M1 => match x with
  | .bl b => .ok (.bl (!b)) M1
  | _ => .no
theorem rep_bl {K : Frg} {φ : Wd} {H : Hp} {b : Bool} : Rep K φ H (.bl b) (.bl b) := by unfold Rep; rfl
theorem rep_int {K : Frg} {φ : Wd} {H : Hp} {b : Int} : Rep K φ H (.int b) (.int b) := by unfold Rep; rfl
theorem rep_str {K : Frg} {φ : Wd} {H : Hp} {b : Str} : Rep K φ H (.str b) (.str b) := by unfold Rep; rfl
theorem rep_non {K : Frg} {φ : Wd} {H : Hp} : Rep K φ H .non .non := by unfold Rep; rfl
theorem de_one {op} (h : DEx X W a da) : DEx X W (.BoolOp op [a] pos) da := let ⟨_, p, s⟩ := h; ⟨_, pe_one p, s⟩
theorem de_and (ha : DEx X W a da) (hb : DEx X W (.BoolOp .And (b :: rest) pos) db) : DEx X W (.BoolOp .And (a :: b :: rest) pos) (dAndV da db) := by
  obtain ⟨_, p1, s1⟩ := ha
  obtain ⟨_, p2, s2⟩ := hb
  refine ⟨_, pe_and p1 p2, fun φ M H σ r Q S E h => ?_⟩
  refine s1 φ M H σ r _ S E (Okd.bind h fun d M1 x φ1 H1 _ g1 S1 r1 h1 => ?_)
  cases d with
  | bl k =>
    unfold RE Rep at r1
    refine ⟨k, r1, ?_⟩
    cases k with
    | true => rw [if_pos rfl]; exact s2 φ1 M1 H1 σ r _ S1 (E.grow g1) h1
    | false => rw [if_neg Bool.false_ne_true]; exact h1.here S1 rep_bl
  | _ => exact h1.elim
theorem de_or (ha : DEx X W a da) (hb : DEx X W (.BoolOp .Or (b :: rest) pos) db) : DEx X W (.BoolOp .Or (a :: b :: rest) pos) (dOrV da db) := by
  obtain ⟨_, p1, s1⟩ := ha
  obtain ⟨_, p2, s2⟩ := hb
  refine ⟨_, pe_or p1 p2, fun φ M H σ r Q S E h => ?_⟩
  refine s1 φ M H σ r _ S E (Okd.bind h fun d M1 x φ1 H1 _ g1 S1 r1 h1 => ?_)
  cases d with
  | bl k =>
    unfold RE Rep at r1
    refine ⟨k, r1, ?_⟩
    cases k with
    | true => rw [if_pos rfl]; exact h1.here S1 rep_bl
    | false => rw [if_neg Bool.false_ne_true]; exact s2 φ1 M1 H1 σ r _ S1 (E.grow g1) h1
  | _ => exact h1.elim
theorem de_not (ha : DEx X W a da) : DEx X W (.UnaryOp .Not a pos) (dNotV da) := by
  obtain ⟨_, p1, s1⟩ := ha
  refine ⟨_, pe_not p1, fun φ M H σ r Q S E h => ?_⟩
  refine s1 φ M H σ r _ S E (Okd.bind h fun d M1 x φ1 H1 _ g1 S1 r1 h1 => ?_)
  cases d with
  | bl k =>
    unfold RE Rep at r1
    exact ⟨k, r1, h1.here S1 rep_bl⟩
  | _ => exact h1.elim
def dIfE (t : DT) (da db : DE) : DE := fun r M => (t r M).bind fun b M1 => match b with
  | true => da r M1
  | false => db r M1
theorem de_ifexp (ht : DTx X W c ta') (ha : DEx X W a da) (hb : DEx X W b db) : DEx X W (.IfExp c a b pos) (dIfE ta' da db) := by
  obtain ⟨_, p, s⟩ := ht
  obtain ⟨_, p1, s1⟩ := ha
  obtain ⟨_, p2, s2⟩ := hb
  refine ⟨_, pe_ifExp p p1 p2, fun φ M H σ r Q S E h => ?_⟩
  refine s φ M H σ r _ S E (Okd.bind h fun k M1 x φ1 H1 _ g1 S1 r1 h1 => ?_)
  have e : x = k := r1
  subst e
  cases x with
  | true => rw [if_pos rfl]; exact s1 φ1 M1 H1 σ r _ S1 (E.grow g1) h1
  | false => rw [if_neg Bool.false_ne_true]; exact s2 φ1 M1 H1 σ r _ S1 (E.grow g1) h1
def dNil : DA := fun _ M => .ok [] M
def dCons (da : DE) (dr : DA) : DA := fun r M => (da r M).bind fun x M1 => (dr r M1).bind fun xs M2 => .ok (x :: xs) M2
variable {es : List Expr} {dr : DA}
theorem da_nil : DAx X W [] dNil := ⟨_, pa_nil, fun φ M H σ r Q S E h => h.here S RepL.nil⟩
theorem da_cons (ha : DEx X W a da) (hr : DAx X W es dr) (hs : starEach (a :: es) X.env = (false, eval a X.env) :: starEach es X.env := by rfl) : DAx X W (a :: es) (dCons da dr) := by
  obtain ⟨_, p1, s1⟩ := ha
  obtain ⟨_, p2, s2⟩ := hr
  refine ⟨_, pa_cons p1 p2 hs, fun φ M H σ r Q S E h => ?_⟩
  refine s1 φ M H σ r _ S E (Okd.bind h fun d M1 x φ1 H1 _ g1 S1 r1 h1 => ?_)
  refine s2 φ1 M1 H1 σ r _ S1 (E.grow g1) (Okd.bind h1 fun ds M2 xs φ2 H2 _ g2 S2 r2 h2 => ?_)
  exact h2.here S2 (RepL.cons (Rep.grow g2 _ _ r1) r2)
def lineB (n : Nat) : Bool := Nat.ble n 100000
theorem lineB_ok {n : Nat} (h : lineB n = true) : n ≤ sizeLine := Nat.le_trans (Nat.le_of_ble_eq_true h) (by rw [sizeLine_eq]; decide)
/-- a tuple, a list that will never change, a list of the arena -/
def dTup (da : DA) : DE := fun r M => (da r M).bind fun ds M1 => match lineB ds.length with
  | true => .ok (.tup ds) M1
  | false => .no
def dLst (da : DA) : DE := fun r M => (da r M).bind fun ds M1 => match lineB ds.length with
  | true => .ok (.lst ds) M1
  | false => .no
def dLstA (da : DA) : DE := fun r M => (da r M).bind fun ds M1 => match lineB ds.length with
  | true => .ok (.obj M1.length) (M1 ++ [.lst ds])
  | false => .no
theorem rep_tup_new {K : Frg} {φ : Wd} {M : Mem} {H : Hp} {p : Addr} {ds : List D} {xs : List V} (S : Sto K φ M H) (h : H p = none) (r : RepL K φ H ds xs) : Rep K φ (upd H p (.tup xs)) (.tup ds) (.ref p) := by
  unfold Rep
  exact ⟨p, xs, rfl, .inl ⟨S.fresh h, .inl upd_same⟩, RepL.grow (Grow.new h) _ _ r⟩
theorem rep_lst_new {K : Frg} {φ : Wd} {M : Mem} {H : Hp} {p : Addr} {ds : List D} {xs : List V} (S : Sto K φ M H) (h : H p = none) (r : RepL K φ H ds xs) : Rep K φ (upd H p (.lst xs)) (.lst ds) (.ref p) := by
  unfold Rep
  exact ⟨p, xs, rfl, .inl ⟨S.fresh h, .inl upd_same⟩, RepL.grow (Grow.new h) _ _ r⟩
theorem de_tup {x1} (ha : DAx X W es dr) : DEx X W (.Tuple es x1 pos) (dTup dr) := by
  obtain ⟨_, p1, s1⟩ := ha
  refine ⟨_, pe_tup p1, fun φ M H σ r Q S E h => ?_⟩
  refine s1 φ M H σ r _ S E (Okd.bind h fun ds M1 xs φ1 H1 _ g1 S1 r1 h1 => ?_)
  have r1 : RepL X.K φ1 H1 ds xs := r1
  cases hl : lineB ds.length with
  | true =>
    rw [hl] at h1
    exact ⟨by rw [r1.len]; exact lineB_ok hl, fun p hp => h1 _ _ _ (Grow.new hp) (S1.new hp) (rep_tup_new S1 hp r1)⟩
  | false => rw [hl] at h1; exact h1.elim
theorem de_lst (ha : DAx X W es dr) : DEx X W (.List es pos) (dLst dr) := by
  obtain ⟨_, p1, s1⟩ := ha
  refine ⟨_, pe_lst p1, fun φ M H σ r Q S E h => ?_⟩
  refine s1 φ M H σ r _ S E (Okd.bind h fun ds M1 xs φ1 H1 _ g1 S1 r1 h1 => ?_)
  have r1 : RepL X.K φ1 H1 ds xs := r1
  cases hl : lineB ds.length with
  | true =>
    rw [hl] at h1
    exact ⟨by rw [r1.len]; exact lineB_ok hl, fun p hp => h1 _ _ _ (Grow.new hp) (S1.new hp) (rep_lst_new S1 hp r1)⟩
  | false => rw [hl] at h1; exact h1.elim
theorem rep_obj_new {K : Frg} {φ : Wd} {M : Mem} {H : Hp} {p : Addr} (S : φ.ar.length = M.length) : Rep K (φ.add p) H (.obj M.length) (.ref p) := by
  unfold Rep
  exact ⟨p, by show (φ.ar ++ [p])[M.length]? = some p; rw [← S]; simp, rfl⟩
theorem de_lstA (ha : DAx X W es dr) : DEx X W (.List es pos) (dLstA dr) := by
  obtain ⟨_, p1, s1⟩ := ha
  refine ⟨_, pe_lst p1, fun φ M H σ r Q S E h => ?_⟩
  refine s1 φ M H σ r _ S E (Okd.bind h fun ds M1 xs φ1 H1 _ g1 S1 r1 h1 => ?_)
  have r1 : RepL X.K φ1 H1 ds xs := r1
  cases hl : lineB ds.length with
  | true =>
    rw [hl] at h1
    refine ⟨by rw [r1.len]; exact lineB_ok hl, fun p hp => h1 _ _ _ (Grow.alloc hp) (S1.alloc hp ⟨xs, upd_same, RepL.grow (Grow.alloc hp) _ _ r1⟩) ?_⟩
    exact rep_obj_new S1.len
  | false => rw [hl] at h1; exact h1.elim
def dCB (f : FN) (da : DA) : DE := fun r M => (da r M).bind f
variable {e : Expr} {p : Pos} {x : Str}
theorem sim_cb {K : Frg} {rN : List V → Hp → VK → Prop} {f : FN} {t : TA} (ho : OpN K rN f) (ha : SimA K W t dr) : SimE K W (tCB rN t) (dCB f dr) := by
  intro φ M H σ r Q S E h
  refine ha φ M H σ r _ S E (Okd.bind h fun ds M1 xs φ1 H1 _ g1 S1 r1 h1 => ?_)
  exact ho φ1 M1 H1 xs ds Q _ S1 r1 h1
theorem de_callB {id : String} {rN : List V → Hp → VK → Prop} {f : FN} (hc : CallR X (.builtin id) rN) (ho : OpN X.K rN f) (hg : Gl X x) (hm : X.mg x = none) (hv : bootBuiltins x = some (.builtin id)) (ha : DAx X W (e :: es) dr)
    (hn : x ≠ "__name__" := by decide) (hdb : (x == ("__debug__" : Str)) = false := by decide) (he : starEach (e :: es) X.env = (false, eval e X.env) :: starEach es X.env := by rfl) (hpl : (backTo pos (starEach es X.env)).any (·.1) = false := by rfl) :
    DEx X W (.Call (.Name x p) (e :: es) [] pos) (dCB f dr) := by
  obtain ⟨_, p1, s1⟩ := ha
  exact ⟨_, pe_callB hc hg hm hv p1 hn hdb he hpl, sim_cb ho s1⟩
theorem de_callTy {T : String} {rN : List V → Hp → VK → Prop} {f : FN} (hc : CallR X (.type T) rN) (ho : OpN X.K rN f) (hg : Gl X x) (hm : X.mg x = none) (hv : bootBuiltins x = some (.type T)) (ha : DAx X W (e :: es) dr)
    (hn : x ≠ "__name__" := by decide) (hdb : (x == ("__debug__" : Str)) = false := by decide) (he : starEach (e :: es) X.env = (false, eval e X.env) :: starEach es X.env := by rfl) (hpl : (backTo pos (starEach es X.env)).any (·.1) = false := by rfl) :
    DEx X W (.Call (.Name x p) (e :: es) [] pos) (dCB f dr) := by
  obtain ⟨_, p1, s1⟩ := ha
  exact ⟨_, pe_callTy hc hg hm hv p1 hn hdb he hpl, sim_cb ho s1⟩
/-- a def's promise: it does what F does -/
def SpD (K : Frg) (n : Nat) (F : FN) : Sp := fun vs H Q E => ∃ φ M ds, ds.length = n ∧ Sto K φ M H ∧ RepL K φ H ds vs ∧ Okd K φ H (RE K) (F ds M) Q E
def dCall (n : Nat) (F : FN) (da : DA) : DE := fun r M => (da r M).bind fun ds M1 => match Nat.beq ds.length n with
  | true => F ds M1
  | false => .no
theorem sim_call {K : Frg} {n : Nat} {F : FN} {t : TA} (ha : SimA K W t dr) : SimE K W (tCallS (SpD K n F) (WE W) t) (dCall n F dr) := by
  intro φ M H σ r Q S E h
  refine ha φ M H σ r _ S E (Okd.bind h fun ds M1 xs φ1 H1 _ g1 S1 r1 h1 => ?_)
  cases hn : Nat.beq ds.length n with
  | true =>
    rw [hn] at h1
    exact ⟨φ1, M1, ds, Nat.eq_of_beq_eq_true hn, S1, r1, h1⟩
  | false => rw [hn] at h1; exact h1.elim
/-- a def that stands at the module's name x -/
structure DefOk (m : Md) (P : Program) (w : World) (K : Frg) (mg : Str → Option Value) (base : Heap) (k : Nat) (x : Str) (n : Nat) (F : FN) : Prop where
  ex : ∃ f fd ps, mg x = some (.ref f) ∧ PySem.W.keepIn K (.ref f) = true ∧ Binds K fd ps [] ∧ FnOk P w K mg base (CXm m P w) k f fd ps (SpD K n F)
theorem de_call {m : Md} {k n : Nat} {F : FN} (G : DefOk m X.prog X.w X.K X.mg X.base k x n F) (hr : Room k X.A) (tk : Tk m X W) (hg : Gl X x) (ha : DAx X W (e :: es) dr)
    (hdb : (x == ("__debug__" : Str)) = false := by decide) (he : starEach (e :: es) X.env = (false, eval e X.env) :: starEach es X.env := by rfl) (hpl : (backTo pos (starEach es X.env)).any (·.1) = false := by rfl) :
    DEx X W (.Call (.Name x p) (e :: es) [] pos) (dCall n F dr) := by
  obtain ⟨f, fd, ps, hm, kp, hb, hF⟩ := G.ex
  obtain ⟨_, p1, s1⟩ := ha
  exact ⟨_, pe_callS hF hr hg hm kp hb (fun σ => passTk tk σ) p1 hdb he hpl, sim_call s1⟩
end
end LF
set_option Elab.async false
set_option linter.all false
set_option maxRecDepth 100000
set_option maxHeartbeats 2000000
namespace LF
open PySem PySem.Spec PyProof.Rows L2
section
variable {X : Cx} {W : WX} {pos : Pos} {e : Expr} {de : DE} {dt : DT} {st : Stmt} {rest : List Stmt} {d1 d2 : DS}
def dNext : DS := fun r M => .nx r M
def dSeq (a b : DS) : DS := fun r M => match a r M with
  | .nx r1 M1 => b r1 M1
  | o => o
theorem db_nil : DBx X W [] dNext := ⟨_, pss_nil, fun φ M H σ r E S er h => h σ φ H Grow.refl S er⟩
theorem db_one (h : DSx X W st d1) : DBx X W [st] d1 := let ⟨_, p, s⟩ := h; ⟨_, pss_one p, s⟩
theorem sim_seq {K : Frg} {t u : TS} (h1 : SimS K W t d1) (h2 : SimS K W u d2) : SimS K W (tSeq t u) (dSeq d1 d2) := by
  intro φ M H σ r E S er h
  refine h1 φ M H σ r { E with nx := u E } S er ?_
  unfold dSeq at h
  cases q : d1 r M with
  | nx r1 M1 =>
    rw [q] at h
    exact fun σ' φ' H' g S' er' => h2 φ' M1 H' σ' r1 E S' er' (OkS.grow g h)
  | _ => rw [q] at h; exact h
theorem db_cons (h1 : DSx X W st d1) (h2 : DBx X W rest d2) : DBx X W (st :: rest) (dSeq d1 d2) := by
  obtain ⟨_, p1, s1⟩ := h1
  obtain ⟨_, p2, s2⟩ := h2
  exact ⟨_, pss_cons p1 p2, sim_seq s1 s2⟩
def dExpr (de : DE) : DS := fun r M => (de r M).bindS r fun _ M1 => .nx r M1
theorem ds_expr (he : DEx X W e de) (hs : swapsWith e none pos.line X.env = pure false := by rfl) : DSx X W (.Expr e pos) (dExpr de) := by
  obtain ⟨_, p, s⟩ := he
  refine ⟨_, ps_expr p hs, fun φ M H σ r E S er h => ?_⟩
  exact s φ M H σ r _ S er (OkS.bind er h fun a M1 b φ1 H1 _ g1 S1 _ h1 => h1 σ φ1 H1 Grow.refl S1 (er.grow g1))
def dRet (de : DE) : DS := fun r M => (de r M).bindS r fun d M1 => .rt d M1
theorem ds_ret (he : DEx X W e de) : DSx X W (.Return (some e) pos) (dRet de) := by
  obtain ⟨_, p, s⟩ := he
  refine ⟨_, ps_ret p, fun φ M H σ r E S er h => ?_⟩
  exact s φ M H σ r _ S er (OkS.bind er h fun a M1 b φ1 H1 _ g1 S1 r1 h1 => h1 b φ1 H1 Grow.refl S1 r1)
def dIf (t : DT) (a b : DS) : DS := fun r M => (t r M).bindS r fun k M1 => match k with
  | true => a r M1
  | false => b r M1
theorem ds_if {c : Expr} {a b : List Stmt} (hc : DTx X W c dt) (ha : DBx X W a d1) (hb : DBx X W b d2) : DSx X W (.If c a b pos) (dIf dt d1 d2) := by
  obtain ⟨_, p, s⟩ := hc
  obtain ⟨_, p1, s1⟩ := ha
  obtain ⟨_, p2, s2⟩ := hb
  refine ⟨_, ps_if p p1 p2, fun φ M H σ r E S er h => ?_⟩
  refine s φ M H σ r _ S er (OkS.bind er h fun k M1 b φ1 H1 _ g1 S1 r1 h1 => ?_)
  have q : b = k := r1
  subst q
  cases b with
  | true => rw [if_pos rfl]; exact s1 φ1 M1 H1 σ r E S1 (er.grow g1) h1
  | false => rw [if_neg Bool.false_ne_true]; exact s2 φ1 M1 H1 σ r E S1 (er.grow g1) h1
def gSlot (i : Nat) : DG := fun d r M => .ok (r.set i (some d)) M
theorem sim_gName {K : Frg} {i : Nat} : SimG K W (gName i) (gSlot i) := fun φ M H σ r x d Q S er rx h => h _ φ H Grow.refl S (er.set rx)
theorem dg_name {i : Nat} {x : Str} (hN : X.N.Nodup) (hi : X.N[i]? = some x) (hx : Loc X.env.scope x) (hf : X.fn x = true ∨ X.env.scope.names.lookup x = some .local := by first | exact .inl rfl | exact .inr rfl | assumption) : DGx X W (.Name x pos) (gSlot i) :=
  ⟨_, pg_name hN hi hx hf, sim_gName⟩
def gsNil : List D → Env' → Mem → Out Env' := fun ds r M => match ds with
  | [] => .ok r M
  | _ => .no
def gsCons (g : DG) (gs : List D → Env' → Mem → Out Env') : List D → Env' → Mem → Out Env' := fun ds r M => match ds with
  | d :: ds => (match g d r M with
    | .ok r1 M1 => gs ds r1 M1
    | _ => .no)
  | [] => .no
theorem dgs_nil : DGsx X W [] gsNil := ⟨_, pgs_nil, fun φ M H σ r xs ds Q S er rx h => by
  cases ds with
  | nil => exact ⟨rx.inv0, h σ φ H Grow.refl S er⟩
  | cons d ds => exact h.elim⟩
theorem dgs_cons {e : Expr} {es : List Expr} {g : DG} {gs : List D → Env' → Mem → Out Env'} (h1 : DGx X W e g) (h2 : DGsx X W es gs)
    (hs : (assignEach (e :: es) X.env).map (·.2) = assign e X.env :: (assignEach es X.env).map (·.2) := by rfl) : DGsx X W (e :: es) (gsCons g gs) := by
  obtain ⟨_, p1, s1⟩ := h1
  obtain ⟨_, p2, s2⟩ := h2
  refine ⟨_, pgs_cons p1 p2 hs, fun φ M H σ r xs ds Q S er rx h => ?_⟩
  cases ds with
  | nil => exact h.elim
  | cons d ds =>
    obtain ⟨v, rr, rfl, r1, r2⟩ := rx.inv
    have h : (match (match g d r M with
      | .ok r1 M1 => gs ds r1 M1
      | _ => .no) with
      | .ok r1 M1 => ∀ σ' φ' H', Grow φ H φ' H' → Sto X.K φ' M1 H' → EnvR X.K φ' H' r1 σ' → Q σ' H'
      | _ => False) := h
    refine ⟨v, rr, rfl, s1 φ M H σ r v d _ S er r1 ?_⟩
    cases q : g d r M with
    | ok r3 M3 =>
      rw [q] at h
      dsimp only at h
      intro σ' φ' H' g' S' er'
      refine s2 φ' M3 H' σ' r3 rr ds _ S' er' (RepL.grow g' _ _ r2) ?_
      cases q2 : gs ds r3 M3 with
      | ok r4 M4 => rw [q2] at h; exact fun σ2 φ2 H2 g2 => h σ2 φ2 H2 (g'.trans g2)
      | _ => rw [q2] at h; exact h.elim
    | _ => rw [q] at h; exact h.elim
def gTupD (n : Nat) (gs : List D → Env' → Mem → Out Env') : DG := fun d r M => match d with
  | .tup ds => (match Nat.beq ds.length n with
    | true => gs ds r M
    | false => .no)
  | _ => .no
theorem dg_tup {es : List Expr} {k n : Nat} {gs : List D → Env' → Mem → Out Env'} (hc : X.calm = true) (h : DGsx X W es gs) (hn : (assignEach es X.env).length = n := by rfl) (hst : (assignEach es X.env).findIdx? (·.1) = none := by rfl) : DGx X W (.Tuple es k pos) (gTupD n gs) := by
  obtain ⟨_, p, s⟩ := h
  refine ⟨_, pg_tup hc p hn hst, fun φ M H σ r x d Q S er rx h => ?_⟩
  cases d with
  | tup ds =>
    unfold Rep at rx
    obtain ⟨a, xs, rfl, h1, h2⟩ := rx
    have h : (match (match Nat.beq ds.length n with
      | true => gs ds r M
      | false => .no) with
      | .ok r1 M1 => ∀ σ' φ' H', Grow φ H φ' H' → Sto X.K φ' M1 H' → EnvR X.K φ' H' r1 σ' → Q σ' H'
      | _ => False) := h
    cases hb : Nat.beq ds.length n with
    | true =>
      rw [hb] at h
      exact ⟨a, xs, rfl, h1.sq, by rw [h2.len]; exact Nat.eq_of_beq_eq_true hb, s φ M H σ r xs ds Q S er h2 h⟩
    | false => rw [hb] at h; exact h.elim
  | _ => exact h.elim
def dAsg (de : DE) (g : DG) : DS := fun r M => (de r M).bindS r fun d M1 => match g d r M1 with
  | .ok r1 M2 => .nx r1 M2
  | _ => .no
theorem sim_asg {K : Frg} {te : TE} {g : TG} {dg : DG} (he : SimE K W te de) (hg : SimG K W g dg) : SimS K W (tAsg te g) (dAsg de dg) := by
  intro φ M H σ r E S er h
  refine he φ M H σ r _ S er (OkS.bind er h fun d M1 x φ1 H1 _ g1 S1 r1 h1 => ?_)
  refine hg φ1 M1 H1 σ r x d _ S1 (er.grow g1) r1 ?_
  cases q : dg d r M1 with
  | ok r2 M2 => rw [q] at h1; exact h1
  | _ => rw [q] at h1; exact h1.elim
theorem ds_set {i : Nat} {x : Str} {pos' : Pos} (hN : X.N.Nodup) (hi : X.N[i]? = some x) (hx : Loc X.env.scope x) (he : DEx X W e de) (hs : swapsWith e (some (.Name x pos')) pos.line X.env = pure false := by rfl)
    (hf : X.fn x = true ∨ X.env.scope.names.lookup x = some .local := by first | exact .inl rfl | exact .inr rfl | assumption) : DSx X W (.Assign [.Name x pos'] e pos) (dAsg de (gSlot i)) := by
  obtain ⟨_, p, s⟩ := he
  exact ⟨_, ps_set hN hi hx p hs hf, sim_asg s sim_gName⟩
/-- x op= e -/
def dAug (i : Nat) (f : F2) (de : DE) : DS := fun r M => match r[i]? with
  | some (some x) => (de r M).bindS r fun y M1 => match f x y M1 with
    | .ok z M2 => .nx (r.set i (some z)) M2
    | _ => .no
  | _ => .no
theorem ds_aug {i : Nat} {x : Str} {op : Operator} {ti : TIp} {f : F2} {pos' : Pos} (hN : X.N.Nodup) (hi : X.N[i]? = some x) (hx : Loc X.env.scope x) (he : DEx X W e de) (ho : PIp X op ti) (hf2 : Op2 X.K ti f)
    (hf : X.fn x = true ∨ X.env.scope.names.lookup x = some .local := by first | exact .inl rfl | exact .inr rfl | assumption) : DSx X W (.AugAssign (.Name x pos') op e pos) (dAug i f de) := by
  obtain ⟨_, p, s⟩ := he
  refine ⟨_, ps_aug hN hi hx p ho hf, fun φ M H σ r E S er h => ?_⟩
  unfold dAug at h
  split at h
  · rename_i d ed
    obtain ⟨v, e1, e2⟩ := er.at_ i d ed
    refine ⟨v, e1, s φ M H σ r _ S er (OkS.bind er h fun y M1 w φ1 H1 _ g1 S1 r1 h1 => ?_)⟩
    cases q : f d y M1 with
    | ok z M2 =>
      rw [q] at h1
      refine hf2 φ1 M1 H1 v w d y _ (fun _ _ _ => False) S1 (Rep.grow g1 _ _ e2) r1 ?_
      rw [q]
      exact fun b φ' H' g' S' r' => h1 _ φ' H' g' S' ((er.grow (g1.trans g')).set r')
    | _ => rw [q] at h1; exact h1.elim
  · exact h.elim
structure Src where
  items : List D
  chk : Mem → Bool
abbrev FzS (H H' : Hp) : Prop := ∀ a o u, H a = some (.frz o u) → H' a = some (.frz o u)
def Serves (K : Frg) (φ1 : Wd) (H1 : Hp) (src : Src) (J : It) : Prop := ∀ (i : Nat) φ M H, Mo φ1 H1 φ H → FzS H1 H → Sto K φ M H → src.chk M = true → (i = src.items.length → J.stop i H) ∧
  ∀ d, src.items[i]? = some d → J.go i H ∧ ∀ x H', J.yld i H x H' → ∃ φ', Grow φ H φ' H' ∧ Sto K φ' M H' ∧ Rep K φ' H' d x
abbrev DI := Env' → Mem → Out Src
def SimI (K : Frg) (W : WX) (wi : TI) (di : DI) : Prop := ∀ φ M H σ r R, Sto K φ M H → EnvR K φ H r σ → Okd K φ H (fun φ H => Serves K φ H) (di r M) R (fun c d H' => W c d σ H') → wi σ H R
def DIx (X : Cx) (W : WX) (tg iter : Expr) (di : DI) : Prop := ∃ wi, PI X tg iter wi ∧ SimI X.K W wi di
def forL (chk : Mem → Bool) (dg : DG) (body : DS) : List D → Env' → Mem → SO
  | [], r, M => (match chk M with
    | true => .nx r M
    | false => .no)
  | d :: ds, r, M => match chk M with
    | true => (match dg d r M with
      | .ok r1 M1 => (match body r1 M1 with
        | .nx r2 M2 => forL chk dg body ds r2 M2
        | .ct r2 M2 => forL chk dg body ds r2 M2
        | .bk r2 M2 => .nx r2 M2
        | o => o)
      | _ => .no)
    | false => .no
def dFor (di : DI) (dg : DG) (body : DS) : DS := fun r M => (di r M).bindS r fun src M1 => forL src.chk dg body src.items r M1
theorem sim_for {K : Frg} {wi : TI} {g : TG} {tb : TS} {di : DI} {dg : DG} {body : DS} (hi : SimI K W wi di) (hg : SimG K W g dg) (hb : SimS K W tb body) : SimS K W (tFor wi g tb) (dFor di dg body) := by
  intro φ M H σ r E S er h
  refine hi φ M H σ r _ S er (OkS.bind er h fun src M1 J φ1 H1 _ g1 S1 sv h1 => ?_)
  refine ⟨fun i m σ H => m = src.items.length - i ∧ i ≤ src.items.length ∧ ∃ φ M r, Grow φ1 H1 φ H ∧ Sto K φ M H ∧ EnvR K φ H r σ ∧ OkS K φ H (forL src.chk dg body (src.items.drop i) r M) E W,
    ⟨_, rfl, Nat.zero_le _, φ1, M1, r, Grow.refl, S1, er.grow g1, h1⟩, ?_⟩
  rintro i m σ2 H2 ⟨rfl, hi, φ2, M2, r2, g2, S2, er2, h2⟩
  by_cases hlt : i < src.items.length
  · have hd : src.items.drop i = src.items[i] :: src.items.drop (i + 1) := List.drop_eq_getElem_cons hlt
    rw [hd] at h2
    unfold forL at h2
    cases hc : src.chk M2 with
    | false => rw [hc] at h2; exact h2.elim
    | true =>
      rw [hc] at h2
      obtain ⟨_, sv2⟩ := sv i φ2 M2 H2 g2.mo g2.frz S2 hc
      obtain ⟨go, yl⟩ := sv2 src.items[i] (List.getElem?_eq_getElem hlt)
      refine .inr ⟨go, fun σ' H' => ∃ φ M r, Grow φ1 H1 φ H' ∧ Sto K φ M H' ∧ EnvR K φ H' r σ' ∧ OkS K φ H' (forL src.chk dg body (src.items.drop (i + 1)) r M) E W, fun σ' H' n => ⟨_, by omega, rfl, hlt, n⟩, fun x H3 hy => ?_⟩
      obtain ⟨φ3, g3, S3, r3⟩ := yl x H3 hy
      refine hg φ3 M2 H3 σ2 r2 x src.items[i] _ S3 (er2.grow g3) r3 ?_
      cases q : dg src.items[i] r2 M2 with
      | ok r4 M4 =>
        rw [q] at h2
        dsimp only at h2
        intro σ' φ' H' g' S' er'
        refine hb φ' M4 H' σ' r4 _ S' er' ?_
        have h3 := OkS.grow (g3.trans g') h2
        cases q2 : body r4 M4 with
        | nx r5 M5 => rw [q2] at h3; exact fun σ5 φ5 H5 g5 S5 er5 => ⟨φ5, M5, r5, (g2.trans (g3.trans g')).trans g5, S5, er5, OkS.grow g5 h3⟩
        | ct r5 M5 => rw [q2] at h3; exact fun σ5 φ5 H5 g5 S5 er5 => ⟨φ5, M5, r5, (g2.trans (g3.trans g')).trans g5, S5, er5, OkS.grow g5 h3⟩
        | bk r5 M5 => rw [q2] at h3; exact h3
        | rt d M5 => rw [q2] at h3; exact h3
        | ex x r5 M5 => rw [q2] at h3; exact h3
        | no => rw [q2] at h3; exact h3
      | _ => rw [q] at h2; exact h2.elim
  · have e : i = src.items.length := by omega
    subst e
    rw [List.drop_length] at h2
    unfold forL at h2
    cases hc : src.chk M2 with
    | false => rw [hc] at h2; exact h2.elim
    | true =>
      rw [hc] at h2
      exact .inl ⟨(sv _ φ2 M2 H2 g2.mo g2.frz S2 hc).1 rfl, h2 σ2 φ2 H2 Grow.refl S2 er2⟩
theorem ds_for {tg iter : Expr} {body : List Stmt} {di : DI} {dg : DG} {db : DS} (hp : PassesOwn (model X.prog X.w) X.A X.env X.xe) (hc : X.calm = true) (hi : DIx X W tg iter di) (hg : DGx X W tg dg) (hb : DBx X W body db)
    (hs : ∀ x, foldedSetIterable iter X.env x = pure x := by intro _; rfl) : DSx X W (.For tg iter body [] pos) (dFor di dg db) := by
  obtain ⟨_, p, s⟩ := hi
  obtain ⟨_, p1, s1⟩ := hg
  obtain ⟨_, p2, s2⟩ := hb
  exact ⟨_, ps_for hp hc p p1 p2 hs, sim_for s s1 s2⟩
def whileN (c : DT) (b : DS) : Nat → Env' → Mem → SO
  | 0, _, _ => .no
  | n + 1, r, M => (c r M).bindS r fun k M1 => match k with
    | true => (match b r M1 with
      | .nx r2 M2 => whileN c b n r2 M2
      | .ct r2 M2 => whileN c b n r2 M2
      | .bk r2 M2 => .nx r2 M2
      | o => o)
    | false => .nx r M1
def dWhile (n : Nat) (c : DT) (b : DS) : DS := fun r M => whileN c b n r M
theorem ds_while {c : Expr} {body : List Stmt} {db : DS} (n : Nat) (hp : PassesOwn (model X.prog X.w) X.A X.env X.xe) (hc : DTx X W c dt) (hb : DBx X W body db) : DSx X W (.While c body [] pos) (dWhile n dt db) := by
  obtain ⟨_, p, s⟩ := hc
  obtain ⟨_, p1, s1⟩ := hb
  refine ⟨_, ps_while hp p p1, fun φ M H σ r E S er h => ?_⟩
  refine ⟨fun m σ H => ∃ φ M r, Sto X.K φ M H ∧ EnvR X.K φ H r σ ∧ OkS X.K φ H (whileN dt db m r M) E W, ⟨n, φ, M, r, S, er, h⟩, ?_⟩
  rintro m σ2 H2 ⟨φ2, M2, r2, S2, er2, h2⟩
  cases m with
  | zero => exact h2.elim
  | succ m =>
    unfold whileN at h2
    refine s φ2 M2 H2 σ2 r2 _ S2 er2 (OkS.bind er2 h2 fun k M3 b φ3 H3 _ g3 S3 r3 h3 => ?_)
    have q : b = k := r3
    subst q
    cases b with
    | false => rw [if_neg Bool.false_ne_true]; exact h3 σ2 φ3 H3 Grow.refl S3 (er2.grow g3)
    | true =>
      rw [if_pos rfl]
      refine ⟨fun σ' H' => ∃ φ M r, Sto X.K φ M H' ∧ EnvR X.K φ H' r σ' ∧ OkS X.K φ H' (whileN dt db m r M) E W, fun σ' H' n => ⟨m, Nat.lt_succ_self m, n⟩, ?_⟩
      refine s1 φ3 M3 H3 σ2 r2 _ S3 (er2.grow g3) ?_
      have h3 : OkS X.K φ3 H3 (match db r2 M3 with
        | .nx r2 M2 => whileN dt db m r2 M2
        | .ct r2 M2 => whileN dt db m r2 M2
        | .bk r2 M2 => .nx r2 M2
        | o => o) E W := h3
      cases q2 : db r2 M3 with
      | nx r5 M5 => rw [q2] at h3; exact fun σ5 φ5 H5 g5 S5 er5 => ⟨φ5, M5, r5, S5, er5, OkS.grow g5 h3⟩
      | ct r5 M5 => rw [q2] at h3; exact fun σ5 φ5 H5 g5 S5 er5 => ⟨φ5, M5, r5, S5, er5, OkS.grow g5 h3⟩
      | bk r5 M5 => rw [q2] at h3; exact h3
      | rt d M5 => rw [q2] at h3; exact h3
      | ex x r5 M5 => rw [q2] at h3; exact h3
      | no => rw [q2] at h3; exact h3
def dRaise (c : Str) : DS := fun r M => .ex ⟨c, [], []⟩ r M
/-- what the top says of such a class -/
structure ExcOk (K : Frg) (mg : Str → Option Value) (x : Str) : Prop where
  g : mg x = some (.ref (He.ga K x))
  e : PySem.W.excIn K (He.ga K x) He.veBase "ValueError.__new__" = true
  k : PySem.W.keepIn K (.ref (He.ga K x)) = true
  b : PySem.W.subIn K (.ref (He.ga K x)) (.type "BaseException") = some true
  t : PySem.W.typeIn K (.ref (He.ga K x)) = some (.type "type")
theorem ds_raise {md : Md} {x m : Str} {j : Nat} {p p2 pos pos2 : Pos} (T : ExcOk X.K X.mg x) (hc : X.calm = true) (tk : Tk md X W) (hg : Gl X x) (hdb : (x == ("__debug__" : Str)) = false := by decide) :
    DSx X W (.Raise (some (.Call (.Name x p) [.Constant (.str m) j p2] [] pos)) none pos2) (dRaise x) := by
  refine ⟨_, L2N.ps_raise hc tk.n (L2N.pmk_own PySem.F.excBase_ValueError T.e T.g T.k (raises_own T.b T.t) hg hdb), fun φ M H σ r E S er h => ?_⟩
  exact h _ _ σ φ H Grow.refl S er ⟨rfl, [], .inl ⟨rfl, rfl⟩, rfl, RepL.nil⟩
end
def runB (n : Nat) (b : DS) : FN := fun ds M => match b (ds.map some ++ List.replicate (n - ds.length) none) M with
  | .nx _ M1 => .ok .non M1
  | .rt d M1 => .ok d M1
  | .ex e _ M1 => .ex e M1
  | _ => .no
section
variable {P : Program} {w : World} {K : Frg} {mg : Str → Option Value} {base : Heap}
theorem fn_by {m : Md} {x qual : Str} {params : Arguments} {body : List Stmt} {scope : Scope} {dvs : List V} {kws : List (Str × V)} {f : Addr} {fd : FuncData} {N ps : List Str} {k : Nat} {b : DS} {F : FN} (G : FunD K x qual params body scope dvs kws f fd) (S : FnScope N ps scope)
    (hb : ∀ (cdv : Value) (A : Around) (outer : List Env) (s : Shared) (H : Hp) (E : XK), Room k (A.deeper (envOfC qual scope s.heap.objs.size f cdv)) → Tk m (cxOf (CXm m P w) P w K mg base N qual scope f cdv A outer s H E) (fun cls d _ H => E cls d H) →
      PassesOwn (model P w) (A.deeper (envOfC qual scope s.heap.objs.size f cdv)) (envOfC qual scope s.heap.objs.size f cdv) (cxOf (CXm m P w) P w K mg base N qual scope f cdv A outer s H E).xe →
      DBx (cxOf (CXm m P w) P w K mg base N qual scope f cdv A outer s H E) (fun cls d _ H => E cls d H) body b)
    (hF : ∀ ds M, ds.length = ps.length → F ds M ≠ .no → F ds M = runB N.length b ds M) : FnOk P w K mg base (CXm m P w) (k + 1) f fd ps (SpD K ps.length F) := by
  refine G.ok S (fun vs H Q E h => ?_) (fun cdv A outer s H vs Q E hr h => ?_)
  · obtain ⟨φ, M, ds, e, _, r, _⟩ := h
    rw [r.len, e]
  · obtain ⟨φ, M, ds, e, St, r, h⟩ := h
    obtain ⟨t, p, sim⟩ := hb cdv A outer s H E hr tk_of (passes_of rfl)
    refine ⟨t, p, sim φ M H _ (ds.map some ++ List.replicate (N.length - ds.length) none) _ St (EnvR.start N r) ?_⟩
    have ne : F ds M ≠ .no := fun z => by rw [z] at h; exact h
    rw [hF ds M e ne] at h
    unfold runB at h
    cases q : b (ds.map some ++ List.replicate (N.length - ds.length) none) M with
    | nx r1 M1 => rw [q] at h; exact fun σ' φ' H' g S' er' => h _ φ' H' g S' rep_non
    | rt d M1 => rw [q] at h; exact h
    | ex x r1 M1 => rw [q] at h; exact fun c dd σ' φ' H' g S' _ x => h c dd φ' H' g S' x
    | bk r1 M1 => rw [q] at h; exact h.elim
    | ct r1 M1 => rw [q] at h; exact h.elim
    | no => rw [q] at h; exact h.elim
end
end LF
set_option Elab.async false
set_option linter.all false
set_option maxRecDepth 100000
set_option maxHeartbeats 2000000
namespace LF
open PySem PySem.Spec PyProof.Rows L2
section
variable {K : Frg} {φ : Wd} {M : Mem} {H : Hp} {W : XK} {Q : VK}
theorem okI {i : Int} (S : Sto K φ M H) (h : Okd K φ H (RE K) (.ok (.int i) M) Q W) : Q (.int i) H := h.here S rep_int
theorem okB {i : Bool} (S : Sto K φ M H) (h : Okd K φ H (RE K) (.ok (.bl i) M) Q W) : Q (.bl i) H := h.here S rep_bl
theorem okT {i : Str} (S : Sto K φ M H) (h : Okd K φ H (RE K) (.ok (.str i) M) Q W) : Q (.str i) H := h.here S rep_str
theorem rep_int_inv {i : Int} {v : V} (h : Rep K φ H (.int i) v) : v = .int i := by unfold Rep at h; exact h
theorem rep_str_inv {i : Str} {v : V} (h : Rep K φ H (.str i) v) : v = .str i := by unfold Rep at h; exact h
theorem rep_bl_inv {i : Bool} {v : V} (h : Rep K φ H (.bl i) v) : v = .bl i := by unfold Rep at h; exact h
theorem rep_non_inv {v : V} (h : Rep K φ H .non v) : v = .non := by unfold Rep at h; exact h
end
def fI2 (p : Int → Int → Bool) (g : Int → Int → D) : F2 := fun x y M => match x, y with
  | .int i, .int j => (match p i j with
    | true => .ok (g i j) M
    | false => .no)
  | _, _ => .no
theorem op2_I {K : Frg} {C : Int → Int → Prop} {p : Int → Int → Bool} {g : Int → Int → Int} (hp : ∀ i j, p i j = true → C i j) : Op2 K (rI C fun i j => .int (g i j)) (fI2 p fun i j => .int (g i j)) := by
  intro φ M H x y a b Q W S ra rb h
  cases a with
  | int i =>
    cases b with
    | int j =>
      have h : Okd K φ H (RE K) (match p i j with
        | true => .ok (.int (g i j)) M
        | false => .no) Q W := h
      cases q : p i j with
      | true => rw [q] at h; exact ⟨i, j, rep_int_inv ra, rep_int_inv rb, hp i j q, okI S h⟩
      | false => rw [q] at h; exact h.elim
    | _ => exact h.elim
  | _ => cases b <;> exact h.elim
def yes2 : Int → Int → Bool := fun _ _ => true
theorem op2_I0 {K : Frg} {g : Int → Int → Int} : Op2 K (rI0 fun i j => .int (g i j)) (fI2 yes2 fun i j => .int (g i j)) := by
  intro φ M H x y a b Q W S ra rb h
  cases a with
  | int i =>
    cases b with
    | int j => exact ⟨i, j, rep_int_inv ra, rep_int_inv rb, okI S h⟩
    | _ => exact h.elim
  | _ => cases b <;> exact h.elim
def small64 (i : Int) : Bool := decide (-(2 ^ 64) < i) && decide (i < 2 ^ 64)
theorem small64_ok {i : Int} (h : small64 i = true) : -(2 ^ 64) < i ∧ i < 2 ^ 64 := by
  obtain ⟨a, b⟩ := Bool.and_eq_true_iff.mp h
  exact ⟨of_decide_eq_true a, of_decide_eq_true b⟩
def fSub : F2 := fI2 yes2 fun i j => .int (i - j)
def fFdiv : F2 := fI2 (fun _ j => decide (0 < j) && decide (j < 1073741824)) fun i j => .int (i / j)
def fMod : F2 := fI2 (fun _ j => decide (0 < j)) fun i j => .int (i % j)
def fShr : F2 := fI2 (fun _ j => decide (0 ≤ j)) fun i j => .int (i / 2 ^ j.toNat)
def fBitAnd : F2 := fI2 yes2 fun i j => .int (Builtin.bitAnd i j)
theorem o_sub {K : Frg} : Op2 K (rI0 fun i j => .int (i - j)) fSub := op2_I0
theorem o_fdiv {K : Frg} : Op2 K (rI CDiv fun i j => .int (i / j)) fFdiv := op2_I fun i j h => by
  obtain ⟨a, b⟩ := Bool.and_eq_true_iff.mp h
  exact ⟨of_decide_eq_true a, of_decide_eq_true b⟩
theorem o_mod {K : Frg} : Op2 K (rI (fun _ j => 0 < j) fun i j => .int (i % j)) fMod := op2_I fun i j h => of_decide_eq_true h
theorem o_shr {K : Frg} : Op2 K (rI (fun _ j => 0 ≤ j) fun i j => .int (i / 2 ^ j.toNat)) fShr := op2_I fun i j h => of_decide_eq_true h
theorem o_and {K : Frg} : Op2 K (rI0 fun i j => .int (Builtin.bitAnd i j)) fBitAnd := op2_I0
def fNeg : F1 := fun x M => match x with
  | .int i => .ok (.int (-i)) M
  | _ => .no
theorem o_neg {K : Frg} : Op1 K (rU fun i => .int (-i)) fNeg := by
  intro φ M H x a Q W S ra h
  cases a with
  | int i => exact ⟨i, rep_int_inv ra, okI S h⟩
  | _ => exact h.elim
def rAddX : R2 := fun x y H Q => (∃ i j, x = .int i ∧ y = .int j ∧ Q (.int (i + j)) H) ∨ ∃ i j, x = .str i ∧ y = .str j ∧ i.length + j.length ≤ sizeLine ∧ Q (.str (i ++ j)) H
theorem opr_add {X : Cx} : OpR X (binaryOp .Add) rAddX := OpR.or (r := fun x y H Q => ∃ i j, x = .int i ∧ y = .int j ∧ Q (.int (i + j)) H) op_add op_add_str
def fAdd : F2 := fun x y M => match x, y with
  | .int i, .int j => .ok (.int (i + j)) M
  | .str a, .str b => (match lineB (a.length + b.length) with
    | true => .ok (.str (a ++ b)) M
    | false => .no)
  | _, _ => .no
theorem o_add {K : Frg} : Op2 K rAddX fAdd := by
  intro φ M H x y a b Q W S ra rb h
  cases a with
  | int i =>
    cases b with
    | int j => exact .inl ⟨i, j, rep_int_inv ra, rep_int_inv rb, okI S h⟩
    | _ => exact h.elim
  | str s =>
    cases b with
    | str t =>
      have h : Okd K φ H (RE K) (match lineB (s.length + t.length) with
        | true => .ok (.str (s ++ t)) M
        | false => .no) Q W := h
      cases q : lineB (s.length + t.length) with
      | true => rw [q] at h; exact .inr ⟨s, t, rep_str_inv ra, rep_str_inv rb, lineB_ok q, okT S h⟩
      | false => rw [q] at h; exact h.elim
    | _ => exact h.elim
  | _ => cases b <;> exact h.elim
def fMul : F2 := fI2 (fun i j => small64 i || small64 j) fun i j => .int (i * j)
theorem o_mul {K : Frg} : Op2 K (rI CMul fun i j => .int (i * j)) fMul := op2_I fun i j h => by
  rcases Bool.or_eq_true_iff.mp h with a | a
  · exact .inl (small64_ok a)
  · exact .inr (small64_ok a)
mutual
/-- data without objects, at most so deep, texts of Python's signs -/
def D.lay : Nat → D → Bool
  | _, .non => true
  | _, .bl _ => true
  | _, .int _ => true
  | _, .str x => PyData.strOk x
  | 0, .tup _ => false
  | 0, .lst _ => false
  | n + 1, .tup ds => D.layL n ds
  | n + 1, .lst ds => D.layL n ds
  | _, .dic _ _ => false
  | _, .obj _ => false
  | _, .exc _ _ _ => false
  | _, .ins _ _ _ => false
def D.layL : Nat → List D → Bool
  | _, [] => true
  | n, d :: ds => D.lay n d && D.layL n ds
end
mutual
def D.eqb : D → D → Bool
  | .non, .non => true
  | .bl a, .bl b => a == b
  | .bl a, .int j => (if a then 1 else 0) == j
  | .int i, .bl b => i == (if b then 1 else 0)
  | .int i, .int j => i == j
  | .str x, .str y => x == y
  | .tup xs, .tup ys => D.eqbL xs ys
  | .lst xs, .lst ys => D.eqbL xs ys
  | _, _ => false
def D.eqbL : List D → List D → Bool
  | [], [] => true
  | x :: xs, y :: ys => D.eqb x y && D.eqbL xs ys
  | _, _ => false
end
mutual
def D.pd : D → PyData
  | .non => .none
  | .bl b => .bool b
  | .int i => .int i
  | .str x => .str x
  | .tup ds => .tuple (D.pdL ds)
  | .lst ds => .list (D.pdL ds)
  | _ => .none
def D.pdL : List D → List PyData
  | [] => []
  | d :: ds => D.pd d :: D.pdL ds
end
mutual
theorem lay_pd : ∀ (n : Nat) (d : D), D.lay n d = true → (D.pd d).canLay0 = true ∧ (D.pd d).depth ≤ n
  | _, .non, _ => ⟨rfl, Nat.zero_le _⟩
  | _, .bl _, _ => ⟨rfl, Nat.zero_le _⟩
  | _, .int _, _ => ⟨rfl, Nat.zero_le _⟩
  | n, .str x, h => by
    cases n <;> exact ⟨(show PyData.strOk x = true by simpa [D.lay] using h), Nat.zero_le _⟩
  | 0, .tup _, h => by simp [D.lay] at h
  | 0, .lst _, h => by simp [D.lay] at h
  | n + 1, .tup ds, h => by
    obtain ⟨a, b⟩ := layL_pd n ds (by simpa [D.lay] using h)
    exact ⟨a, by show PyData.depthAll _ + 1 ≤ n + 1; omega⟩
  | n + 1, .lst ds, h => by
    obtain ⟨a, b⟩ := layL_pd n ds (by simpa [D.lay] using h)
    exact ⟨a, by show PyData.depthAll _ + 1 ≤ n + 1; omega⟩
  | n, .dic _ _, h => by cases n <;> simp [D.lay] at h
  | n, .obj _, h => by cases n <;> simp [D.lay] at h
  | n, .exc _ _ _, h => by cases n <;> simp [D.lay] at h
  | n, .ins _ _ _, h => by cases n <;> simp [D.lay] at h
theorem layL_pd : ∀ (n : Nat) (ds : List D), D.layL n ds = true → PyData.canLayAll0 (D.pdL ds) = true ∧ PyData.depthAll (D.pdL ds) ≤ n
  | _, [], _ => ⟨rfl, Nat.zero_le _⟩
  | n, d :: ds, h => by
    unfold D.layL at h
    obtain ⟨h1, h2⟩ := Bool.and_eq_true_iff.mp h
    obtain ⟨a, b⟩ := lay_pd n d h1
    obtain ⟨c, e⟩ := layL_pd n ds h2
    exact ⟨by show ((D.pd d).canLay0 && _) = true; rw [a, c]; rfl, by show max _ _ ≤ n; omega⟩
end
theorem lay_shaped {d : D} (h : D.lay 64 d = true) : SeqAt.shaped (D.pd d) = true := by
  obtain ⟨a, b⟩ := lay_pd 64 d h
  unfold SeqAt.shaped
  rw [a, decide_eq_true b]; rfl
mutual
theorem eqb_pd : ∀ (n m : Nat) (d e : D), D.lay n d = true → D.lay m e = true → PyData.eqv (D.pd d) (D.pd e) = D.eqb d e
  | n, m, d, e, h, k => by
    cases d <;> cases e <;> first
      | rfl
      | (simp only [D.pd, PyData.eqv, D.eqb]; done)
      | (cases n <;> simp [D.lay] at h; done)
      | (cases m <;> simp [D.lay] at k; done)
      | (rename_i xs ys
         cases n with
         | zero => simp [D.lay] at h
         | succ n =>
           cases m with
           | zero => simp [D.lay] at k
           | succ m =>
             have q := eqbL_pd n m xs ys (by simpa [D.lay] using h) (by simpa [D.lay] using k)
             simpa only [D.pd, PyData.eqv, D.eqb] using q)
theorem eqbL_pd : ∀ (n m : Nat) (ds es : List D), D.layL n ds = true → D.layL m es = true → PyData.eqvAll (D.pdL ds) (D.pdL es) = D.eqbL ds es
  | _, _, [], [], _, _ => rfl
  | _, _, [], _ :: _, _, _ => rfl
  | _, _, _ :: _, [], _, _ => rfl
  | n, m, d :: ds, e :: es, h, k => by
    unfold D.layL at h k
    obtain ⟨h1, h2⟩ := Bool.and_eq_true_iff.mp h
    obtain ⟨k1, k2⟩ := Bool.and_eq_true_iff.mp k
    have a := eqb_pd n m d e h1 k1
    have b := eqbL_pd n m ds es h2 k2
    simp only [D.pdL, PyData.eqvAll, D.eqbL, a, b]
end
section
variable {K : Frg} {φ : Wd} {H : Hp}
mutual
theorem rep_dp : ∀ (n : Nat) (d : D) (v : V), D.lay n d = true → Rep K φ H d v → Dp K H v (D.pd d)
  | _, .non, v, _, h => by rw [rep_non_inv h]; exact .non
  | _, .bl b, v, _, h => by rw [rep_bl_inv h]; exact .bl b
  | _, .int i, v, _, h => by rw [rep_int_inv h]; exact .int i
  | _, .str x, v, _, h => by rw [rep_str_inv h]; exact .str x
  | 0, .tup _, _, h, _ => by simp [D.lay] at h
  | 0, .lst _, _, h, _ => by simp [D.lay] at h
  | n + 1, .tup ds, v, h, r => by
    unfold Rep at r
    obtain ⟨a, xs, rfl, h1, h2⟩ := r
    exact .tup h1.sq (repL_dp n ds xs (by simpa [D.lay] using h) h2)
  | n + 1, .lst ds, v, h, r => by
    unfold Rep at r
    obtain ⟨a, xs, rfl, h1, h2⟩ := r
    exact .lst h1.sq (repL_dp n ds xs (by simpa [D.lay] using h) h2)
  | n, .dic _ _, _, h, _ => by cases n <;> simp [D.lay] at h
  | n, .obj _, _, h, _ => by cases n <;> simp [D.lay] at h
  | n, .exc _ _ _, _, h, _ => by cases n <;> simp [D.lay] at h
  | n, .ins _ _ _, _, h, _ => by cases n <;> simp [D.lay] at h
theorem repL_dp : ∀ (n : Nat) (ds : List D) (vs : List V), D.layL n ds = true → RepL K φ H ds vs → DpAll K H vs (D.pdL ds)
  | _, [], vs, _, h => by rw [h.inv0]; exact .nil
  | n, d :: ds, vs, h, r => by
    obtain ⟨v, w, rfl, r1, r2⟩ := r.inv
    unfold D.layL at h
    obtain ⟨h1, h2⟩ := Bool.and_eq_true_iff.mp h
    exact .cons (rep_dp n d v h1 r1) (repL_dp n ds w h2 r2)
end
end
def fEq : F2 := fun x y M => match D.lay 64 x && D.lay 64 y with
  | true => .ok (.bl (D.eqb x y)) M
  | false => .no
def fNe : F2 := fun x y M => match D.lay 64 x && D.lay 64 y with
  | true => .ok (.bl (!D.eqb x y)) M
  | false => .no
theorem o_eq {K : Frg} : Op2 K (rEqD K) fEq := by
  intro φ M H x y a b Q W S ra rb h
  unfold fEq at h
  cases q : D.lay 64 a && D.lay 64 b with
  | false => rw [q] at h; exact h.elim
  | true =>
    rw [q] at h
    obtain ⟨h1, h2⟩ := Bool.and_eq_true_iff.mp q
    refine ⟨_, _, rep_dp 64 a x h1 ra, rep_dp 64 b y h2 rb, lay_shaped h1, lay_shaped h2, ?_⟩
    rw [eqb_pd 64 64 a b h1 h2]
    exact okB S h
theorem o_ne {K : Frg} : Op2 K (rNeD K) fNe := by
  intro φ M H x y a b Q W S ra rb h
  unfold fNe at h
  cases q : D.lay 64 a && D.lay 64 b with
  | false => rw [q] at h; exact h.elim
  | true =>
    rw [q] at h
    obtain ⟨h1, h2⟩ := Bool.and_eq_true_iff.mp q
    refine ⟨_, _, rep_dp 64 a x h1 ra, rep_dp 64 b y h2 rb, lay_shaped h1, lay_shaped h2, ?_⟩
    rw [eqb_pd 64 64 a b h1 h2]
    exact okB S h
def fInS (neg : Bool) : F2 := fun x y M => match x, y with
  | .str a, .str b => (match a.cps.toList with
    | [c] => .ok (.bl (if neg then !decide (c ∈ b.cps.toList) else decide (c ∈ b.cps.toList))) M
    | _ => .no)
  | _, _ => .no
theorem str_one {a : Str} {c : Nat} (h : a.cps.toList = [c]) : a = ⟨#[c]⟩ := by
  obtain ⟨l⟩ := a
  obtain ⟨l⟩ := l
  simp only at h
  rw [h]
def rNotInX : R2 := fun x y H Q => ∃ (c : Nat) (z : Str), x = .str ⟨#[c]⟩ ∧ y = .str z ∧ Q (.bl (!decide (c ∈ z.cps.toList))) H
theorem opr_notin {X : Cx} : OpR X (compareOp .NotIn) rNotInX := op_notIn_sign
theorem o_notin {K : Frg} : Op2 K rNotInX (fInS true) := by
  intro φ M H x y a b Q W S ra rb h
  cases a with
  | str s =>
    cases b with
    | str t =>
      have h : Okd K φ H (RE K) (match s.cps.toList with
        | [c] => .ok (.bl (if true then !decide (c ∈ t.cps.toList) else decide (c ∈ t.cps.toList))) M
        | _ => .no) Q W := h
      split at h
      · rename_i c q
        exact ⟨c, t, by rw [rep_str_inv ra, str_one q], rep_str_inv rb, okB S h⟩
      · exact h.elim
    | _ => exact h.elim
  | _ => cases b <;> exact h.elim
end LF
set_option Elab.async false
set_option linter.all false
set_option maxRecDepth 100000
set_option maxHeartbeats 2000000
namespace LF
open PySem PySem.Spec PyProof.Rows L2
section
variable {K : Frg} {φ : Wd} {M : Mem} {H : Hp}
theorem rep_atI {ds : List D} {xs : List V} {i : Int} {d : D} (r : RepL K φ H ds xs) (h : atI ds i = some d) : ∃ v, atI xs i = some v ∧ Rep K φ H d v := by
  unfold atI at h ⊢
  rw [r.len]
  cases e : ixN ds.length i with
  | none => rw [e] at h; cases h
  | some j =>
    rw [e] at h
    exact r.get h
/-- what a thing's items are: a tuple's, a list's -/
def seqOf (M : Mem) : D → Option (List D)
  | .tup ds => some ds
  | .lst ds => some ds
  | .obj n => (match M[n]? with
    | some (.lst ds) => some ds
    | some (.ro ds) => some ds
    | _ => none)
  | _ => none
theorem seq_rep {d : D} {v : V} {ds : List D} (S : Sto K φ M H) (r : Rep K φ H d v) (h : seqOf M d = some ds) : ∃ a xs, v = .ref a ∧ (SqL K H a xs ∨ SqT K H a xs) ∧ RepL K φ H ds xs := by
  cases d with
  | tup es =>
    unfold Rep at r
    obtain ⟨a, xs, e, h1, h2⟩ := r
    cases h
    exact ⟨a, xs, e, .inr h1.sq, h2⟩
  | lst es =>
    unfold Rep at r
    obtain ⟨a, xs, e, h1, h2⟩ := r
    cases h
    exact ⟨a, xs, e, .inl h1.sq, h2⟩
  | obj n =>
    unfold Rep at r
    obtain ⟨a, h1, h2⟩ := r
    have h : (match M[n]? with
      | some (.lst ds) => some ds
      | some (.ro ds) => some ds
      | _ => none) = some ds := h
    split at h
    · rename_i es q
      cases h
      obtain ⟨xs, e1, e2⟩ := S.ob n a _ h1 q
      exact ⟨a, xs, h2, .inl (SqL.of e1), e2⟩
    · rename_i es q
      cases h
      obtain ⟨xs, e1, e2⟩ := S.ob n a _ h1 q
      exact ⟨a, xs, h2, .inl (.inl e1), e2⟩
    · cases h
  | _ => cases h
end
def fIx : F2 := fun x y M => match x, y with
  | .str s, .int i => (match lineB s.length, atI s.cps.toList i with
    | true, some c => .ok (.str ⟨#[c]⟩) M
    | _, _ => .no)
  | d, .int i => (match seqOf M d with
    | some ds => liftO (atI ds i) M
    | none => .no)
  | _, _ => .no
theorem o_ix {K : Frg} : Op2 K (rIx K) fIx := by
  intro φ M H x y a b Q W S ra rb h
  cases b with
  | int i =>
    have hy := rep_int_inv rb
    have seq : Okd K φ H (RE K) (match seqOf M a with
      | some ds => liftO (atI ds i) M
      | none => .no) Q W → rIx K x y H Q := fun h => by
      cases e : seqOf M a with
      | none => rw [e] at h; exact h.elim
      | some ds =>
        rw [e] at h
        obtain ⟨p, xs, hx, hs, r⟩ := seq_rep S ra e
        have h : Okd K φ H (RE K) (liftO (atI ds i) M) Q W := h
        cases e2 : atI ds i with
        | none => rw [e2] at h; exact h.elim
        | some d =>
          rw [e2] at h
          obtain ⟨v, h1, h2⟩ := rep_atI r e2
          have q : Q v H := h.here S h2
          rcases hs with hs | hs
          · exact .inl ⟨p, xs, i, v, hx, hy, hs, h1, q⟩
          · exact .inr (.inl ⟨p, xs, i, v, hx, hy, hs, h1, q⟩)
    cases a with
    | str s =>
      have h : Okd K φ H (RE K) (match lineB s.length, atI s.cps.toList i with
        | true, some c => .ok (.str ⟨#[c]⟩) M
        | _, _ => .no) Q W := h
      cases e1 : lineB s.length with
      | false => rw [e1] at h; exact h.elim
      | true =>
        cases e2 : atI s.cps.toList i with
        | none => rw [e1, e2] at h; exact h.elim
        | some c =>
          rw [e1, e2] at h
          exact .inr (.inr ⟨s, i, c, rep_str_inv ra, hy, lineB_ok e1, e2, okT S h⟩)
    | _ => exact seq h
  | _ => cases a <;> exact h.elim
section
variable {X : Cx} {W : WX} {pos : Pos} {a b : Expr} {da db : DE}
theorem de_ix (ha : DEx X W a da) (hb : DEx X W b db) (hs : PlainIx b := by intro _ _; rfl) : DEx X W (.Subscript a b pos) (dBin fIx da db) := by
  obtain ⟨_, p1, s1⟩ := ha
  obtain ⟨_, p2, s2⟩ := hb
  exact ⟨_, pe_ix ix_seq p1 p2 hs, sim_op o_ix s1 s2⟩
end
theorem CallR.or' {X : Cx} {f : Value} {r r' : List V → Hp → VK → Prop} (h : CallR X f r) (h' : CallR X f r') : CallR X f (fun xs H Q => r xs H Q ∨ r' xs H Q) := by
  intro pins s σ H xs us Q I r q
  rcases q with q | q
  · exact h pins s σ H xs us Q I r q
  · exact h' pins s σ H xs us Q I r q
def rLenX (K : Frg) : List V → Hp → VK → Prop := fun xs H Q => (∃ x n, xs = [x] ∧ LenV K x H n ∧ Q (.int n) H) ∨ ∃ d kvs, xs = [.ref d] ∧ H d = some (.dK kvs) ∧ Q (.int kvs.length) H
def fLen : FN := fun ds M => match ds with
  | [.str s] => (match lineB s.length with
    | true => .ok (.int s.length) M
    | false => .no)
  | [.dic ks _] => .ok (.int ks.length) M
  | [.obj n] => (match M[n]? with
    | some (.dic kvs) => .ok (.int kvs.length) M
    | some (.lst es) => .ok (.int es.length) M
    | some (.ro es) => .ok (.int es.length) M
    | _ => .no)
  | [.tup es] => .ok (.int es.length) M
  | [.lst es] => .ok (.int es.length) M
  | _ => .no
theorem o_len {K : Frg} : OpN K (rLenX K) fLen := by
  intro φ M H xs ds Q W S r h
  have seq : ∀ (d : D) (es : List D) (v : V), xs = [v] → Rep K φ H d v → seqOf M d = some es → Okd K φ H (RE K) (.ok (.int es.length) M) Q W → rLenX K xs H Q := fun d es v hx rv e h => by
    obtain ⟨p, ys, hv, hs, r⟩ := seq_rep S rv e
    have q := okI S h
    rw [← r.len] at q
    refine .inl ⟨v, ys.length, hx, ?_, q⟩
    rw [hv]
    rcases hs with hs | hs
    · exact .inl ⟨ys, hs, rfl⟩
    · exact .inr ⟨ys, hs, rfl⟩
  cases ds with
  | nil => exact h.elim
  | cons d r2 =>
    cases r2 with
    | cons d2 r3 => cases d <;> exact h.elim
    | nil =>
      obtain ⟨v, vr, e, rv, rr⟩ := r.inv
      have e2 := rr.inv0
      subst e2
      cases d with
      | str s =>
        have h : Okd K φ H (RE K) (match lineB s.length with
          | true => .ok (.int s.length) M
          | false => .no) Q W := h
        cases q : lineB s.length with
        | false => rw [q] at h; exact h.elim
        | true =>
          rw [q] at h
          exact .inl ⟨v, s.length, e, by rw [rep_str_inv rv]; exact ⟨lineB_ok q, rfl⟩, okI S h⟩
      | dic ks es =>
        unfold Rep at rv
        obtain ⟨a, kv, h1, _, h2, h3, _⟩ := rv
        have q := okI S h
        refine .inr ⟨a, kv, by rw [e, h1], h2, ?_⟩
        rw [← h3, List.length_map] at q
        exact q
      | obj n =>
        have h : Okd K φ H (RE K) (match M[n]? with
          | some (.dic kvs) => .ok (.int kvs.length) M
          | some (.lst es) => .ok (.int es.length) M
          | some (.ro es) => .ok (.int es.length) M
          | _ => .no) Q W := h
        split at h
        · rename_i kvs q
          unfold Rep at rv
          obtain ⟨a, h1, h2⟩ := rv
          obtain ⟨kv, h3, h4⟩ := S.ob n a _ h1 q
          have q := okI S h
          refine .inr ⟨a, kv, by rw [e, h2], h3, ?_⟩
          rw [← h4.len] at q
          exact q
        · rename_i es q
          have sq : seqOf M (.obj n) = some es := by
            simp only [seqOf, q]
          exact seq (.obj n) es v e rv sq h
        · rename_i es q
          have sq : seqOf M (.obj n) = some es := by
            simp only [seqOf, q]
          exact seq (.obj n) es v e rv sq h
        · exact h.elim
      | tup es => exact seq _ es v e rv rfl h
      | lst es => exact seq _ es v e rv rfl h
      | _ => exact h.elim
theorem c_len {X : Cx} : CallR X (.builtin "len") (rLenX X.K) := CallR.or' call_len call_lenD
theorem Mo.trans {φ φ1 φ2 : Wd} {H H1 H2 : Hp} (g : Mo φ H φ1 H1) (k : Mo φ1 H1 φ2 H2) : Mo φ H φ2 H2 :=
  ⟨fun a u n h t => let ⟨n1, h1⟩ := g.out a u n h t; k.out a u n1 h1 t, fun i a h => k.get i a (g.get i a h)⟩
noncomputable def isAt (M : Mem) (n : Nat) (mo : MO) : Bool := @decide (M[n]? = some mo) (Classical.propDecidable _)
theorem isAt_ok {M : Mem} {n : Nat} {mo : MO} (h : isAt M n mo = true) : M[n]? = some mo := @of_decide_eq_true _ (Classical.propDecidable _) h
theorem isAt_of {M : Mem} {n : Nat} {mo : MO} (h : M[n]? = some mo) : isAt M n mo = true := @decide_eq_true _ (Classical.propDecidable _) h
def anyM : Mem → Bool := fun _ => true
/-- over a list -/
noncomputable def dItL (de : DE) : DI := fun r M => (de r M).bind fun d M1 => match d with
  | .lst ds => .ok ⟨ds, anyM⟩ M1
  | .obj n => (match M1[n]? with
    | some (.lst ds) => .ok ⟨ds, fun M => isAt M n (.lst ds)⟩ M1
    | some (.ro ds) => .ok ⟨ds, fun M => isAt M n (.ro ds)⟩ M1
    | _ => .no)
  | _ => .no
theorem serves_list {K : Frg} {φ1 : Wd} {H1 : Hp} {a : Addr} {ds : List D} {chk : Mem → Bool} (h : ∀ φ M H, Mo φ1 H1 φ H → Sto K φ M H → chk M = true → ∃ xs, SqL K H a xs ∧ RepL K φ H ds xs) : Serves K φ1 H1 ⟨ds, chk⟩ (Itl K a) := by
  intro i φ M H g _ S c
  obtain ⟨xs, h1, h2⟩ := h φ M H g S c
  refine ⟨fun e => ⟨xs, h1, by rw [h2.len, e]; exact Nat.le_refl _⟩, fun d e => ?_⟩
  obtain ⟨v, e1, e2⟩ := h2.get e
  refine ⟨⟨xs, v, h1, e1⟩, fun x H' y => ?_⟩
  obtain ⟨rfl, y⟩ := y
  have q := y xs h1
  rw [e1] at q; cases q
  exact ⟨φ, Grow.refl, S, e2⟩
section
variable {X : Cx} {W : WX} {pos : Pos} {tg e : Expr} {de : DE}
theorem di_list (he : DEx X W e de) : DIx X W tg e (dItL de) := by
  obtain ⟨_, p, s⟩ := he
  refine ⟨_, pi_list p, fun φ M H σ r R S E h => ?_⟩
  refine s φ M H σ r _ S E (Okd.bind h fun d M1 v φ1 H1 _ g1 S1 rv h1 => ?_)
  cases d with
  | lst ds =>
    unfold RE Rep at rv
    obtain ⟨a, xs, e, st, rl⟩ := rv
    exact ⟨a, e, ⟨xs, st.sq⟩, h1 _ φ1 H1 Grow.refl S1 (serves_list fun φ M H g S c => ⟨xs, (st.mo g).sq, RepL.mo g _ _ rl⟩)⟩
  | obj n =>
    unfold RE Rep at rv
    obtain ⟨a, ha, e⟩ := rv
    have h1 : Okd X.K φ1 H1 (fun φ H => Serves X.K φ H) (match M1[n]? with
      | some (.lst ds) => .ok ⟨ds, fun M => isAt M n (.lst ds)⟩ M1
      | some (.ro ds) => .ok ⟨ds, fun M => isAt M n (.ro ds)⟩ M1
      | _ => .no) R (fun c d H' => W c d σ H') := h1
    split at h1
    · rename_i ds q
      obtain ⟨xs, e1, e2⟩ := S1.ob n a _ ha q
      refine ⟨a, e, ⟨xs, SqL.of e1⟩, h1 _ φ1 H1 Grow.refl S1 (serves_list fun φ M H g S c => ?_)⟩
      obtain ⟨ys, k1, k2⟩ := S.ob n a _ (g.get n a ha) (isAt_ok c)
      exact ⟨ys, SqL.of k1, k2⟩
    · rename_i ds q
      obtain ⟨xs, e1, e2⟩ := S1.ob n a _ ha q
      refine ⟨a, e, ⟨xs, .inl e1⟩, h1 _ φ1 H1 Grow.refl S1 (serves_list fun φ M H g S c => ?_)⟩
      obtain ⟨ys, k1, k2⟩ := S.ob n a _ (g.get n a ha) (isAt_ok c)
      exact ⟨ys, .inl k1, k2⟩
    · exact h1.elim
  | _ => exact h1.elim
/-- over a tuple -/
def dItT (de : DE) : DI := fun r M => (de r M).bind fun d M1 => match d with
  | .tup ds => .ok ⟨ds, anyM⟩ M1
  | _ => .no
theorem di_tup (he : DEx X W e de) : DIx X W tg e (dItT de) := by
  obtain ⟨_, p, s⟩ := he
  refine ⟨_, pi_tup p, fun φ M H σ r R S E h => ?_⟩
  refine s φ M H σ r _ S E (Okd.bind h fun d M1 v φ1 H1 _ g1 S1 rv h1 => ?_)
  cases d with
  | tup ds =>
    unfold RE Rep at rv
    obtain ⟨a, xs, e, st, rl⟩ := rv
    refine ⟨a, e, ⟨xs, st.sq⟩, h1 _ φ1 H1 Grow.refl S1 fun i φ M H g _ S c => ?_⟩
    have h2 := RepL.mo g _ _ rl
    have h1 := (st.mo g).sq
    refine ⟨fun e => ⟨xs, h1, by rw [h2.len, e]; exact Nat.le_refl _⟩, fun d e => ?_⟩
    obtain ⟨v, e1, e2⟩ := h2.get e
    refine ⟨⟨xs, v, h1, e1⟩, fun x H' y => ?_⟩
    obtain ⟨rfl, y⟩ := y
    have q := y xs h1
    rw [e1] at q; cases q
    exact ⟨φ, Grow.refl, S, e2⟩
  | _ => exact h1.elim
/-- over a text -/
def signs (s : Str) : List D := s.cps.toList.map fun c => .str ⟨#[c]⟩
def dItS (de : DE) : DI := fun r M => (de r M).bind fun d M1 => match d with
  | .str s => .ok ⟨signs s, anyM⟩ M1
  | _ => .no
theorem di_str (he : DEx X W e de) : DIx X W tg e (dItS de) := by
  obtain ⟨_, p, s⟩ := he
  refine ⟨_, pi_str p, fun φ M H σ r R S E h => ?_⟩
  refine s φ M H σ r _ S E (Okd.bind h fun d M1 v φ1 H1 _ g1 S1 rv h1 => ?_)
  cases d with
  | str s =>
    refine ⟨s, rep_str_inv rv, h1 _ φ1 H1 Grow.refl S1 fun i φ M H g _ S c => ?_⟩
    refine ⟨fun e => ?_, fun d e => ?_⟩
    · have e : i = (signs s).length := e
      unfold signs at e
      rw [List.length_map, Array.length_toList] at e
      exact Nat.le_of_eq e.symm
    · have e : (signs s)[i]? = some d := e
      unfold signs at e
      rw [List.getElem?_map] at e
      cases q : s.cps.toList[i]? with
      | none => rw [q] at e; cases e
      | some c =>
        rw [q] at e; cases e
        have hi := (List.getElem?_eq_some_iff.mp q).1
        rw [Array.length_toList] at hi
        refine ⟨hi, fun x H' y => ?_⟩
        obtain ⟨rfl, c', h3, rfl⟩ := y
        have q' : s.cps[i]? = some c := by rw [← Array.getElem?_toList]; exact q
        rw [q'] at h3; cases h3
        exact ⟨φ, Grow.refl, S, rep_str⟩
  | _ => exact h1.elim
/-- range(n), range(a, b) -/
def irng (lo : Int) (n : Nat) : List D := (List.range n).map fun (i : Nat) => .int (lo + (i : Nat))
def small62 (i : Int) : Bool := decide (-(2 ^ 62) ≤ i) && decide (i < 2 ^ 62)
theorem small62_ok {i : Int} (h : small62 i = true) : -(2 ^ 62) ≤ i ∧ i < 2 ^ 62 := by
  obtain ⟨a, b⟩ := Bool.and_eq_true_iff.mp h
  exact ⟨of_decide_eq_true a, of_decide_eq_true b⟩
theorem serves_range {K : Frg} {φ1 : Wd} {H1 : Hp} {lo : Int} {n : Nat} : Serves K φ1 H1 ⟨irng lo n, anyM⟩ (Itr lo n) := by
  intro i φ M H g _ S c
  refine ⟨fun e => ?_, fun d e => ?_⟩
  · have e : i = (irng lo n).length := e
    unfold irng at e
    rw [List.length_map, List.length_range] at e
    exact Nat.le_of_eq e.symm
  · have e : (irng lo n)[i]? = some d := e
    unfold irng at e
    rw [List.getElem?_map] at e
    have hi : i < n := by
      by_cases h : i < n
      · exact h
      · rw [List.getElem?_eq_none (by simpa using h)] at e; cases e
    rw [List.getElem?_range hi] at e
    cases e
    refine ⟨hi, fun x H' y => ?_⟩
    obtain ⟨rfl, rfl⟩ := y
    exact ⟨φ, Grow.refl, S, rep_int⟩
def dItR1 (da : DE) : DI := fun r M => (da r M).bind fun d M1 => match d with
  | .int j => (match small62 j with
    | true => .ok ⟨irng 0 j.toNat, anyM⟩ M1
    | false => .no)
  | _ => .no
theorem di_range1 {a : Expr} {da : DE} {p : Pos} (hg : Gl X "range") (hm : X.mg "range" = none) (ha : DEx X W a da) (hs : starEach [a] X.env = [(false, eval a X.env)] := by rfl) : DIx X W tg (.Call (.Name "range" p) [a] [] pos) (dItR1 da) := by
  obtain ⟨_, p1, s1⟩ := ha
  refine ⟨_, pi_range1 hg hm (pa_cons p1 pa_nil hs) hs, fun φ M H σ r R S E h => ?_⟩
  refine s1 φ M H σ r _ S E (Okd.bind h fun d M1 v φ1 H1 _ g1 S1 rv h1 => ?_)
  cases d with
  | int j =>
    have h1 : Okd X.K φ1 H1 (fun φ H => Serves X.K φ H) (match small62 j with
      | true => .ok ⟨irng 0 j.toNat, anyM⟩ M1
      | false => .no) R (fun c d H' => W c d σ H') := h1
    cases q : small62 j with
    | false => rw [q] at h1; exact h1.elim
    | true =>
      rw [q] at h1
      obtain ⟨k1, k2⟩ := small62_ok q
      exact ⟨j, by rw [rep_int_inv rv], k1, k2, h1 _ φ1 H1 Grow.refl S1 serves_range⟩
  | _ => exact h1.elim
/-- reversed(range(n)) -/
def dItRR1 (da : DE) : DI := fun r M => (da r M).bind fun d M1 => match d with
  | .int j => (match small62 j with
    | true => .ok ⟨(irng 0 j.toNat).reverse, anyM⟩ M1
    | false => .no)
  | _ => .no
theorem irng_rev {n i : Nat} {d : D} (h : (irng 0 n).reverse[i]? = some d) : i < n ∧ d = .int ((n : Int) - 1 - (i : Nat)) := by
  have hl : (irng 0 n).length = n := by unfold irng; rw [List.length_map, List.length_range]
  have hi : i < n := by
    have z := (List.getElem?_eq_some_iff.mp h).1
    rw [List.length_reverse, hl] at z; exact z
  refine ⟨hi, ?_⟩
  rw [List.getElem?_reverse (by rw [hl]; exact hi), hl] at h
  unfold irng at h
  rw [List.getElem?_map, List.getElem?_range (by omega)] at h
  cases h
  have z : (0 : Int) + ((n - 1 - i : Nat) : Int) = (n : Int) - 1 - (i : Nat) := by omega
  exact congrArg D.int z
theorem di_rrange1 {a : Expr} {da : DE} {p p2 pos2 : Pos} (hg : Gl X "reversed") (hm : X.mg "reversed" = none) (hg2 : Gl X "range") (hm2 : X.mg "range" = none) (ha : DEx X W a da) (na : starEach [a] X.env = (false, eval a X.env) :: starEach [] X.env := by rfl)
    (hs : starEach [.Call (.Name "range" p2) [a] [] pos2] X.env = (false, eval (.Call (.Name "range" p2) [a] [] pos2) X.env) :: starEach [] X.env := by rfl) :
    DIx X W tg (.Call (.Name "reversed" p) [.Call (.Name "range" p2) [a] [] pos2] [] pos) (dItRR1 da) := by
  obtain ⟨_, p1, s1⟩ := ha
  refine ⟨_, pi_revR hg hm (prg_1 hg2 hm2 p1 na) hs, fun φ M H σ r R S E h => ?_⟩
  refine s1 φ M H σ r _ S E (Okd.bind h fun d M1 v φ1 H1 _ g1 S1 rv h1 => ?_)
  cases d with
  | int j =>
    have h1 : Okd X.K φ1 H1 (fun φ H => Serves X.K φ H) (match small62 j with
      | true => .ok ⟨(irng 0 j.toNat).reverse, anyM⟩ M1
      | false => .no) R (fun c d H' => W c d σ H') := h1
    cases q : small62 j with
    | false => rw [q] at h1; exact h1.elim
    | true =>
      rw [q] at h1
      obtain ⟨k1, k2⟩ := small62_ok q
      refine ⟨j, rep_int_inv rv, by decide, by decide, k1, k2, h1 _ φ1 H1 Grow.refl S1 fun i φ M H g _ S c => ⟨fun e => ?_, fun d e => ?_⟩⟩
      · have e : i = (irng 0 j.toNat).reverse.length := e
        unfold irng at e
        rw [List.length_reverse, List.length_map, List.length_range] at e
        have z : (j - 0).toNat = j.toNat := by omega
        show (j - 0).toNat ≤ i
        omega
      · obtain ⟨hi, hd⟩ := irng_rev e
        refine ⟨by show i < (j - 0).toNat; omega, fun x H' y => ?_⟩
        obtain ⟨rfl, rfl⟩ := y
        refine ⟨φ, Grow.refl, S, ?_⟩
        subst hd
        unfold Rep
        congr 1
        omega
  | _ => exact h1.elim
end
end LF
set_option Elab.async false
set_option linter.all false
set_option maxRecDepth 100000
set_option maxHeartbeats 2000000
namespace LF
open PySem PySem.Spec PyProof.Rows L2
/-- the names' data with the places vs forgotten -/
def wipeD (r : Env') : List Nat → Env'
  | [] => r
  | v :: vs => (wipeD r vs).set v none
theorem EnvR.wipe {K : Frg} {φ : Wd} {H : Hp} {r : Env'} {σ : L2.St} (h : EnvR K φ H r σ) : ∀ vs : List Nat, EnvR K φ H (wipeD r vs) (L2.wipe σ vs)
  | [] => h
  | v :: vs => by unfold wipeD L2.wipe; exact (EnvR.wipe h vs).unset
theorem wipe_set_in {σ : L2.St} {i : Nat} {x : Option V} : ∀ {vs : List Nat}, i ∈ vs → L2.wipe (σ.set i x) vs = L2.wipe σ vs
  | v :: vs, h => by
    unfold L2.wipe
    by_cases hv : i ∈ vs
    · rw [wipe_set_in hv]
    · have e : i = v := by
        rcases List.mem_cons.mp h with q | q
        · exact q
        · exact absurd q hv
      subst e
      have out : ∀ {ws : List Nat}, i ∉ ws → L2.wipe (σ.set i x) ws = (L2.wipe σ ws).set i x := by
        intro ws
        induction ws with
        | nil => intro _; rfl
        | cons w ws ih =>
          intro hn
          unfold L2.wipe
          rw [ih (fun z => hn (List.mem_cons_of_mem _ z)), List.set_comm _ _ (fun z => hn (by rw [z]; exact List.mem_cons_self))]
      rw [out hv, List.set_set]
theorem wipe_get {σ : L2.St} {j : Nat} : ∀ {vs : List Nat}, (L2.wipe σ vs)[j]? = if j ∈ vs ∧ j < σ.length then some none else σ[j]?
  | [] => by simp [L2.wipe]
  | v :: vs => by
    have ih := wipe_get (σ := σ) (j := j) (vs := vs)
    unfold L2.wipe
    by_cases e : v = j
    · subst e
      by_cases hl : v < σ.length
      · rw [List.getElem?_set_self (by rw [L2.wipe_length]; exact hl), if_pos ⟨List.mem_cons_self, hl⟩]
      · rw [List.getElem?_eq_none (by rw [List.length_set, L2.wipe_length]; omega), if_neg (fun z => hl z.2), List.getElem?_eq_none (by omega)]
    · rw [List.getElem?_set_ne e, ih]
      by_cases hm : j ∈ vs
      · simp [hm]
      · have : j ∉ v :: vs := fun z => (List.mem_cons.mp z).elim (fun q => e q.symm) hm
        rw [if_neg (fun z => hm z.1), if_neg (fun z => this z.1)]
theorem wipe_idem (σ : L2.St) (vs : List Nat) : L2.wipe (L2.wipe σ vs) vs = L2.wipe σ vs := by
  refine List.ext_getElem? fun j => ?_
  rw [wipe_get, wipe_get, L2.wipe_length]
  split
  · rfl
  · rfl
/-- a target within a comprehension: it stores its own names alone -/
def SimC (K : Frg) (vs : List Nat) (g : TG) (dg : DG) : Prop := ∀ φ M H σ r x d Q, Sto K φ M H → EnvR K φ H r σ → Rep K φ H d x → (match dg d r M with
  | .ok r1 M1 => ∀ σ' φ' H', Grow φ H φ' H' → Sto K φ' M1 H' → EnvR K φ' H' r1 σ' → L2.wipe σ' vs = L2.wipe σ vs → Q σ' H'
  | _ => False) → g x σ H Q
def SimCs (K : Frg) (vs : List Nat) (g : TGs) (dg : List D → Env' → Mem → Out Env') : Prop := ∀ φ M H σ r xs ds Q, Sto K φ M H → EnvR K φ H r σ → RepL K φ H ds xs → (match dg ds r M with
  | .ok r1 M1 => ∀ σ' φ' H', Grow φ H φ' H' → Sto K φ' M1 H' → EnvR K φ' H' r1 σ' → L2.wipe σ' vs = L2.wipe σ vs → Q σ' H'
  | _ => False) → g xs σ H Q
def DCx (X : Cx) (vs : List Nat) (tg : Expr) (dg : DG) : Prop := ∃ g, PG X tg g ∧ SimC X.K vs g dg
def DCsx (X : Cx) (vs : List Nat) (tg : List Expr) (dg : List D → Env' → Mem → Out Env') : Prop := ∃ g, PGs X tg g ∧ SimCs X.K vs g dg
section
variable {X : Cx} {vs : List Nat} {pos : Pos}
theorem dc_name {i : Nat} {x : Str} (hN : X.N.Nodup) (hi : X.N[i]? = some x) (hx : Loc X.env.scope x) (hv : i ∈ vs) (hf : X.fn x = true ∨ X.env.scope.names.lookup x = some .local := by first | exact .inl rfl | exact .inr rfl | assumption) : DCx X vs (.Name x pos) (gSlot i) :=
  ⟨_, pg_name hN hi hx hf, fun φ M H σ r x d Q S er rx h => h _ φ H Grow.refl S (er.set rx) (wipe_set_in hv)⟩
theorem dcs_nil : DCsx X vs [] gsNil := ⟨_, pgs_nil, fun φ M H σ r xs ds Q S er rx h => by
  cases ds with
  | nil => exact ⟨rx.inv0, h σ φ H Grow.refl S er rfl⟩
  | cons d ds => exact h.elim⟩
theorem dcs_cons {e : Expr} {es : List Expr} {g : DG} {gs : List D → Env' → Mem → Out Env'} (h1 : DCx X vs e g) (h2 : DCsx X vs es gs)
    (hs : (assignEach (e :: es) X.env).map (·.2) = assign e X.env :: (assignEach es X.env).map (·.2) := by rfl) : DCsx X vs (e :: es) (gsCons g gs) := by
  obtain ⟨_, p1, s1⟩ := h1
  obtain ⟨_, p2, s2⟩ := h2
  refine ⟨_, pgs_cons p1 p2 hs, fun φ M H σ r xs ds Q S er rx h => ?_⟩
  cases ds with
  | nil => exact h.elim
  | cons d ds =>
    obtain ⟨v, rr, rfl, r1, r2⟩ := rx.inv
    have h : (match (match g d r M with
      | .ok r1 M1 => gs ds r1 M1
      | _ => .no) with
      | .ok r1 M1 => ∀ σ' φ' H', Grow φ H φ' H' → Sto X.K φ' M1 H' → EnvR X.K φ' H' r1 σ' → L2.wipe σ' vs = L2.wipe σ vs → Q σ' H'
      | _ => False) := h
    refine ⟨v, rr, rfl, s1 φ M H σ r v d _ S er r1 ?_⟩
    cases q : g d r M with
    | ok r3 M3 =>
      rw [q] at h
      dsimp only at h
      intro σ' φ' H' g' S' er' w'
      refine s2 φ' M3 H' σ' r3 rr ds _ S' er' (RepL.grow g' _ _ r2) ?_
      cases q2 : gs ds r3 M3 with
      | ok r4 M4 => rw [q2] at h; exact fun σ2 φ2 H2 g2 S2 er2 w2 => h σ2 φ2 H2 (g'.trans g2) S2 er2 (w2.trans w')
      | _ => rw [q2] at h; exact h.elim
    | _ => rw [q] at h; exact h.elim
theorem dc_tup {es : List Expr} {k n : Nat} {gs : List D → Env' → Mem → Out Env'} (hc : X.calm = true) (h : DCsx X vs es gs) (hn : (assignEach es X.env).length = n := by rfl) (hst : (assignEach es X.env).findIdx? (·.1) = none := by rfl) : DCx X vs (.Tuple es k pos) (gTupD n gs) := by
  obtain ⟨_, p, s⟩ := h
  refine ⟨_, pg_tup hc p hn hst, fun φ M H σ r x d Q S er rx h => ?_⟩
  cases d with
  | tup ds =>
    unfold Rep at rx
    obtain ⟨a, xs, rfl, h1, h2⟩ := rx
    have h : (match (match Nat.beq ds.length n with
      | true => gs ds r M
      | false => .no) with
      | .ok r1 M1 => ∀ σ' φ' H', Grow φ H φ' H' → Sto X.K φ' M1 H' → EnvR X.K φ' H' r1 σ' → L2.wipe σ' vs = L2.wipe σ vs → Q σ' H'
      | _ => False) := h
    cases hb : Nat.beq ds.length n with
    | true =>
      rw [hb] at h
      exact ⟨a, xs, rfl, h1.sq, by rw [h2.len]; exact Nat.eq_of_beq_eq_true hb, s φ M H σ r xs ds Q S er h2 h⟩
    | false => rw [hb] at h; exact h.elim
  | _ => exact h.elim
end
def tDE (K : Frg) (W : WX) (de : DE) : TE := fun σ H Q => ∃ φ M r, Sto K φ M H ∧ EnvR K φ H r σ ∧ Okd K φ H (RE K) (de r M) Q (fun c d H' => W c d σ H')
def tDT (K : Frg) (W : WX) (dt : DT) : TT := fun σ H Q => ∃ φ M r, Sto K φ M H ∧ EnvR K φ H r σ ∧ Okd K φ H RT (dt r M) Q (fun c d H' => W c d σ H')
def tDC (K : Frg) (vs : List Nat) (dg : DG) : TG := fun x σ H Q => ∃ φ M r d, Sto K φ M H ∧ EnvR K φ H r σ ∧ Rep K φ H d x ∧ (match dg d r M with
  | .ok r1 M1 => ∀ σ' φ' H', Grow φ H φ' H' → Sto K φ' M1 H' → EnvR K φ' H' r1 σ' → L2.wipe σ' vs = L2.wipe σ vs → Q σ' H'
  | _ => False)
theorem DEx.pe {X : Cx} {W : WX} {e : Expr} {de : DE} (h : DEx X W e de) : PE X e (tDE X.K W de) := by
  obtain ⟨t, p, s⟩ := h
  exact ⟨fun pins sh σ H Q I ⟨φ, M, r, S, E, o⟩ => p.run pins sh σ H Q I (s φ M H σ r Q S E o)⟩
theorem DTx.pt {X : Cx} {W : WX} {e : Expr} {dt : DT} (h : DTx X W e dt) : PT X e (tDT X.K W dt) := by
  obtain ⟨t, p, s⟩ := h
  exact ⟨fun pins sh σ H Q I ⟨φ, M, r, S, E, o⟩ => p.run pins sh σ H Q I (s φ M H σ r Q S E o)⟩
theorem DCx.pg {X : Cx} {vs : List Nat} {e : Expr} {dg : DG} (h : DCx X vs e dg) : PG X e (tDC X.K vs dg) := by
  obtain ⟨t, p, s⟩ := h
  exact ⟨fun pins sh σ H v u Q I rv ⟨φ, M, r, d, S, E, rd, o⟩ => p.run pins sh σ H v u Q I rv (s φ M H σ r v d Q S E rd o)⟩
/-- a clause's tests -/
def dYes : DT := fun _ M => .ok true M
def DPx (X : Cx) (W : WX) (ifs : List Expr) (dt : DT) : Prop := PTs X ifs (tDT X.K W dt)
theorem dp_nil {X : Cx} {W : WX} : DPx X W [] dYes := ⟨fun pins sh σ H Q I ⟨φ, M, r, S, E, o⟩ => (pts_nil (X := X)).run pins sh σ H Q I (o.here S rfl)⟩
theorem dp_one {X : Cx} {W : WX} {c : Expr} {dt : DT} (h : DTx X W c dt) : DPx X W [c] dt := pts_one h.pt
/-- the turns -/
def compL (chk : Mem → Bool) (dg : DG) (dt : DT) (de : DE) (r0 : Env') : List D → List D → Mem → Out (List D)
  | [], acc, M => (match chk M with
    | true => .ok acc M
    | false => .no)
  | d :: ds, acc, M => match chk M with
    | true => (match dg d r0 M with
      | .ok r1 M1 => (match dt r1 M1 with
        | .ok true M2 => (match de r1 M2 with
          | .ok y M3 => (match lineB acc.length with
            | true => compL chk dg dt de r0 ds (acc ++ [y]) M3
            | false => .no)
          | _ => .no)
        | .ok false M2 => compL chk dg dt de r0 ds acc M2
        | _ => .no)
      | _ => .no)
    | false => .no
def dComp (di : DI) (dg : DG) (dt : DT) (de : DE) (vs : List Nat) : DE := fun r M => (di r M).bind fun src M1 => (compL src.chk dg dt de (wipeD r vs) src.items [] M1).bind fun ys M2 => .ok (.lst ys) M2
abbrev Wf : WX := fun _ _ _ _ => False
theorem lineB_lt {n : Nat} (h : lineB n = true) : n < sizeLine := Nat.lt_of_le_of_lt (Nat.le_of_ble_eq_true h) (by rw [sizeLine_eq]; decide)
/-- the state within: D is under construction -/
structure Wk (K : Frg) (φ1 : Wd) (H1 : Hp) (D : Addr) (σ0 : L2.St) (r0 : Env') (φ : Wd) (M : Mem) (H : Hp) (acc : List LF.D) (xs : List V) : Prop where
  S : Sto K φ M H
  lk : φ.lk = D :: φ1.lk
  g : Grow φ1 H1 ⟨φ.ar, φ1.lk⟩ H
  na : D ∉ φ.ar
  hD : H D = some (.lst xs)
  r : RepL K φ H acc xs
  mo : Mo φ1 H1 φ H
  E : EnvR K φ H r0 σ0
theorem sim_comp {K : Frg} {W : WX} {wi : TI} {di : DI} {dg : DG} {dt : DT} {de : DE} {vs : List Nat} (hi : SimI K W wi di) : SimE K W (tLc wi (tDC K vs dg) (tDT K Wf dt) (tDE K Wf de) vs) (dComp di dg dt de vs) := by
  intro φ M H σ r Q S E h
  refine hi φ M H σ r _ S E (Okd.bind h fun src M1 J φ1 H1 _ g1 S1 sv h1 => ?_)
  intro D hD
  have E1 := E.grow g1
  have Wk0 : Wk K φ1 H1 D (L2.wipe σ vs) (wipeD r vs) (φ1.lock D) M1 (upd H1 D (.lst [])) [] [] :=
    ⟨S1.lock hD, rfl, Grow.new hD, fun z => S1.mem z hD, upd_same, RepL.nil, Mo.lock hD, (E1.wipe vs).mo (Mo.lock hD)⟩
  refine ⟨fun i m H => m = src.items.length - i ∧ i ≤ src.items.length ∧ ∃ φ M acc xs, Wk K φ1 H1 D (L2.wipe σ vs) (wipeD r vs) φ M H acc xs ∧
    Okd K φ1 H1 (RE K) ((compL src.chk dg dt de (wipeD r vs) (src.items.drop i) acc M).bind fun ys M2 => .ok (.lst ys) M2) Q (fun c d H' => W c d σ H'), ⟨_, rfl, Nat.zero_le _, _, M1, [], [], Wk0, h1⟩, ?_⟩
  rintro i m H2 ⟨rfl, hi, φ2, M2, acc, xs, w, h2⟩
  by_cases hlt : i < src.items.length
  · have hd : src.items.drop i = src.items[i] :: src.items.drop (i + 1) := List.drop_eq_getElem_cons hlt
    rw [hd] at h2
    unfold compL at h2
    cases hc : src.chk M2 with
    | false => rw [hc] at h2; exact h2.elim
    | true =>
      rw [hc] at h2
      obtain ⟨_, sv2⟩ := sv i φ2 M2 H2 w.mo w.g.frz w.S hc
      obtain ⟨go, yl⟩ := sv2 src.items[i] (List.getElem?_eq_getElem hlt)
      refine .inr ⟨go, fun H' => ∃ φ M acc xs, Wk K φ1 H1 D (L2.wipe σ vs) (wipeD r vs) φ M H' acc xs ∧
        Okd K φ1 H1 (RE K) ((compL src.chk dg dt de (wipeD r vs) (src.items.drop (i + 1)) acc M).bind fun ys M2 => .ok (.lst ys) M2) Q (fun c d H' => W c d σ H'), fun H' n => ⟨_, by omega, rfl, hlt, n⟩, fun x H3 hy => ?_⟩
      obtain ⟨φ3, g3, S3, r3⟩ := yl x H3 hy
      -- a state that has grown
      have up : ∀ {φ4 : Wd} {H4 : Hp} {M4 : Mem}, Grow φ2 H2 φ4 H4 → Sto K φ4 M4 H4 → Wk K φ1 H1 D (L2.wipe σ vs) (wipeD r vs) φ4 M4 H4 acc xs := fun {φ4 H4 M4} g S4 =>
        ⟨S4, g.lk.trans w.lk, ⟨by
          obtain ⟨ψ, e, hψ⟩ := w.g.ext
          obtain ⟨χ, e2, hχ⟩ := g.ext
          refine ⟨ψ ++ χ, by show φ4.ar = _; rw [e2]; have e : φ2.ar = φ1.ar ++ ψ := e; rw [e, List.append_assoc], fun a ha => ?_⟩
          rcases List.mem_append.mp ha with q | q
          · exact hψ a q
          · exact w.g.dom a (hχ a q), rfl, fun a o h n t => g.stay a o (w.g.stay a o h n t) (by
            intro z
            obtain ⟨ψ, e, hψ⟩ := w.g.ext
            have e : φ2.ar = φ1.ar ++ ψ := e
            rw [e] at z
            rcases List.mem_append.mp z with q | q
            · exact n q
            · rw [hψ a q] at h; cases h) t, fun a h => w.g.dom a (g.dom a h), fun a o u h => g.frz a o u (w.g.frz a o u h)⟩,
          g.notin w.hD w.na, g.stay _ _ w.hD w.na (fun _ z => (nomatch z)), RepL.grow g _ _ w.r, w.mo.trans g.mo, w.E.grow g⟩
      refine ⟨φ3, M2, wipeD r vs, src.items[i], S3, w.E.grow g3, r3, ?_⟩
      cases q : dg src.items[i] (wipeD r vs) M2 with
      | ok r4 M4 =>
        rw [q] at h2
        dsimp only at h2
        intro σ4 φ4 H4 g4 S4 er4 w4
        refine ⟨w4.trans (wipe_idem _ _), φ4, M4, r4, S4, er4, ?_⟩
        cases q2 : dt r4 M4 with
        | ok b M5 =>
          rw [q2] at h2
          intro b' φ5 H5 g5 S5 e5
          have e5 : b' = b := e5
          subst e5
          cases b' with
          | false =>
            rw [if_neg Bool.false_ne_true]
            exact ⟨φ5, M5, acc, xs, up ((g3.trans g4).trans g5) S5, h2⟩
          | true =>
            rw [if_pos rfl]
            dsimp only at h2
            refine ⟨φ5, M5, r4, S5, er4.grow g5, ?_⟩
            cases q3 : de r4 M5 with
            | ok y M6 =>
              rw [q3] at h2
              dsimp only at h2
              intro v φ6 H6 g6 S6 r6
              have w6 := up (((g3.trans g4).trans g5).trans g6) S6
              cases q4 : lineB acc.length with
              | false => rw [q4] at h2; exact h2.elim
              | true =>
                rw [q4] at h2
                have hp : D ∈ φ6.lk := by rw [w6.lk]; exact List.mem_cons_self
                have re : Mo φ6 H6 φ6 (upd H6 D (.lst (xs ++ [v]))) := Mo.relock hp
                refine ⟨xs, w6.hD, by rw [w6.r.len]; exact lineB_lt q4, φ6, M6, acc ++ [y], xs ++ [v], ⟨w6.S.relock hp w6.na, w6.lk, ⟨w6.g.ext, rfl, fun a o h n t => ?_, fun a h => ?_, fun a o u h => by rw [upd_ne (ne_of_none h hD)]; exact w6.g.frz a o u h⟩, w6.na, upd_same, (RepL.mo re _ _ w6.r).app (.cons (Rep.mo re _ _ r6) .nil), w6.mo.trans re, w6.E.mo re⟩, h2⟩
                · rw [upd_ne (ne_of_none h hD)]; exact w6.g.stay a o h n t
                · by_cases z : a = D
                  · rw [z, upd_same] at h; cases h
                  · rw [upd_ne z] at h; exact w6.g.dom a h
            | _ => rw [q3] at h2; exact h2.elim
        | _ => rw [q2] at h2; exact h2.elim
      | _ => rw [q] at h2; exact h2.elim
  · have e : i = src.items.length := by omega
    subst e
    rw [List.drop_length] at h2
    unfold compL at h2
    cases hc : src.chk M2 with
    | false => rw [hc] at h2; exact h2.elim
    | true =>
      rw [hc] at h2
      refine .inl ⟨(sv _ φ2 M2 H2 w.mo w.g.frz w.S hc).1 rfl, ?_⟩
      have un : Mo φ2 H2 ⟨φ2.ar, φ1.lk⟩ H2 := ⟨fun a u n e _ => ⟨⟨n.1, fun z => n.2 (by rw [w.lk]; exact List.mem_cons_of_mem _ z)⟩, e⟩, fun _ _ e => e⟩
      have Su : Sto K ⟨φ2.ar, φ1.lk⟩ M2 H2 := ⟨w.S.len, w.S.nd, fun a ha => w.S.lk a (by rw [w.lk]; exact List.mem_cons_of_mem _ ha), fun i a mo e1 e2 => (w.S.ob i a mo e1 e2).mo un rfl⟩
      refine h2 (.ref D) ⟨φ2.ar, φ1.lk⟩ H2 w.g Su ?_
      show Rep K _ _ _ _
      unfold Rep
      exact ⟨D, xs, rfl, .inl ⟨⟨w.na, fun z => (S1.fresh hD).2 z⟩, .inl w.hD⟩, RepL.mo un _ _ w.r⟩
end LF
set_option Elab.async false
set_option linter.all false
set_option maxRecDepth 100000
set_option maxHeartbeats 2000000
namespace LF
open PySem PySem.Spec PyProof.Rows L2
section
variable {X : Cx} {W : WX} {pos : Pos}
theorem de_comp {elt tg iter : Expr} {ifs : List Expr} {scope : Scope} {own : List (Str × Nat)} {di : DI} {dg : DG} {dt : DT} {de : DE} (hc : X.calm = true) (hN : X.N.Nodup) (hi : DIx X W tg iter di) (ok : BlkOk X.N X.env.scope scope own)
    (hg : ∀ (s : Shared) (H : Hp) (C : Addr) (cl : List (Str × Addr)) (fp : List Addr), DCx (X.blk s H scope (compEnvC scope cl C X.env) fp) (own.map (·.2)) tg dg) (ht : ∀ (s : Shared) (H : Hp) (C : Addr) (cl : List (Str × Addr)) (fp : List Addr), DPx (X.blk s H scope (compEnvC scope cl C X.env) fp) Wf ifs dt)
    (he : ∀ (s : Shared) (H : Hp) (C : Addr) (cl : List (Str × Addr)) (fp : List Addr), DEx (X.blk s H scope (compEnvC scope cl C X.env) fp) Wf elt de) (hs : ∀ x, foldedSetIterable iter X.env x = pure x := by intro _; rfl) :
    DEx X W (.ListComp elt [⟨tg, iter, ifs, 0⟩] scope pos) (dComp di dg dt de (own.map (·.2))) := by
  obtain ⟨_, p, s⟩ := hi
  exact ⟨_, pe_lc (g := tDC X.K (own.map (·.2)) dg) (tt := tDT X.K Wf dt) (te := tDE X.K Wf de) hc hN p ok (fun s H C cl fp => (hg s H C cl fp).pg) ht (fun s H C cl fp => (he s H C cl fp).pe) hs, sim_comp s⟩
theorem ds_setComp {i : Nat} {y : Str} {py : Pos} {elt tg iter : Expr} {ifs : List Expr} {scope : Scope} {own : List (Str × Nat)} {spos : Pos} {di : DI} {dg : DG} {dt : DT} {de : DE} (hc : X.calm = true) (hN : X.N.Nodup) (hy : X.N[i]? = some y) (hyl : X.env.scope.names.lookup y = some .local)
    (hsw : swapsWith (.ListComp elt [⟨tg, iter, ifs, 0⟩] scope pos) (some (.Name y py)) spos.line X.env = pure true) (hi : DIx X W tg iter di) (ok : BlkOk X.N X.env.scope scope own)
    (hg : ∀ (s : Shared) (H : Hp) (C : Addr) (cl : List (Str × Addr)) (fp : List Addr), DCx (X.blk s H scope (compEnvC scope cl C X.env) fp) (own.map (·.2)) tg dg) (ht : ∀ (s : Shared) (H : Hp) (C : Addr) (cl : List (Str × Addr)) (fp : List Addr), DPx (X.blk s H scope (compEnvC scope cl C X.env) fp) Wf ifs dt)
    (he : ∀ (s : Shared) (H : Hp) (C : Addr) (cl : List (Str × Addr)) (fp : List Addr), DEx (X.blk s H scope (compEnvC scope cl C X.env) fp) Wf elt de) (hs : ∀ x, foldedSetIterable iter X.env x = pure x := by intro _; rfl) :
    DSx X W (.Assign [.Name y py] (.ListComp elt [⟨tg, iter, ifs, 0⟩] scope pos) spos) (dAsg (dComp di dg dt de (own.map (·.2))) (gSlot i)) := by
  obtain ⟨_, p, s⟩ := hi
  exact ⟨_, ps_setLc (g := tDC X.K (own.map (·.2)) dg) (tt := tDT X.K Wf dt) (te := tDE X.K Wf de) hc hN hy hyl hsw p ok (fun s H C cl fp => (hg s H C cl fp).pg) ht (fun s H C cl fp => (he s H C cl fp).pe) hs, sim_asg (sim_comp s) sim_gName⟩
def dM1 (f : Str → F1) (da db : DE) : DE := fun r M => (da r M).bind fun x M1 => match x with
  | .str s => (db r M1).bind fun y M2 => f s y M2
  | _ => .no
def OpM (K : Frg) (r : V → List V → Hp → VK → Prop) (f : Str → F1) : Prop := ∀ φ M H s y b Q W, Sto K φ M H → Rep K φ H b y → Okd K φ H (RE K) (f s b M) Q W → r (.str s) [y] H Q
theorem de_m1 {id : String} {name : Str} {apos : Pos} {rr : V → List V → Hp → VK → Prop} {f : Str → F1} {o e : Expr} {da db : DE} (slot : Slot "str" name id) (ty : typeOf (.builtin id) = pure (.type "method_descriptor")) (rule : MtR X id rr) (hf : OpM X.K rr f) (ho : DEx X W o da) (he : DEx X W e db)
    (hs : starEach [e] X.env = [(false, eval e X.env)] := by rfl) (hbase : attributeBase o name X.env (eval o X.env) = eval o X.env := by rfl) (hline : (apos.endLine == pos.line) = true := by rfl) :
    DEx X W (.Call (.Attribute o name apos) [e] [] pos) (dM1 f da db) := by
  obtain ⟨_, p1, s1⟩ := ho
  obtain ⟨_, p2, s2⟩ := he
  refine ⟨_, pe_m1 slot ty rule p1 p2 hs hbase hline, fun φ M H σ r Q S E h => ?_⟩
  refine s1 φ M H σ r _ S E (Okd.bind h fun d M1 v φ1 H1 _ g1 S1 rv h1 => ?_)
  cases d with
  | str s =>
    refine ⟨⟨s, rep_str_inv rv⟩, s2 φ1 M1 H1 σ r _ S1 (E.grow g1) (Okd.bind h1 fun y M2 u φ2 H2 _ g2 S2 ru h2 => ?_)⟩
    rw [rep_str_inv rv]
    exact hf φ2 M2 H2 s u y Q _ S2 ru h2
  | _ => exact h1.elim
/-- the texts of a row -/
def strsOf : List D → Option (List Str)
  | [] => some []
  | .str s :: r => (strsOf r).map (s :: ·)
  | _ :: _ => none
theorem strs_rep {K : Frg} {φ : Wd} {H : Hp} : ∀ {ds : List D} {xs : List V} {ss : List Str}, RepL K φ H ds xs → strsOf ds = some ss → xs = ss.map V.str
  | [], xs, ss, r, h => by cases h; exact r.inv0
  | d :: ds, xs, ss, r, h => by
    cases d with
    | str s =>
      obtain ⟨v, w, rfl, r1, r2⟩ := r.inv
      unfold strsOf at h
      cases e : strsOf ds with
      | none => rw [e] at h; cases h
      | some l =>
        rw [e] at h; cases h
        rw [List.map_cons, rep_str_inv r1, strs_rep r2 e]
    | _ => cases h
def mJoin : Str → F1 := fun s y M => match (seqOf M y).bind strsOf with
  | some ss => (match lineB ((ss.map (·.length)).sum + ss.length * s.length) with
    | true => .ok (.str (Txt.join s ss)) M
    | false => .no)
  | none => .no
theorem o_join {K : Frg} : OpM K (fun x xs H Q => ∃ a p, ∃ ys : List Str, x = .str a ∧ xs = [.ref p] ∧ (SqL K H p (ys.map V.str) ∨ SqT K H p (ys.map V.str)) ∧ (ys.map (·.length)).sum + ys.length * a.length ≤ 16777216 ∧ Q (.str (Txt.join a ys)) H) mJoin := by
  intro φ M H s y b Q W S rb h
  unfold mJoin at h
  cases e : seqOf M b with
  | none => rw [e] at h; exact h.elim
  | some ds =>
    rw [e] at h
    cases e2 : strsOf ds with
    | none => rw [Option.bind_some, e2] at h; exact h.elim
    | some ss =>
      rw [Option.bind_some, e2] at h
      dsimp only at h
      obtain ⟨p, xs, hx, hs, r⟩ := seq_rep S rb e
      have ex := strs_rep r e2
      subst ex
      cases q : lineB ((ss.map (·.length)).sum + ss.length * s.length) with
      | false => rw [q] at h; exact h.elim
      | true =>
        rw [q] at h
        exact ⟨s, p, ss, rfl, by rw [hx], hs, by have z := lineB_ok q; rw [sizeLine_eq] at z; exact z, okT S h⟩
theorem de_join {o e : Expr} {apos : Pos} {da db : DE} (ho : DEx X W o da) (he : DEx X W e db) (hs : starEach [e] X.env = [(false, eval e X.env)] := by rfl) (hbase : attributeBase o "join" X.env (eval o X.env) = eval o X.env := by rfl) (hline : (apos.endLine == pos.line) = true := by rfl) :
    DEx X W (.Call (.Attribute o "join" apos) [e] [] pos) (dM1 mJoin da db) := de_m1 F.slot_str_join F.type_str_join mt_join o_join ho he hs hbase hline
def mInt (g : Str → Str → Int) : Str → F1 := fun s y M => match y with
  | .str t => .ok (.int (g s t)) M
  | _ => .no
/-- the built-in type of a thing -/
def tagOf (M : Mem) : D → Option String
  | .non => some "NoneType"
  | .bl _ => some "bool"
  | .int _ => some "int"
  | .str _ => some "str"
  | .tup _ => some "tuple"
  | .lst _ => some "list"
  | .dic _ _ => some "dict"
  | .obj n => (match M[n]? with
    | some (.lst _) => some "list"
    | some (.ro _) => some "list"
    | some (.dic _) => some "dict"
    | _ => none)
  | _ => none
theorem tag_ty {K : Frg} {φ : Wd} {M : Mem} {H : Hp} {d : D} {v : V} {t : String} (S : Sto K φ M H) (r : Rep K φ H d v) (h : tagOf M d = some t) : TyX K H v (.type t) := by
  cases d with
  | non => cases h; rw [rep_non_inv r]; exact .base .non
  | bl b => cases h; rw [rep_bl_inv r]; exact .base (.bl b)
  | int i => cases h; rw [rep_int_inv r]; exact .base (.int i)
  | str x => cases h; rw [rep_str_inv r]; exact .base (.str x)
  | tup ds =>
    cases h
    unfold Rep at r
    obtain ⟨a, xs, rfl, h1, _⟩ := r
    rcases h1 with ⟨_, h1⟩ | ⟨o, its, n, e, c, _⟩
    · rcases h1 with h1 | ⟨o, h1⟩
      · exact .base (.tup h1)
      · exact .fTuple h1
    · exact .kTuple e c
  | lst ds =>
    cases h
    unfold Rep at r
    obtain ⟨a, xs, rfl, h1, _⟩ := r
    rcases h1 with ⟨_, h1⟩ | ⟨o, its, n, e, c, _⟩
    · rcases h1 with h1 | ⟨o, h1⟩
      · exact .base (.lst h1)
      · exact .base (.frz h1)
    · exact .kList e c
  | dic ks ds =>
    cases h
    unfold Rep at r
    obtain ⟨a, kv, rfl, _, h1, _⟩ := r
    exact .base (.dK h1)
  | obj n =>
    unfold Rep at r
    obtain ⟨a, h1, rfl⟩ := r
    have h : (match M[n]? with
      | some (.lst _) => some "list"
      | some (.ro _) => some "list"
      | some (.dic _) => some "dict"
      | _ => none) = some t := h
    split at h
    · rename_i q; cases h
      obtain ⟨xs, e, _⟩ := S.ob n a _ h1 q
      exact .base (.lst e)
    · rename_i q; cases h
      obtain ⟨xs, e, _⟩ := S.ob n a _ h1 q
      rcases e with e | ⟨o, e⟩
      · exact .base (.lst e)
      · exact .base (.frz e)
    · rename_i q; cases h
      obtain ⟨xs, e, _⟩ := S.ob n a _ h1 q
      exact .base (.dK e)
    · cases h
  | _ => cases h
def dIsB (p : String → Bool) (da : DE) : DE := fun r M => (da r M).bind fun x M1 => match tagOf M1 x with
  | some t => .ok (.bl (p t)) M1
  | none => .no
def tags : List String := ["NoneType", "bool", "int", "str", "tuple", "list", "dict"]
theorem tag_mem {M : Mem} {d : D} {t : String} (h : tagOf M d = some t) : t ∈ tags := by
  unfold tags
  cases d with
  | obj n =>
    have h : (match M[n]? with
      | some (.lst _) => some "list"
      | some (.ro _) => some "list"
      | some (.dic _) => some "dict"
      | _ => none) = some t := h
    split at h <;> cases h <;> simp
  | _ => cases h <;> simp
theorem de_isiB {T : String} {x : Str} {p : String → Bool} {e : Expr} {da : DE} {fp np : Pos} (hp : tags.all (fun t => decide (kitB t T = some (p t))) = true) (hg : Gl X "isinstance") (hm : X.mg "isinstance" = none) (hgx : Gl X x) (hmx : X.mg x = none) (hx : bootBuiltins x = some (.type T)) (he : DEx X W e da)
    (hn : x ≠ "__name__" := by decide) (hd : (x == ("__debug__" : Str)) = false := by decide) (hs : starEach [e, .Name x np] X.env = (false, eval e X.env) :: starEach [.Name x np] X.env := by rfl) (hs2 : starEach [.Name x np] X.env = (false, eval (.Name x np) X.env) :: starEach [] X.env := by rfl) (hpl : (backTo pos (starEach [.Name x np] X.env)).any (·.1) = false := by rfl) :
    DEx X W (.Call (.Name "isinstance" fp) [e, .Name x np] [] pos) (dIsB p da) := by
  obtain ⟨_, p1, s1⟩ := he
  refine ⟨_, pe_callB call_isi hg hm (by decide +kernel) (pa_cons p1 (pa_cons (pe_bltn (v := .ty T) hgx hmx hx rfl hn hd) pa_nil hs2) hs) (by decide) (by decide) hs hpl, fun φ M H σ r Q S E h => ?_⟩
  refine s1 φ M H σ r _ S E (Okd.bind h fun d M1 v φ1 H1 _ g1 S1 rv h1 => ?_)
  have h1 : Okd X.K φ1 H1 (RE X.K) (match tagOf M1 d with
    | some t => .ok (.bl (p t)) M1
    | none => .no) Q (fun c d H' => W c d σ H') := h1
  cases q : tagOf M1 d with
  | none => rw [q] at h1; exact h1.elim
  | some t =>
    rw [q] at h1
    have z := of_decide_eq_true (List.all_eq_true.mp hp t (tag_mem q))
    exact ⟨v, .ty T, .type t, .type T, p t, rfl, .ty T, tag_ty S1 rv q, kit_ty z, okB S1 h1⟩
def fMax2 : FN := fun ds M => match ds with
  | [.int i, .int j] => .ok (.int (if j > i then j else i)) M
  | _ => .no
theorem o_max2 {K : Frg} : OpN K (fun xs H Q => ∃ i j, xs = [.int i, .int j] ∧ Q (.int (if j > i then j else i)) H) fMax2 := by
  intro φ M H xs ds Q W S r h
  unfold fMax2 at h
  split at h
  · rename_i i j
    obtain ⟨v, w, rfl, r1, r2⟩ := r.inv
    obtain ⟨v', w', rfl, r3, r4⟩ := r2.inv
    rw [r4.inv0, rep_int_inv r1, rep_int_inv r3]
    exact ⟨i, j, rfl, okI S h⟩
  · exact h.elim
def rMulX : R2 := fun x y H Q => (∃ i j, x = .int i ∧ y = .int j ∧ CMul i j ∧ Q (.int (i * j)) H) ∨ ∃ s j, x = .str s ∧ y = .int j ∧ ((j = 0 ∧ Q (.str Str.empty) H) ∨ (j = 1 ∧ Q (.str s) H))
theorem opr_mul {X : Cx} : OpR X (binaryOp .Mult) rMulX := by
  refine OpR.or (r := fun x y H Q => ∃ i j, x = .int i ∧ y = .int j ∧ CMul i j ∧ Q (.int (i * j)) H) op_mul ?_
  intro pins s σ H x y v u Q I rx ry h
  obtain ⟨z, j, rfl, rfl, h⟩ := h
  obtain ⟨t, rfl⟩ := rx
  obtain ⟨t', rfl⟩ := ry
  rcases h with ⟨rfl, h⟩ | ⟨rfl, h⟩
  · exact PySem.P.mul_str_none (by decide) (by decide) ⟨.str Str.empty, H, I.tok _, ⟨_, rfl⟩, h⟩
  · refine SB.mul ⟨by decide, fun _ z => absurd z (by simp), fun _ z => absurd z (by simp)⟩ fun t' k => ⟨.str z, H, I.tok k, ⟨t', ?_⟩, h⟩
    unfold Txt.mul
    rw [if_neg (by decide), if_pos (by simp)]
def fMulX : F2 := fun x y M => match x, y with
  | .int i, .int j => (match small64 i || small64 j with
    | true => .ok (.int (i * j)) M
    | false => .no)
  | .str s, .int j => if j = 0 then .ok (.str Str.empty) M else if j = 1 then .ok (.str s) M else .no
  | _, _ => .no
theorem o_mulX {K : Frg} : Op2 K rMulX fMulX := by
  intro φ M H x y a b Q W S ra rb h
  cases a with
  | int i =>
    cases b with
    | int j =>
      have h : Okd K φ H (RE K) (match small64 i || small64 j with
        | true => .ok (.int (i * j)) M
        | false => .no) Q W := h
      cases q : small64 i || small64 j with
      | false => rw [q] at h; exact h.elim
      | true =>
        rw [q] at h
        refine .inl ⟨i, j, rep_int_inv ra, rep_int_inv rb, ?_, okI S h⟩
        rcases Bool.or_eq_true_iff.mp q with a | a
        · exact .inl (small64_ok a)
        · exact .inr (small64_ok a)
    | _ => exact h.elim
  | str s =>
    cases b with
    | int j =>
      have h : Okd K φ H (RE K) (if j = 0 then .ok (.str Str.empty) M else if j = 1 then .ok (.str s) M else .no) Q W := h
      refine .inr ⟨s, j, rep_str_inv ra, rep_int_inv rb, ?_⟩
      by_cases h0 : j = 0
      · rw [if_pos h0] at h; exact .inl ⟨h0, okT S h⟩
      · rw [if_neg h0] at h
        by_cases h1 : j = 1
        · rw [if_pos h1] at h; exact .inr ⟨h1, okT S h⟩
        · rw [if_neg h1] at h; exact h.elim
    | _ => exact h.elim
  | _ => cases b <;> exact h.elim
end
end LF
set_option Elab.async false
set_option linter.all false
set_option maxRecDepth 100000
set_option maxHeartbeats 4000000
namespace LF
open PySem PySem.Spec PyProof.Rows L2
def keyOf : D → Option Key
  | .int i => some (.inl i)
  | .str s => some (.inr s)
  | _ => none
theorem key_rep {K : Frg} {φ : Wd} {H : Hp} {d : D} {v : V} {k : Key} (r : Rep K φ H d v) (h : keyOf d = some k) : v = kV k := by
  cases d with
  | int i => cases h; exact rep_int_inv r
  | str s => cases h; exact rep_str_inv r
  | _ => cases h
/-- d[k], k there -/
def fDGet : F2 := fun x y M => match x, keyOf y with
  | .obj n, some k => (match M[n]? with
    | some (.dic kvs) => liftO (lookD kvs k) M
    | _ => .no)
  | _, _ => .no
theorem fDGet_inv {K : Frg} {φ : Wd} {H : Hp} {Q : VK} {W : XK} {x y : D} {M : Mem} (h : Okd K φ H (RE K) (fDGet x y M) Q W) : ∃ n k kvs, x = .obj n ∧ keyOf y = some k ∧ M[n]? = some (.dic kvs) ∧ Okd K φ H (RE K) (liftO (lookD kvs k) M) Q W := by
  cases x with
  | obj n =>
    unfold fDGet at h
    cases hk : keyOf y with
    | none => rw [hk] at h; exact h.elim
    | some k =>
      rw [hk] at h
      dsimp only at h
      split at h
      · rename_i kvs hM
        exact ⟨n, k, kvs, rfl, rfl, hM, h⟩
      · exact h.elim
  | _ => exact h.elim
section
variable {X : Cx} {W : WX} {pos : Pos}
theorem de_dget {o i : Expr} {da db : DE} (hu : X.A.units + 1 < cLine) (ho : DEx X W o da) (hi : DEx X W i db) (hs : NoSl i := by intro _ _; rfl) : DEx X W (.Subscript o i pos) (dBin fDGet da db) := by
  obtain ⟨_, p1, s1⟩ := ho
  obtain ⟨_, p2, s2⟩ := hi
  refine ⟨_, pe_dget hu p1 p2 hs, fun φ M H σ r Q S E h => ?_⟩
  refine s1 φ M H σ r _ S E (Okd.bind h fun x M1 v φ1 H1 _ g1 S1 r1 h1 => ?_)
  refine s2 φ1 M1 H1 σ r _ S1 (E.grow g1) (Okd.bind h1 fun y M2 u φ2 H2 _ g2 S2 r2 h2 => ?_)
  have r1 := Rep.grow g2 _ _ r1
  obtain ⟨n, k, kvs, rfl, hk, hM, h2⟩ := fDGet_inv h2
  unfold Rep at r1
  obtain ⟨a, ha, hv⟩ := r1
  obtain ⟨kv, e1, e2⟩ := S2.ob n a _ ha hM
  cases q : lookD kvs k with
  | none => rw [q] at h2; exact h2.elim
  | some d =>
    rw [q] at h2
    obtain ⟨w, k1, k2⟩ := (e2.look (k := k)).2 d q
    refine ⟨a, w, hv, ?_, h2.here S2 k2⟩
    rw [key_rep r2 hk, ← k1]
    exact DGet.k e1
/-- d[k] = e -/
def putAt (o k v : D) (r : Env') (M : Mem) : SO := match o, keyOf k with
  | .obj n, some k => (match M[n]? with
    | some (.dic kvs) => (match lineB kvs.length with
      | true => .nx r (M.set n (.dic (putD kvs k v)))
      | false => .no)
    | _ => .no)
  | _, _ => .no
theorem putAt_inv {K : Frg} {φ : Wd} {H : Hp} {E : Ends} {W : WX} {x y z : D} {r : Env'} {M : Mem} (h : OkS K φ H (putAt x y z r M) E W) : ∃ n k kvs, x = .obj n ∧ keyOf y = some k ∧ M[n]? = some (.dic kvs) ∧ lineB kvs.length = true ∧ OkS K φ H (.nx r (M.set n (.dic (putD kvs k z)))) E W := by
  cases x with
  | obj n =>
    unfold putAt at h
    cases hk : keyOf y with
    | none => rw [hk] at h; exact h.elim
    | some k =>
      rw [hk] at h
      dsimp only at h
      split at h
      · rename_i kvs hM
        cases q : lineB kvs.length with
        | false => rw [q] at h; exact h.elim
        | true => rw [q] at h; exact ⟨n, k, kvs, rfl, rfl, hM, q, h⟩
      · exact h.elim
  | _ => exact h.elim
def dDPut (do_ dk dv : DE) : DS := fun r M => (dv r M).bindS r fun v M1 => (do_ r M1).bindS r fun o M2 => (dk r M2).bindS r fun k M3 => putAt o k v r M3
theorem ds_dput {o i value : Expr} {pos' : Pos} {da db dv : DE} (hu : X.A.units + 1 < cLine) (ho : DEx X W o da) (hi : DEx X W i db) (hv : DEx X W value dv) (hs : swapsWith value (some (.Subscript o i pos')) pos.line X.env = pure false := by rfl) :
    DSx X W (.Assign [.Subscript o i pos'] value pos) (dDPut da db dv) := by
  obtain ⟨_, p1, s1⟩ := ho
  obtain ⟨_, p2, s2⟩ := hi
  obtain ⟨_, p3, s3⟩ := hv
  refine ⟨_, ps_dput hu p1 p2 p3 hs, fun φ M H σ r E S er h => ?_⟩
  refine s3 φ M H σ r _ S er (OkS.bind er h fun z M1 v φ1 H1 _ g1 S1 rv h1 => ?_)
  refine s1 φ1 M1 H1 σ r _ S1 (er.grow g1) (OkS.bind (er.grow g1) h1 fun x M2 u φ2 H2 _ g2 S2 ru h2 => ?_)
  refine s2 φ2 M2 H2 σ r _ S2 ((er.grow g1).grow g2) (OkS.bind ((er.grow g1).grow g2) h2 fun y M3 w φ3 H3 _ g3 S3 rw_ h3 => ?_)
  replace rv := Rep.grow (g2.trans g3) _ _ rv
  replace ru := Rep.grow g3 _ _ ru
  obtain ⟨n, k, kvs, rfl, hk, hM, q, h3⟩ := putAt_inv h3
  unfold Rep at ru
  obtain ⟨a, ha, hv⟩ := ru
  obtain ⟨kv, e1, e2⟩ := S3.ob n a _ ha hM
  refine ⟨a, upd H3 a (.dK (putK kv k v)), hv, ?_, ?_⟩
  · rw [key_rep rw_ hk]
    exact DPut.k e1 (by rw [e2.len]; exact lineB_lt q)
  · have gp : Grow φ3 H3 φ3 (upd H3 a (.dK (putK kv k v))) := Grow.put (List.mem_of_getElem? ha) (fun ob u z => by rw [e1] at z; cases z)
    exact h3 σ φ3 _ gp (S3.put ha ⟨_, upd_same, RepK.mo gp.mo (e2.put rv)⟩) ((er.grow ((g1.trans g2).trans g3)).grow gp)
def dNewDic : DE := fun _ M => .ok (.obj M.length) (M ++ [.dic []])
theorem de_dnewA : DEx X W (.Dict [] [] pos) dNewDic := ⟨_, pe_dnewK, fun φ M H σ r Q S E h p hp => h (.ref p) _ _ (Grow.alloc hp) (S.alloc hp ⟨[], upd_same, RepK.nil⟩) (rep_obj_new S.len)⟩
/-- a display with written keys -/
def dPairs : List (Key × DE) → Env' → Mem → Out (List (Key × D))
  | [], _, M => .ok [] M
  | (k, de) :: ps, r, M => (de r M).bind fun d M1 => (dPairs ps r M1).bind fun l M2 => .ok ((k, d) :: l) M2
def SimP (K : Frg) (W : WX) (trs : List (TE × TE)) (ps : List (Key × DE)) : Prop := ∀ φ M H σ r (Q : List (V × V) → Hp → Prop), Sto K φ M H → EnvR K φ H r σ → Okd K φ H (fun φ H (a : List (Key × D)) (b : List (Key × V)) => RepK K φ H a b) (dPairs ps r M) (fun l H' => Q (l.map fun kv => (kV kv.1, kv.2)) H') (fun c d H' => W c d σ H') → tPairs trs σ H Q
def DPPx (X : Cx) (W : WX) (pos : Pos) (keys : List (Option Expr)) (values : List Expr) (ps : List (Key × DE)) : Prop := ∃ trs, PPs X pos keys values trs ∧ SimP X.K W trs ps
theorem dpp_nil : DPPx X W pos [] [] [] := ⟨_, pps_nil, fun φ M H σ r Q S E h => h [] φ H Grow.refl S RepK.nil⟩
theorem dpp_cons {k v : Expr} {ks : List (Option Expr)} {vs : List Expr} {ps : List (Key × DE)} {kk : Key} {tk : TE} {dv : DE} (hk : PE X k tk) (ek : ∀ σ H Q, tk σ H Q = Q (kV kk) H) (hv : DEx X W v dv) (hr : DPPx X W pos ks vs ps) : DPPx X W pos (some k :: ks) (v :: vs) ((kk, dv) :: ps) := by
  obtain ⟨_, p1, s1⟩ := hv
  obtain ⟨_, p2, s2⟩ := hr
  refine ⟨_, pps_cons hk p1 p2, fun φ M H σ r Q S E h => ?_⟩
  show tk σ H _
  rw [ek]
  refine s1 φ M H σ r _ S E (Okd.bind h fun d M1 v φ1 H1 _ g1 S1 r1 h1 => ?_)
  refine s2 φ1 M1 H1 σ r _ S1 (E.grow g1) (Okd.bind h1 fun l M2 lv φ2 H2 _ g2 S2 r2 h2 => ?_)
  exact h2.here (v := (kk, v) :: lv) S2 (RepK.cons (Rep.grow g2 _ _ r1) r2)
theorem dpp_str {x : Str} {j : Nat} {p : Pos} {v : Expr} {ks : List (Option Expr)} {vs : List Expr} {ps : List (Key × DE)} {dv : DE} (hv : DEx X W v dv) (hr : DPPx X W pos ks vs ps) : DPPx X W pos (some (.Constant (.str x) j p) :: ks) (v :: vs) ((.inr x, dv) :: ps) := dpp_cons pe_str (fun _ _ _ => rfl) hv hr
def mergeD (a b : List (Key × D)) : List (Key × D) := b.foldl (fun acc kv => putD acc kv.1 kv.2) a
theorem RepK.merge {K : Frg} {φ : Wd} {H : Hp} : ∀ {b : List (Key × D)} {bv : List (Key × V)} {a : List (Key × D)} {av : List (Key × V)}, RepK K φ H a av → RepK K φ H b bv → RepK K φ H (mergeD a b) (mergeK av bv)
  | [], _, _, _, h, k => by
    have k : _ = [] := k
    rw [k]; exact h
  | (x, d) :: b, _, _, _, h, ⟨v, l', e, h1, h2⟩ => by
    rw [e]
    exact RepK.merge (K := K) (φ := φ) (H := H) (b := b) (bv := l') (h.put (k := x) h1) h2
def dDisp (ps : List (Key × DE)) : DE := fun r M => (dPairs ps r M).bind fun kvs M1 => match Nat.ble kvs.length 15 with
  | true => .ok (.obj M1.length) (M1 ++ [.dic (mergeD [] kvs)])
  | false => .no
/-- out of a place under construction -/
theorem unlocked {K : Frg} {φ φ' : Wd} {H H' : Hp} {p : Addr} {o : HO} {M : Mem} (hp : H p = none) (npa : p ∉ φ.ar) (g : Grow (φ.lock p) (upd H p o) φ' H') (S : Sto K φ' M H') (ho : Pln o := by first | exact pln_lst | exact pln_dK | exact pln_ins | exact pln_frz) : Mo φ' H' ⟨φ'.ar, φ.lk⟩ H' ∧ Grow φ H ⟨φ'.ar, φ.lk⟩ H' ∧ Sto K ⟨φ'.ar, φ.lk⟩ M H' ∧ p ∉ φ'.ar ∧ H' p = some o := by
  have lk : φ'.lk = p :: φ.lk := g.lk
  have un : Mo φ' H' ⟨φ'.ar, φ.lk⟩ H' := ⟨fun a u n e _ => ⟨⟨n.1, fun z => n.2 (by rw [lk]; exact List.mem_cons_of_mem _ z)⟩, e⟩, fun _ _ e => e⟩
  have back : ∀ a, (upd H p o) a = none → H a = none := fun a h => by
    by_cases q : a = p
    · rw [q]; exact hp
    · rw [upd_ne q] at h; exact h
  have G : Grow φ H ⟨φ'.ar, φ.lk⟩ H' := ⟨let ⟨ψ, e, hψ⟩ := g.ext; ⟨ψ, e, fun a ha => back a (hψ a ha)⟩, rfl, fun a u e n t => g.stay a u (by rw [upd_ne (ne_of_none e hp)]; exact e) n t, fun a h => back a (g.dom a h), fun a ob u e => g.frz a ob u (by rw [upd_ne (ne_of_none e hp)]; exact e)⟩
  have np : p ∉ φ'.ar := g.notin upd_same npa
  exact ⟨un, G, ⟨S.len, S.nd, fun a ha => S.lk a (by rw [lk]; exact List.mem_cons_of_mem _ ha), fun i a mo e1 e2 => (S.ob i a mo e1 e2).mo un rfl⟩, np, g.stay p o upd_same npa ho.1⟩
theorem de_disp {keys : List (Option Expr)} {values : List Expr} {ps : List (Key × DE)} (h : DPPx X W pos keys values ps) (hall : keys.all (·.isSome) = true) (hl : keys.length = values.length) (h0 : keys ≠ []) (h15 : keys.length ≤ 15) : DEx X W (.Dict keys values pos) (dDisp ps) := by
  obtain ⟨_, p1, s1⟩ := h
  refine ⟨_, pe_disp p1 hall hl h0 h15, fun φ M H σ r Q S E h p hp => ?_⟩
  refine s1 (φ.lock p) M (upd H p (.dK [])) σ r _ (S.lock hp) (E.mo (Mo.lock hp)) ?_
  have h : Okd X.K φ H (RE X.K) ((dPairs ps r M).bind fun kvs M1 => match Nat.ble kvs.length 15 with
    | true => .ok (.obj M1.length) (M1 ++ [.dic (mergeD [] kvs)])
    | false => .no) Q (fun c d H' => W c d σ H') := h
  cases q : dPairs ps r M with
  | no => rw [q] at h; exact h.elim
  | ex e M1 =>
    rw [q] at h
    intro cls dd φ' H' g S' x
    obtain ⟨un, G, S2, np, _⟩ := unlocked hp (S.fresh hp).1 g S'
    exact h cls dd _ H' G S2 (x.mo un)
  | ok kvs M1 =>
    rw [q] at h
    intro l φ' H' g S' rl
    obtain ⟨un, G, S2, np, hpd⟩ := unlocked hp (S.fresh hp).1 g S'
    have rl : RepK X.K φ' H' kvs l := rl
    have h : Okd X.K φ H (RE X.K) (match Nat.ble kvs.length 15 with
      | true => .ok (.obj M1.length) (M1 ++ [.dic (mergeD [] kvs)])
      | false => .no) Q (fun c d H' => W c d σ H') := h
    cases q2 : Nat.ble kvs.length 15 with
    | false => rw [q2] at h; exact h.elim
    | true =>
      rw [q2] at h
      refine ⟨hpd, l, rfl, by rw [rl.len]; exact Nat.le_of_ble_eq_true q2, ?_⟩
      -- the new dict comes into the arena
      have mo : Mo φ' H' ⟨φ'.ar ++ [p], φ.lk⟩ (upd H' p (.dK (mergeK [] l))) := ⟨fun a u n e _ => by
        have na : a ≠ p := fun z => n.2 (by rw [z, g.lk]; exact List.mem_cons_self)
        refine ⟨⟨fun z => ?_, fun z => n.2 (by rw [g.lk]; exact List.mem_cons_of_mem _ z)⟩, by rw [upd_ne na]; exact e⟩
        rcases List.mem_append.mp z with w | w
        · exact n.1 w
        · exact na (List.mem_singleton.mp w), fun i a e => by
          show (φ'.ar ++ [p])[i]? = some a
          rw [List.getElem?_append_left (List.getElem?_eq_some_iff.mp e).1]; exact e⟩
      have G2 : Grow φ H ⟨φ'.ar ++ [p], φ.lk⟩ (upd H' p (.dK (mergeK [] l))) := by
        refine ⟨?_, rfl, fun a u e n t => ?_, fun a e => ?_, fun a ob u e => by rw [upd_ne (ne_of_none e hp)]; exact G.frz a ob u e⟩
        · obtain ⟨ψ, e, hψ⟩ := G.ext
          refine ⟨ψ ++ [p], by show φ'.ar ++ [p] = _; have e : φ'.ar = φ.ar ++ ψ := e; rw [e, List.append_assoc], fun a ha => ?_⟩
          rcases List.mem_append.mp ha with w | w
          · exact hψ a w
          · rw [List.mem_singleton.mp w]; exact hp
        · rw [upd_ne (ne_of_none e hp)]; exact G.stay a u e n t
        · by_cases w : a = p
          · rw [w]; exact hp
          · rw [upd_ne w] at e; exact G.dom a e
      refine h (.ref p) ⟨φ'.ar ++ [p], φ.lk⟩ _ G2 ⟨by simp [S'.len], ?_, fun a ha => ?_, fun i a m e1 e2 => ?_⟩ ?_
      · refine List.nodup_append.mpr ⟨S'.nd, by simp, fun a ha b hb => ?_⟩
        have hb' := List.mem_singleton.mp hb
        intro z
        rw [z, hb'] at ha
        exact np ha
      · by_cases w : a = p
        · exact ⟨_, by rw [w, upd_same], pln_dK⟩
        · obtain ⟨u, e, z⟩ := S2.lk a ha
          exact ⟨u, by rw [upd_ne w]; exact e, z⟩
      · have e1 : (φ'.ar ++ [p])[i]? = some a := e1
        by_cases hi : i < φ'.ar.length
        · rw [List.getElem?_append_left hi] at e1
          rw [List.getElem?_append_left (by rw [← S'.len]; exact hi)] at e2
          exact (S'.ob i a m e1 e2).mo mo (upd_ne fun z => np (z ▸ List.mem_of_getElem? e1))
        · rw [List.getElem?_append_right (by omega)] at e1
          rw [List.getElem?_append_right (by rw [← S'.len]; omega), ← S'.len] at e2
          cases hk : i - φ'.ar.length with
          | zero =>
            rw [hk] at e1 e2
            simp at e1 e2
            subst e1; subst e2
            exact ⟨_, upd_same, RepK.merge RepK.nil (RepK.mo mo rl)⟩
          | succ k => rw [hk] at e1; simp at e1
      · show Rep _ _ _ _ _
        unfold Rep
        exact ⟨p, by show (φ'.ar ++ [p])[M1.length]? = some p; rw [← S'.len]; simp, rfl⟩
end
end LF
set_option Elab.async false
set_option linter.all false
set_option maxRecDepth 100000
set_option maxHeartbeats 4000000
namespace LF
open PySem PySem.Spec PyProof.Rows L2
section
variable {X : Cx} {pins : List (Addr × Obj)} {σ : L2.St} {H : Hp} {s : Shared}
theorem track {a C : Addr} {oe : Obj} {vs : Array Value} {dd : Option Addr} (I : Inv X pins σ H s) (ha : s.heap.get? a = some oe) (hd : oe.data = .fields vs) (hc : oe.cls = .ref C) (hdd : oe.dict = dd) (na : H a = none) (nL : a ≠ X.env.locals)
    (new : X.s_0.heap.get? a = none) (np : ∀ p ∈ X.pn ++ pins, p.1 ≠ a) : Inv X pins σ (upd H a (.ext (IsX a C dd))) s := by
  refine ⟨I.ok, I.os, I.bare, ⟨I.base.keep, I.base.slot, fun b o e n hx => ?_, I.base.there, fun b xs e => ?_, fun b o xs e => ?_, fun b ps e => ?_⟩, I.loc, I.cell, ?_, fun x c e => ?_, fun p hp => ?_, fun b o e => ?_, I.len⟩
  · have nb : b ≠ a := fun z => by rw [z, new] at e; cases e
    rw [upd_ne nb]; exact I.base.free b o e n hx
  · have q := I.base.tups b xs e
    rw [upd_ne (ne_of_none q na)]; exact q
  · have q := I.base.frzs b o xs e
    rw [upd_ne (ne_of_none q na)]; exact q
  · obtain ⟨m, q⟩ := I.base.tbls b ps e
    exact ⟨m, by rw [upd_ne (ne_of_none q na)]; exact q⟩
  · rw [upd_ne (fun z => nL z.symm)]; exact I.free
  · have nc : c ≠ a := fun z => by
      obtain ⟨v, o, h1, h2⟩ := I.cell x c e
      rw [z, ha] at h1
      cases h1
      rw [hd] at h2; cases h2
    rw [upd_ne nc]; exact I.freeC x c e
  · obtain ⟨h1, h2, h3⟩ := I.pin p hp
    exact ⟨h1, by rw [upd_ne (np p hp)]; exact h2, h3⟩
  · by_cases q : b = a
    · subst q
      rw [upd_same] at e; cases e
      exact ⟨⟨oe, vs, ha, hc, hdd, hd⟩, ⟨oe, ha⟩, fun h1 h2 ⟨o', vs', k1, k2, k3, k4⟩ st => ⟨o', vs', st _ k1, k2, k3, k4⟩⟩
    · rw [upd_ne q] at e
      refine (I.hok b o e).stay (fun c u _ r => r) (fun c r => ?_) fun c xs r => ?_
      · rw [upd_ne (ne_of_none r na)]; exact r
      · rw [upd_ne (ne_of_none r na)]; exact r
theorem Inv.suiteT (I : Inv X pins σ H s) (a : Addr) : Inv (X.suite a (X.pn ++ pins)) [] σ H s :=
  ⟨I.ok.suite _ _, I.os, I.bare, I.base, I.loc, I.cell, I.free, I.freeC, fun p hp => I.pin p (by rw [List.append_nil] at hp; exact hp), I.hok, I.len⟩
theorem Inv.unsuiteT {a : Addr} {pn' : List (Addr × Obj)} (I : Inv (X.suite a (X.pn ++ pins)) pn' σ H s) (ok : X.Ok) : Inv X pins σ H s :=
  ⟨ok, I.os, I.bare, I.base, I.loc, I.cell, I.free, I.freeC, fun p hp => I.pin p (List.mem_append_left _ hp), I.hok, I.len⟩
end
/-- what the clause 'except x as n' wishes of an error of the body -/
def wAsT (K : Frg) (c : Value) (i : Nat) (ts : TS) (Wout : WX) (D : Ends) : WX := fun cls d σ H =>
  ∃ C, cls = .ref C ∧ ∃ b, PySem.W.exmOne K cls c = some b ∧ (b = true → ∀ a, H a = none → ts { nx := fun σ' H' => D.nx (σ'.set i none) H', rt := D.rt, bk := fun σ' H' => D.bk (σ'.set i none) H', ct := fun σ' H' => D.ct (σ'.set i none) H' } (σ.set i (some (.ref a))) (upd H a (.ext (IsX a C d)))) ∧
    (b = false → Wout cls d σ H)
section
variable {X : Cx} {x n : Str} {c : Value} {i : Nat} {body suite : List Stmt} {b₀ : Stmt} {np pos pos' : Pos} {tb : WX → TS} {ts : TS} {Wout : WX}
theorem ps_try_asT (hs : X.stack = X.env :: X.outer) (hf : X.env.frame = some X.env.locals) (hex : X.ex = []) (hN : X.N.Nodup) (hi : X.N[i]? = some n) (hln : X.env.kindOf n = some .local) (hc : Names X x c) (tk : Takes X Wout)
    (hb : ∀ (W : WX) (pn : List (Addr × Obj)) (xe : Value → Shared → Prop), Takes (X.tr pn xe) W → PassesOwn (model X.prog X.w) X.A X.env xe → PSs (X.tr pn xe) body (tb W))
    (hsu : ∀ (a : Addr) (pn : List (Addr × Obj)), PSs (X.suite a pn) (b₀ :: suite) ts) :
    PS X (.Try body [.ExceptHandler (some (.Name x np)) (some n) (b₀ :: suite) pos'] [] [] pos) (fun D σ H => tb (wAsT X.K c i ts Wout D) D σ H) := by
  refine ⟨fun pins s σ H D I h => ?_⟩
  have ok := I.ok
  have hfr : X.A.frames = some (X.env :: X.outer) := by rw [ok.frames, hs]
  have hloc : Loc X.env.scope n := .inl hln
  refine wpAny_Try_except ?_
  refine wpAny_mono ((hb (wAsT X.K c i ts Wout D) (X.pn ++ pins) (fun e s₁ => wpAny (model X.prog X.w) X.A (noteFrame e X.env) (fun _ s₂ => wpAny (model X.prog X.w) X.A (setFlight e none) (fun _ s₃ =>
    wpAny (model X.prog X.w) X.A (handleBy e X.env [.ExceptHandler (some (.Name x np)) (some n) (b₀ :: suite) pos']) (SP X pins D) X.xe s₃) X.xe s₂) X.xe s₁) (fun u s' xx => ?_) PassesOwn.looking).run [] s σ H D (I.toTry _) h) (fun f s1 hsp => ?_) (fun e s1 he => he)
  · obtain ⟨a, B, sI, pins', σ', H', cls, d, rfl, J', nb, up, sky, na, os, ag, C, hcls, b, hb1, hyes, hno⟩ := xx
    have J : Inv X pins σ' H' sI := J'.ofTry ok
    have sky' : Sky B (X.env :: X.outer) a (Zc cls d) X.env.locals s'.heap := by rw [← hs]; exact sky
    show wpAny (model X.prog X.w) X.A (noteFrame (.ref a) X.env) _ _ _
    refine Sky.land Zc.steady hfr hf sky' fun h3 fl3 up3 => ?_
    have J3 : Inv X pins σ' H' { s' with heap := h3 } := J.landed nb fl3.1 (up.trans up3) os ag
    obtain ⟨oe3, vs3, he3, hz3, hd3⟩ := fl3.there
    have notFr : ∀ {h : Heap} {o : Obj} {vs : Array Value}, h.FunFrames B (X.env :: X.outer) → h.get? a = some o → o.data = .fields vs → a ∉ frs (X.env :: X.outer) := fun {h o vs} ff e dd hm => by
      obtain ⟨_, o', e', hnf⟩ := ff.mem hm
      rw [e] at e'; cases e'
      exact hnf _ dd
    have nfr := notFr fl3.2.2.1 he3 hd3
    have nL : a ≠ X.env.locals := fun z => nfr (List.mem_filterMap.mpr ⟨X.env, List.mem_cons_self, by rw [hf, z]⟩)
    have nF : a ∉ X.fs := fun hm => by
      obtain ⟨e, he, q⟩ := List.mem_filterMap.mp hm
      exact nfr (List.mem_filterMap.mpr ⟨e, List.mem_cons_of_mem _ he, q⟩)
    have nfs : a ∉ frs X.stack := by rw [hs]; exact nfr
    have sInone : sI.heap.get? a = none := by
      cases q : sI.heap.get? a with
      | none => rfl
      | some o =>
        have z := nb a o q nfs
        rw [fl3.2.1] at z; cases z
    have s0none : X.s_0.heap.get? a = none := by
      cases q : X.s_0.heap.get? a with
      | none => rfl
      | some o =>
        obtain ⟨o', z⟩ := J.base.there a o q (by rw [hex]; simp)
        rw [sInone] at z; cases z
    have nps : ∀ p ∈ X.pn ++ pins, p.1 ≠ a := fun p hp z => by
      have q := (J.pin p hp).1
      rw [z, sInone] at q; cases q
    have S3 := J3.suite he3 hd3 na nL nF
    refine wpAny_handleBy_cons (codeAny_handlers_test ?_) (by intro q; cases q)
    have LT : PySem.W.Looks (model X.prog X.w) h3 (typeOf (.ref a)) cls := fun A Q E s k q => wpAny_typeOf_ref (k _ _ he3) (by rw [hz3.1]; exact q)
    have LM := PySem.W.exm_one (M := model X.prog X.w) (J3.kIn) LT hb1
    have test : ∀ {Q : Value → Shared → Prop} {E : Value → Shared → Prop}, Q c { s' with heap := h3 } → wpAny (model X.prog X.w) (X.A.mark (some (.ref a))) (eval (.Name x np) X.env) Q E { s' with heap := h3 } := fun {Q E} q => by
      obtain ⟨hg, hdbg, hm | ⟨hm, hv, hnn⟩⟩ := hc
      · exact ld_glob (X := X.suite a ((a, oe3) :: (X.pn ++ pins))) S3 hg hm q hdbg
      · exact ld_blt (X := X.suite a ((a, oe3) :: (X.pn ++ pins))) S3 hg hm hv q hnn hdbg
    refine test (LM.here ?_)
    cases b with
    | true =>
      refine codeAny_handlers_suite_as ?_
      refine HandSPX.lands_againZ fl3 fun h4 fl4 up4 => ?_
      have J4 : Inv X pins σ' H' { s' with heap := h4 } := J.landed nb fl4.1 ((up.trans up3).trans up4) os ag
      obtain ⟨oe4, vs4, he4, hz4, hd4⟩ := fl4.there
      have J5 := track J4 he4 hd4 (hz4.1.trans hcls) hz4.2 na nL s0none nps
      have S4 := Inv.suiteT J5 a
      refine store_ok (X := X.suite a (X.pn ++ pins)) (v := .ref a) S4 hN hi hloc rfl (fun s5 S5 => ?_) (.inr hln)
      refine wpAny_mono ((hsu a (X.pn ++ pins)).run [] s5 _ _ _ S5 (hyes rfl a na)) (fun f s6 hsp => ?_) (fun _ _ z => False.elim z)
      have end_ : ∀ {σ6 : L2.St} {H6 : Hp} {Q : Shared → Prop}, Inv (X.suite a (X.pn ++ pins)) [] σ6 H6 s6 → (∀ s7, Inv X pins (σ6.set i none) H6 s7 → Q s7) →
          wpAny (model X.prog X.w) X.A (do bindName X.env n .none; unbindBehindTheSuite X.env n pos') (fun _ s7 => Q s7) X.xe s6 := fun {σ6 H6 Q} S6 hq => gone_ok (Inv.unsuiteT S6 ok) hN hi hln hq
      cases f with
      | next =>
        obtain ⟨σ6, H6, S6, q6⟩ := hsp
        exact end_ S6 fun s7 J7 => ⟨_, _, J7, q6⟩
      | brk =>
        obtain ⟨σ6, H6, S6, q6⟩ := hsp
        exact end_ S6 fun s7 J7 => ⟨_, _, J7, q6⟩
      | cont =>
        obtain ⟨σ6, H6, S6, q6⟩ := hsp
        exact end_ S6 fun s7 J7 => ⟨_, _, J7, q6⟩
      | ret u =>
        obtain ⟨v6, σ6, H6, S6, r6, q6⟩ := hsp
        exact end_ S6 fun s7 J7 => ⟨_, _, _, J7, r6, q6⟩
    | false =>
      show wpAny _ X.A (handleBy (.ref a) X.env []) _ _ _
      refine wpAny_handleBy_nil ?_
      obtain ⟨k1, k2, k3, oe, vs, T, oT, ts', he, hz, hd, h1, hr⟩ := id fl3
      unfold PySem.passOn
      refine wpAny_bind (wpAny_field he hd h1 ?_)
      rw [if_neg (show ¬ ((Value.ref T == Value.none) = true) from by simp)]
      have fin : wpAny (model X.prog X.w) X.A (setFlight (.ref a) X.env.frame) (fun _ s4 => wpAny (model X.prog X.w) X.A (throw (.ref a) : Sem Flow) (SP X pins D) X.xe s4) X.xe { s' with heap := h3 } := by
        rw [hf]
        refine HandSPX.setFlight_upZ fl3 fun h4 hh4 up4 => wpAny_throw (tk _ _ ?_)
        exact ⟨a, B, sI, pins, σ', H', cls, d, rfl, J, nb, (up.trans up3).trans up4, .inr (.inr (by rw [hs]; exact hh4)), na, os, ag, hno rfl⟩
      first
        | exact wpAny_bind (wpAny_pure (wpAny_bind fin))
        | exact wpAny_bind fin
  · cases f with
    | next =>
      obtain ⟨σ', H', J', q⟩ := hsp
      exact wpAny_execs_nil ⟨σ', H', J'.ofTry ok, q⟩
    | brk =>
      obtain ⟨σ', H', J', q⟩ := hsp
      exact ⟨σ', H', J'.ofTry ok, q⟩
    | cont =>
      obtain ⟨σ', H', J', q⟩ := hsp
      exact ⟨σ', H', J'.ofTry ok, q⟩
    | ret u =>
      obtain ⟨v, σ', H', J', r, q⟩ := hsp
      exact ⟨v, σ', H', J'.ofTry ok, r, q⟩
end
def tDS (K : Frg) (W : WX) (ds : DS) : TS := fun E σ H => ∃ φ M r, Sto K φ M H ∧ EnvR K φ H r σ ∧ OkS K φ H (ds r M) E W
theorem DBx.pss {X : Cx} {W : WX} {st : List Stmt} {ds : DS} (h : DBx X W st ds) : PSs X st (tDS X.K W ds) := by
  obtain ⟨t, p, s⟩ := h
  exact ⟨fun pins sh σ H D I ⟨φ, M, r, S, E, o⟩ => p.run pins sh σ H D I (s φ M H σ r D S E o)⟩
def offS (i : Nat) : SO → SO
  | .nx r M => .nx (r.set i none) M
  | .bk r M => .bk (r.set i none) M
  | .ct r M => .ct (r.set i none) M
  | .rt d M => .rt d M
  | _ => .no
def dTryAs (isa : Str → Option Bool) (i : Nat) (body hand : DS) : DS := fun r M => match body r M with
  | .ex e r1 M1 => (match isa e.c with
    | some true => offS i (hand (r1.set i (some (.exc e.c e.ns e.ds))) M1)
    | some false => .ex e r1 M1
    | none => .no)
  | o => o
theorem ds_try_as {X : Cx} {W : WX} {x n : Str} {i : Nat} {body suite : List Stmt} {b₀ : Stmt} {np pos pos' : Pos} {db dh : DS} {isa : Str → Option Bool} (hs : X.stack = X.env :: X.outer) (hf : X.env.frame = some X.env.locals) (hex : X.ex = []) (hN : X.N.Nodup) (hi : X.N[i]? = some n) (hln : X.env.kindOf n = some .local)
    (hg : Gl X x) (hm : X.mg x = some (.ref (He.ga X.K x))) (hdb : (x == ("__debug__" : Str)) = false) (tk : Tk .a X W) (hisa : ∀ c b, isa c = some b → PySem.W.exmOne X.K (.ref (He.ga X.K c)) (.ref (He.ga X.K x)) = some b)
    (hb : ∀ (W : WX) (pn : List (Addr × Obj)) (xe : Value → Shared → Prop), Tk .a (X.tr pn xe) W → PassesOwn (model X.prog X.w) X.A X.env xe → DBx (X.tr pn xe) W body db)
    (hsu : ∀ (a : Addr) (pn : List (Addr × Obj)), DBx (X.suite a pn) Wf (b₀ :: suite) dh) :
    DSx X W (.Try body [.ExceptHandler (some (.Name x np)) (some n) (b₀ :: suite) pos'] [] [] pos) (dTryAs isa i db dh) := by
  refine ⟨_, ps_try_asT (tb := fun W => tDS X.K W db) (ts := tDS X.K Wf dh) hs hf hex hN hi hln ⟨hg, hdb, .inl hm⟩ tk (fun W pn xe tk po => (hb W pn xe tk po).pss) (fun a pn => (hsu a pn).pss), fun φ M H σ r E S er h => ?_⟩
  refine ⟨φ, M, r, S, er, ?_⟩
  unfold dTryAs at h
  cases q : db r M with
  | ex e r1 M1 =>
    rw [q] at h
    dsimp only at h
    intro cls dd σ' φ' H' g S' er' xr
    refine ⟨_, xr.1, ?_⟩
    cases q2 : isa e.c with
    | none => rw [q2] at h; exact h.elim
    | some b =>
      rw [q2] at h
      refine ⟨b, by rw [xr.1]; exact hisa _ _ q2, fun eb a na => ?_, fun eb => ?_⟩
      · subst eb
        dsimp only at h
        have gn : Grow φ' H' φ' (upd H' a (.ext (IsX a (He.ga X.K e.c) dd))) := Grow.new na
        have rp : Rep X.K φ' (upd H' a (.ext (IsX a (He.ga X.K e.c) dd))) (.exc e.c e.ns e.ds) (.ref a) := by
          unfold Rep
          obtain ⟨fv, k1, k2, k3⟩ := xr.2.mo gn.mo
          exact ⟨a, dd, rfl, S'.fresh na, ⟨_, upd_same, .inl rfl⟩, fv, k1, k2, k3⟩
        refine ⟨φ', M1, r1.set i (some (.exc e.c e.ns e.ds)), S'.new na, (er'.grow gn).set rp, ?_⟩
        have h2 := OkS.grow (g.trans gn) h
        cases q3 : dh (r1.set i (some (.exc e.c e.ns e.ds))) M1 with
        | nx r2 M2 => rw [q3] at h2; exact fun s2 φ2 H2 g2 S2 er2 => h2 _ φ2 H2 g2 S2 er2.unset
        | bk r2 M2 => rw [q3] at h2; exact fun s2 φ2 H2 g2 S2 er2 => h2 _ φ2 H2 g2 S2 er2.unset
        | ct r2 M2 => rw [q3] at h2; exact fun s2 φ2 H2 g2 S2 er2 => h2 _ φ2 H2 g2 S2 er2.unset
        | rt d2 M2 => rw [q3] at h2; exact h2
        | ex e2 r2 M2 => rw [q3] at h2; exact h2.elim
        | no => rw [q3] at h2; exact h2.elim
      · subst eb
        exact h cls dd σ' φ' H' g S' er' xr
  | nx r1 M1 => rw [q] at h; exact h
  | bk r1 M1 => rw [q] at h; exact h
  | ct r1 M1 => rw [q] at h; exact h
  | rt d1 M1 => rw [q] at h; exact h
  | no => rw [q] at h; exact h
end LF
set_option Elab.async false
set_option linter.all false
set_option maxRecDepth 100000
set_option maxHeartbeats 4000000
namespace LF
open PySem PySem.Spec PyProof.Rows L2
/-- a thing's class: built-in, an own error's, an own instance's -/
inductive CT where
  | b (T : String) | x (c : Str) | i (c : Str)
def ctOf (M : Mem) : D → Option CT
  | .exc c _ _ => some (.x c)
  | .ins c _ _ => some (.i c)
  | .obj n => (match M[n]? with
    | some (.ins c _) => some (.i c)
    | some (.lst _) => some (.b "list")
    | some (.ro _) => some (.b "list")
    | some (.dic _) => some (.b "dict")
    | _ => none)
  | d => (tagOf M d).map .b
def ctV (K : Frg) : CT → Value
  | .b T => .type T
  | .x c => .ref (He.ga K c)
  | .i c => .ref (He.ga K c)
/-- what the head must say of an instance's class -/
structure InsC (K : Frg) (C : Addr) : Prop where
  cl : Cls K C
  ha : PySem.W.findIn K (.ref C) "__class__" = some (some (.builtin "object.__class__"))
  hn : PySem.W.specialIn K (.builtin "object.__class__") "__get__" = some (some (.builtin "getset_descriptor.__get__"))
  ht : PySem.W.takesIn K (.builtin "object.__class__") = some true
  hm : PySem.W.mroIn K C (.type "object") = some true
def CtOk (K : Frg) : CT → Prop
  | .b _ => True
  | .x c => ExcC K (He.ga K c)
  | .i c => InsC K (He.ga K c)
theorem hasDict_cls {K : Frg} {C : Addr} (h : PySem.W.hasDictIn K C = true) : (PySem.W.clsIn K C).isSome = true := by
  obtain ⟨cd, hc, _⟩ := PySem.W.any_some h
  rw [hc]; rfl
theorem kit_ofD {X : Cx} {pins : List (Addr × Obj)} {σ : L2.St} {H : Hp} {s : Shared} {φ : Wd} {M : Mem} {d : D} {v : V} {u : Value} {ct : CT} (I : Inv X pins σ H s) (S : Sto X.K φ M H) (r : Rep X.K φ H d v) (rx : RelV v u) (h : ctOf M d = some ct) (ok : CtOk X.K ct) :
    ∃ P : Heap → Prop, PySem.W.KitX X.K u (ctV X.K ct) P ∧ P s.heap ∧ u ≠ .builtin "__main__.__loader__#opaque" := by
  have byTag : ∀ t, tagOf M d = some t → ct = .b t → ∃ P : Heap → Prop, PySem.W.KitX X.K u (ctV X.K ct) P ∧ P s.heap ∧ u ≠ .builtin "__main__.__loader__#opaque" := fun t e q => by
    subst q
    exact kit_of I rx (tag_ty S r e)
  cases d with
  | exc c ns ds =>
    cases h
    unfold Rep at r
    obtain ⟨a, dd, rfl, _, h1, fv, h2, _, _⟩ := r
    cases (show u = Value.ref a from rx)
    obtain ⟨o, vs, g1, g2, g3, g4⟩ := ExAt.is I.hok h1
    have C : ExcC X.K (He.ga X.K c) := ok
    have od : ∃ od, PySem.W.InstAt s.heap a o (He.ga X.K c) od := by
      have no : PySem.W.notCls o = true := by unfold PySem.W.notCls; rw [g4]
      rcases h2 with ⟨e, _⟩ | ⟨d, e, _, e2⟩
      · exact ⟨none, g1, g2, no, by rw [g3, e]; exact True.intro⟩
      · obtain ⟨mA, ⟨od, es, ep, e3, _⟩, _⟩ := (show ObjOk X.prog X.w H s.heap d (.xd fv) from I.hok d _ e2)
        exact ⟨some od, g1, g2, no, by rw [g3, e]; exact e3⟩
    obtain ⟨od, J⟩ := od
    exact ⟨_, PySem.W.kitx_exc (hasDict_cls C.hd) C.hg C.hk C.hs C.ha C.hn C.ht C.hm, J, fun z => nomatch z⟩
  | ins c ns ds =>
    cases h
    unfold Rep at r
    obtain ⟨a, dx, fv, rfl, _, h1, _, _⟩ := r
    have C : InsC X.K (He.ga X.K c) := ok
    exact kit_of I rx (.base (.ins h1 C.cl C.ha C.hn C.ht C.hm))
  | obj n =>
    have h : (match M[n]? with
      | some (.ins c _) => some (.i c)
      | some (.lst _) => some (.b "list")
      | some (.ro _) => some (.b "list")
      | some (.dic _) => some (.b "dict")
      | _ => none) = some ct := h
    cases q : M[n]? with
    | none => rw [q] at h; cases h
    | some mo =>
      rw [q] at h
      cases mo with
      | ins c fs =>
        cases h
        unfold Rep at r
        obtain ⟨a, h1, rfl⟩ := r
        obtain ⟨dx, fv, h2, _⟩ := S.ob n a _ h1 q
        have C : InsC X.K (He.ga X.K c) := ok
        exact kit_of I rx (.base (.ins h2 C.cl C.ha C.hn C.ht C.hm))
      | lst ds => cases h; exact byTag "list" (by simp only [tagOf, q]) rfl
      | ro ds => cases h; exact byTag "list" (by simp only [tagOf, q]) rfl
      | dic kvs => cases h; exact byTag "dict" (by simp only [tagOf, q]) rfl
      | fz kvs => cases h
      | tbl d q => cases h
  | non => cases h; exact byTag _ rfl rfl
  | bl b => cases h; exact byTag _ rfl rfl
  | int i => cases h; exact byTag _ rfl rfl
  | str x => cases h; exact byTag _ rfl rfl
  | tup ds => cases h; exact byTag _ rfl rfl
  | lst ds => cases h; exact byTag _ rfl rfl
  | dic ks ds => cases h; exact byTag _ rfl rfl
/-- isinstance(x, c), isinstance(x, (c1, ..)) -/
def rIs1 (K : Frg) (cv : Value) : List V → Hp → VK → Prop := fun xs H Q => ∃ φ M d v c ct b, xs = [v, c] ∧ Sto K φ M H ∧ Rep K φ H d v ∧ ctOf M d = some ct ∧ CtOk K ct ∧ ClsV c cv ∧ PySem.W.kitOne K (ctV K ct) cv = some b ∧ Q (.bl b) H
def rIsT (K : Frg) (us : List Value) : List V → Hp → VK → Prop := fun xs H Q => ∃ φ M d v tp cs ct b, xs = [v, .ref tp] ∧ H tp = some (.tup cs) ∧ Paired ClsV cs us ∧ Sto K φ M H ∧ Rep K φ H d v ∧ ctOf M d = some ct ∧ CtOk K ct ∧ PySem.W.kitAny K (ctV K ct) us = some b ∧ Q (.bl b) H
section
variable {X : Cx}
theorem call_is1 {cv : Value} : CallR X (.builtin "isinstance") (rIs1 X.K cv) := by
  intro pins s σ H xs us Q I r h
  obtain ⟨φ, M, d, v, c, ct, b, rfl, S, rd, hc, ok, k, e, q⟩ := h
  obtain ⟨u1, u2, rfl, r1, r2⟩ := vals2 r
  have e2 := k.eq r2
  subst e2
  obtain ⟨P, Z, p, hx⟩ := kit_ofD I S rd r1 hc ok
  exact PySem.W.kia_one Z I.kIn p e hx fun tk => ⟨.bl b, H, I.tok tk, rfl, q⟩
theorem call_isT {ws : List Value} : CallR X (.builtin "isinstance") (rIsT X.K ws) := by
  intro pins s σ H xs us Q I r h
  obtain ⟨φ, M, d, v, tp, cs, ct, b, rfl, hT, k, S, rd, hc, ok, e, q⟩ := h
  obtain ⟨u1, u2, rfl, r1, r2⟩ := vals2 r
  cases (show u2 = Value.ref tp from r2)
  obtain ⟨P, Z, p, hx⟩ := kit_ofD I S rd r1 hc ok
  obtain ⟨_, its, rv, o, h1, h2, n, h3⟩ := (show ObjOk X.prog X.w H s.heap tp (.tup cs) from I.hok tp _ hT)
  have e3 := ClsV.all k rv
  subst e3
  obtain ⟨oc, od, dt, sl⟩ := o
  simp only at h2 h3
  subst h2 h3
  exact PySem.W.kia_tup Z I.kIn p h1 e hx fun tk => ⟨.bl b, H, I.tok tk, rfl, q⟩
end
def dIs (isa : CT → Option Bool) (da : DE) : DE := fun r M => (da r M).bind fun x M1 => match (ctOf M1 x).bind isa with
  | some b => .ok (.bl b) M1
  | none => .no
theorem dIs_inv {K : Frg} {φ : Wd} {H : Hp} {Q : VK} {W : XK} {x : D} {M : Mem} {isa : CT → Option Bool} (h : Okd K φ H (RE K) (match (ctOf M x).bind isa with
  | some b => .ok (.bl b) M
  | none => .no) Q W) : ∃ ct b, ctOf M x = some ct ∧ isa ct = some b ∧ Okd K φ H (RE K) (.ok (.bl b) M) Q W := by
  cases q : ctOf M x with
  | none => rw [q] at h; exact h.elim
  | some ct =>
    rw [q, Option.bind_some] at h
    cases q2 : isa ct with
    | none => rw [q2] at h; exact h.elim
    | some b => rw [q2] at h; exact ⟨ct, b, rfl, q2, h⟩
section
variable {X : Cx} {W : WX} {pos : Pos}
/-- one own class -/
theorem de_is1 {x : Str} {isa : CT → Option Bool} {e : Expr} {da : DE} {fp np : Pos} (hisa : ∀ ct b, isa ct = some b → CtOk X.K ct ∧ PySem.W.kitOne X.K (ctV X.K ct) (.ref (He.ga X.K x)) = some b) (hg : Gl X "isinstance") (hm : X.mg "isinstance" = none) (hgx : Gl X x) (hmx : X.mg x = some (.ref (He.ga X.K x))) (he : DEx X W e da)
    (hd : (x == ("__debug__" : Str)) = false := by decide) (hs : starEach [e, .Name x np] X.env = (false, eval e X.env) :: starEach [.Name x np] X.env := by rfl) (hs2 : starEach [.Name x np] X.env = (false, eval (.Name x np) X.env) :: starEach [] X.env := by rfl) (hpl : (backTo pos (starEach [.Name x np] X.env)).any (·.1) = false := by rfl) :
    DEx X W (.Call (.Name "isinstance" fp) [e, .Name x np] [] pos) (dIs isa da) := by
  obtain ⟨_, p1, s1⟩ := he
  refine ⟨_, pe_callB (call_is1 (cv := .ref (He.ga X.K x))) hg hm (by decide +kernel) (pa_cons p1 (pa_cons (pe_glob (v := .ref (He.ga X.K x)) hgx hmx rfl hd) pa_nil hs2) hs) (by decide) (by decide) hs hpl, fun φ M H σ r Q S E h => ?_⟩
  refine s1 φ M H σ r _ S E (Okd.bind h fun d M1 v φ1 H1 _ g1 S1 rv h1 => ?_)
  obtain ⟨ct, b, hc, hi, h1⟩ := dIs_inv h1
  obtain ⟨ok, kt⟩ := hisa ct b hi
  exact ⟨φ1, M1, d, v, _, ct, b, rfl, S1, rv, hc, ok, .own _, kt, okB S1 h1⟩
/-- one built-in class -/
theorem de_is1T {T : String} {x : Str} {isa : CT → Option Bool} {e : Expr} {da : DE} {fp np : Pos} (hisa : ∀ ct b, isa ct = some b → CtOk X.K ct ∧ PySem.W.kitOne X.K (ctV X.K ct) (.type T) = some b) (hg : Gl X "isinstance") (hm : X.mg "isinstance" = none) (hgx : Gl X x) (hmx : X.mg x = none) (hx : bootBuiltins x = some (.type T)) (he : DEx X W e da)
    (hn : x ≠ "__name__" := by decide) (hd : (x == ("__debug__" : Str)) = false := by decide) (hs : starEach [e, .Name x np] X.env = (false, eval e X.env) :: starEach [.Name x np] X.env := by rfl) (hs2 : starEach [.Name x np] X.env = (false, eval (.Name x np) X.env) :: starEach [] X.env := by rfl) (hpl : (backTo pos (starEach [.Name x np] X.env)).any (·.1) = false := by rfl) :
    DEx X W (.Call (.Name "isinstance" fp) [e, .Name x np] [] pos) (dIs isa da) := by
  obtain ⟨_, p1, s1⟩ := he
  refine ⟨_, pe_callB (call_is1 (cv := .type T)) hg hm (by decide +kernel) (pa_cons p1 (pa_cons (pe_bltn (v := .ty T) hgx hmx hx rfl hn hd) pa_nil hs2) hs) (by decide) (by decide) hs hpl, fun φ M H σ r Q S E h => ?_⟩
  refine s1 φ M H σ r _ S E (Okd.bind h fun d M1 v φ1 H1 _ g1 S1 rv h1 => ?_)
  obtain ⟨ct, b, hc, hi, h1⟩ := dIs_inv h1
  obtain ⟨ok, kt⟩ := hisa ct b hi
  exact ⟨φ1, M1, d, v, _, ct, b, rfl, S1, rv, hc, ok, .ty _, kt, okB S1 h1⟩
/-- a row of own classes -/
def PCs (X : Cx) (es : List Expr) (xs : List Str) : Prop := ∃ t, PA X es t ∧ ∀ σ H Q, Q (xs.map fun x => V.ref (He.ga X.K x)) H → t σ H Q
theorem pcs_nil : PCs X [] [] := ⟨_, pa_nil, fun _ _ _ h => h⟩
theorem pcs_cons {x : Str} {np : Pos} {es : List Expr} {xs : List Str} (hgx : Gl X x) (hmx : X.mg x = some (.ref (He.ga X.K x))) (hr : PCs X es xs) (hd : (x == ("__debug__" : Str)) = false := by decide) (hs : starEach (.Name x np :: es) X.env = (false, eval (.Name x np) X.env) :: starEach es X.env := by rfl) : PCs X (.Name x np :: es) (x :: xs) := by
  obtain ⟨t, p, s⟩ := hr
  exact ⟨_, pa_cons (pe_glob (v := .ref (He.ga X.K x)) hgx hmx rfl hd) p hs, fun σ H Q h => s σ H _ h⟩
theorem paired_own {K : Frg} : ∀ xs : List Str, Paired ClsV (xs.map fun x => V.ref (He.ga K x)) (xs.map fun x => Value.ref (He.ga K x))
  | [] => .nil
  | x :: xs => .cons (.own _) (paired_own xs)
theorem de_isT {xs : List Str} {cs : List Expr} {k : Nat} {isa : CT → Option Bool} {e : Expr} {da : DE} {fp tp : Pos} (hisa : ∀ ct b, isa ct = some b → CtOk X.K ct ∧ PySem.W.kitAny X.K (ctV X.K ct) (xs.map fun x => .ref (He.ga X.K x)) = some b) (hg : Gl X "isinstance") (hm : X.mg "isinstance" = none) (hcs : PCs X cs xs) (he : DEx X W e da)
    (hl : xs.length ≤ 100 := by decide) (hs : starEach [e, .Tuple cs k tp] X.env = (false, eval e X.env) :: starEach [.Tuple cs k tp] X.env := by rfl) (hs2 : starEach [.Tuple cs k tp] X.env = (false, eval (.Tuple cs k tp) X.env) :: starEach [] X.env := by rfl) (hpl : (backTo pos (starEach [.Tuple cs k tp] X.env)).any (·.1) = false := by rfl) :
    DEx X W (.Call (.Name "isinstance" fp) [e, .Tuple cs k tp] [] pos) (dIs isa da) := by
  obtain ⟨_, p1, s1⟩ := he
  obtain ⟨t, p2, s2⟩ := hcs
  refine ⟨_, pe_callB (call_isT (ws := xs.map fun x => .ref (He.ga X.K x))) hg hm (by decide +kernel) (pa_cons p1 (pa_cons (pe_tup p2) pa_nil hs2) hs) (by decide) (by decide) hs hpl, fun φ M H σ r Q S E h => ?_⟩
  refine s1 φ M H σ r _ S E (Okd.bind h fun d M1 v φ1 H1 _ g1 S1 rv h1 => ?_)
  refine s2 σ H1 _ ⟨by rw [List.length_map]; exact Nat.le_trans hl (by rw [sizeLine_eq]; decide), fun p hp => ?_⟩
  obtain ⟨ct, b, hc, hi, h1⟩ := dIs_inv h1
  obtain ⟨ok, kt⟩ := hisa ct b hi
  have gp : Grow φ1 H1 φ1 (upd H1 p (.tup (xs.map fun x => V.ref (He.ga X.K x)))) := Grow.new hp
  exact ⟨φ1, M1, d, v, p, _, ct, b, rfl, upd_same, paired_own xs, S1.new hp, Rep.grow gp _ _ rv, hc, ok, kt, h1 _ _ _ gp (S1.new hp) rep_bl⟩
end
theorem kitAny_of {K : Frg} {t : Value} {f : Str → Bool} : ∀ {ts : List Str}, (∀ x ∈ ts, PySem.W.kitOne K t (.ref (He.ga K x)) = some (f x)) → PySem.W.kitAny K t (ts.map fun x => .ref (He.ga K x)) = some (ts.any f)
  | [], _ => rfl
  | x :: ts, h => by
    have ih := kitAny_of (K := K) (t := t) (f := f) (ts := ts) fun y hy => h y (List.mem_cons_of_mem _ hy)
    rw [List.map_cons, List.any_cons]
    refine kitAny_cons (h x List.mem_cons_self) (fun e => ?_) (fun e => ?_)
    · rw [ih, e]; rfl
    · rw [e]; rfl
/-- errors' classes that are raised: each with its own ancestors; U: the classes asked for by isinstance, V: by except -/
abbrev XTab := List (Str × List Str)
structure XFacts (K : Frg) (T : XTab) (U V : List Str) : Prop where
  ok : ∀ p ∈ T, ExcC K (He.ga K p.1)
  one : ∀ p ∈ T, ∀ t ∈ U, PySem.W.kitOne K (.ref (He.ga K p.1)) (.ref (He.ga K t)) = some (p.2.contains t)
  val : ∀ p ∈ T, PySem.W.kitOne K (.ref (He.ga K p.1)) (.type "ValueError") = some true
  exm : ∀ p ∈ T, ∀ t ∈ V, PySem.W.exmOne K (.ref (He.ga K p.1)) (.ref (He.ga K t)) = some (p.2.contains t)
def ancOf (T : XTab) (c : Str) : Option (List Str) := (T.find? fun p => p.1 == c).map (·.2)
theorem ancOf_mem {T : XTab} {c : Str} {l : List Str} (h : ancOf T c = some l) : (c, l) ∈ T := by
  unfold ancOf at h
  cases q : T.find? fun p => p.1 == c with
  | none => rw [q] at h; cases h
  | some p =>
    rw [q] at h
    have e := List.find?_some q
    have m := List.mem_of_find?_eq_some q
    obtain ⟨a, b⟩ := p
    cases h
    have e : a = c := beq_iff_eq.mp e
    rw [← e]; exact m
def isX (T : XTab) (ts : List Str) : CT → Option Bool
  | .x c => (ancOf T c).map fun l => ts.any fun t => l.contains t
  | _ => none
def isXv (T : XTab) : CT → Option Bool
  | .x c => (ancOf T c).map fun _ => true
  | _ => none
def exX (T : XTab) (t : Str) (c : Str) : Option Bool := (ancOf T c).map fun l => l.contains t
def inTab (U ts : List Str) : Bool := ts.all fun t => U.contains t
theorem inTab_mem {U ts : List Str} (h : inTab U ts = true) {t : Str} (ht : t ∈ ts) : t ∈ U := by
  have q := List.all_eq_true.mp h t ht
  simpa using q
section
variable {K : Frg} {T : XTab} {U V : List Str}
theorem XFacts.isT (F : XFacts K T U V) {ts : List Str} (ht : inTab U ts = true) : ∀ ct b, isX T ts ct = some b → CtOk K ct ∧ PySem.W.kitAny K (ctV K ct) (ts.map fun x => .ref (He.ga K x)) = some b := by
  intro ct b h
  cases ct with
  | x c =>
    have h : (ancOf T c).map (fun l => ts.any fun t => l.contains t) = some b := h
    cases q : ancOf T c with
    | none => rw [q] at h; cases h
    | some l =>
      rw [q] at h
      cases h
      exact ⟨F.ok _ (ancOf_mem q), kitAny_of fun x hx => F.one _ (ancOf_mem q) _ (inTab_mem ht hx)⟩
  | _ => cases h
theorem XFacts.is1 (F : XFacts K T U V) {t : Str} (ht : inTab U [t] = true) : ∀ ct b, isX T [t] ct = some b → CtOk K ct ∧ PySem.W.kitOne K (ctV K ct) (.ref (He.ga K t)) = some b := by
  intro ct b h
  cases ct with
  | x c =>
    have h : (ancOf T c).map (fun l => [t].any fun t => l.contains t) = some b := h
    cases q : ancOf T c with
    | none => rw [q] at h; cases h
    | some l =>
      rw [q] at h
      cases h
      refine ⟨F.ok _ (ancOf_mem q), ?_⟩
      have z := F.one _ (ancOf_mem q) _ (inTab_mem ht (List.mem_singleton.mpr rfl))
      refine (show PySem.W.kitOne K (.ref (He.ga K c)) (.ref (He.ga K t)) = _ from ?_)
      simpa using z
  | _ => cases h
theorem XFacts.isV (F : XFacts K T U V) : ∀ ct b, isXv T ct = some b → CtOk K ct ∧ PySem.W.kitOne K (ctV K ct) (.type "ValueError") = some b := by
  intro ct b h
  cases ct with
  | x c =>
    have h : (ancOf T c).map (fun _ => true) = some b := h
    cases q : ancOf T c with
    | none => rw [q] at h; cases h
    | some l =>
      rw [q] at h
      cases h
      exact ⟨F.ok _ (ancOf_mem q), F.val _ (ancOf_mem q)⟩
  | _ => cases h
theorem XFacts.ex (F : XFacts K T U V) {t : Str} (ht : inTab V [t] = true) : ∀ c b, exX T t c = some b → PySem.W.exmOne K (.ref (He.ga K c)) (.ref (He.ga K t)) = some b := by
  intro c b h
  unfold exX at h
  cases q : ancOf T c with
  | none => rw [q] at h; cases h
  | some l =>
    rw [q] at h
    cases h
    exact F.exm _ (ancOf_mem q) _ (inTab_mem ht (List.mem_singleton.mpr rfl))
end
end LF
set_option Elab.async false
set_option linter.all false
set_option maxRecDepth 100000
set_option maxHeartbeats 4000000
namespace LF
open PySem PySem.Spec PyProof.Rows L2
section
variable {X : Cx} {W : WX} {p pos : Pos} {x : Str}
theorem de_call0 {m : Md} {k : Nat} {F : FN} (G : DefOk m X.prog X.w X.K X.mg X.base k x 0 F) (hr : Room k X.A) (tk : Tk m X W) (hg : Gl X x) (hdb : (x == ("__debug__" : Str)) = false := by decide) : DEx X W (.Call (.Name x p) [] [] pos) (dCall 0 F dNil) := by
  obtain ⟨f, fd, ps, hm, kp, hb, hF⟩ := G.ex
  refine ⟨tCallS (SpD X.K 0 F) (WE W) tNil, ⟨fun pins s σ H Q I h => ?_⟩, sim_call (fun φ M H σ r Q S E h => h.here S RepL.nil)⟩
  refine wpAny_Call_Name_kw (ld_glob I hg hm ?_ hdb)
  exact PySem.W.callWith_K0 I.kIn kp (run_fnS (us := []) hF hr hb (passTk tk σ) I .nil h)
end
theorem takes_f {m : Md} {X : Cx} : Tk m X Wf := by
  exact Tk.ez.mpr fun _ _ ⟨_, _, _, _, _, _, _, _, _, _, _, _, _, _, _, _, w⟩ => False.elim w
def blkB (N : List Str) (sc scope : Scope) (own : List (Str × Nat)) : Bool := decide (scope.kind = .function) && (scope.names.all (fun y => decide (scope.names.lookup y.1 = some y.2)) && (own.all (fun p => decide (N[p.2]? = some p.1)) &&
  (scope.names.all (fun y => decide (y.2 ≠ .free) || (decide (sc.names.lookup y.1 = some .cell) || decide (sc.names.lookup y.1 = some .free))) && scope.names.all (fun y => (decide (y.2 ≠ .local) && decide (y.2 ≠ .cell)) || ((own.map (·.1)).contains y.1 || !N.contains y.1)))))
theorem blk_of {N : List Str} {sc scope : Scope} {own : List (Str × Nat)} (h : blkB N sc scope own = true) : BlkOk N sc scope own := by
  obtain ⟨h1, h⟩ := He.ba h
  obtain ⟨h2, h⟩ := He.ba h
  obtain ⟨h3, h⟩ := He.ba h
  obtain ⟨h4, h5⟩ := He.ba h
  refine ⟨of_decide_eq_true h1, fun y hy => of_decide_eq_true (List.all_eq_true.mp h2 y hy), fun p hp => of_decide_eq_true (List.all_eq_true.mp h3 p hp), fun y hy e => ?_, fun y hy e => ?_⟩
  · have q := List.all_eq_true.mp h4 y hy
    rw [e] at q
    simpa using q
  · have q := List.all_eq_true.mp h5 y hy
    have z : (decide (y.2 ≠ .local) && decide (y.2 ≠ .cell)) = false := by
      rcases e with e | e <;> rw [e] <;> rfl
    rw [z] at q
    simpa using q
theorem room1 {k : Nat} {A : Around} (r : Room k A) : A.units + 1 < cLine := by have := r.un; omega
def excCb (K : Frg) (D : Addr) : Bool := He.eqO (PySem.W.findIn K (.ref D) "__getattribute__") (some (some (.builtin "BaseException.__getattribute__"))) && (He.eqO (PySem.W.findIn K (.ref D) "__getattr__") (some none) &&
  (decide (PySem.W.subIn K (.ref D) (.type "BaseException") = some true) && (PySem.W.hasDictIn K D && (He.eqO (PySem.W.findIn K (.ref D) "__class__") (some (some (.builtin "object.__class__"))) &&
  (He.eqO (PySem.W.specialIn K (.builtin "object.__class__") "__get__") (some (some (.builtin "getset_descriptor.__get__"))) && (decide (PySem.W.takesIn K (.builtin "object.__class__") = some true) && decide (PySem.W.mroIn K D (.type "object") = some true)))))))
theorem excCb_ok {K : Frg} {D : Addr} (h : excCb K D = true) : ExcC K D := by
  obtain ⟨h1, h⟩ := He.ba h
  obtain ⟨h2, h⟩ := He.ba h
  obtain ⟨h3, h⟩ := He.ba h
  obtain ⟨h4, h⟩ := He.ba h
  obtain ⟨h5, h⟩ := He.ba h
  obtain ⟨h6, h⟩ := He.ba h
  obtain ⟨h7, h8⟩ := He.ba h
  exact ⟨He.eqO_ok h1, He.eqO_ok h2, of_decide_eq_true h3, h4, He.eqO_ok h5, He.eqO_ok h6, of_decide_eq_true h7, of_decide_eq_true h8⟩
def xfB (T : XTab) (U V : List Str) (K : Frg) : Bool := T.all fun p => excCb K (He.ga K p.1) && ((U.all fun t => decide (PySem.W.kitOne K (.ref (He.ga K p.1)) (.ref (He.ga K t)) = some (p.2.contains t))) &&
  (decide (PySem.W.kitOne K (.ref (He.ga K p.1)) (.type "ValueError") = some true) && (V.all fun t => decide (PySem.W.exmOne K (.ref (He.ga K p.1)) (.ref (He.ga K t)) = some (p.2.contains t)))))
theorem xfB_ok {T : XTab} {U V : List Str} {K : Frg} (h : xfB T U V K = true) : XFacts K T U V := by
  have h := List.all_eq_true.mp h
  refine ⟨fun p hp => ?_, fun p hp t ht => ?_, fun p hp => ?_, fun p hp t ht => ?_⟩
  · exact excCb_ok (He.ba (h p hp)).1
  · exact of_decide_eq_true (List.all_eq_true.mp (He.ba (He.ba (h p hp)).2).1 t ht)
  · exact of_decide_eq_true (He.ba (He.ba (He.ba (h p hp)).2).2).1
  · exact of_decide_eq_true (List.all_eq_true.mp (He.ba (He.ba (He.ba (h p hp)).2).2).2 t ht)
abbrev AlX : Type := Bool × He.AlD
def obsX (xb : Frg → Bool) (fa : List He.Fa) (fn : List He.DefD) (K : Frg) : AlX := (xb K, He.obsD fa fn K)
def valX (fn : List He.DefD) : AlX := (true, He.valD fn)
def SaysX (xb : Frg → Bool) (fa : List He.Fa) (fn : List He.DefD) (K : Frg) : Prop := xb K = true ∧ He.SaysD fa fn K
theorem excOk {K : Frg} {h : Heap} {mg : Str → Option Value} {x : Str} (X : K.In h) (G : h.Ns mainGlobals mg) (c1 : (He.Fa.glo x).ok K = true) (c2 : (He.Fa.exc x).ok K = true) : ExcOk K mg x := by
  obtain ⟨e, k, b, t⟩ := He.exc_ok c2
  exact ⟨He.glo_ok X G c1, e, k, b, t⟩
section
variable {P : Program} {w : World} {K : Frg} {mg : Str → Option Value} {base : Heap} {x qual : Str} {params : Arguments} {body : List Stmt} {scope : Scope} {kws : List (Str × V)} {f : Addr} {fd : FuncData} {N ps : List Str} {k n : Nat} {b : DS}
theorem def_by {m : Md} (hm : mg x = some (.ref f)) (G : FunD K x qual params body scope [] kws f fd) (S : FnScope N ps scope) (hn : ps.length = n)
    (hp : ∀ (kV doc pm : Value) (an : Option Addr) (cdv ct : Value) (us : List Value), us.length = ps.length → bindArgs (PySem.W.fnOf x qual params body scope .none kV doc pm an cdv ct) ⟨us, []⟩ = pure (ps.zip us))
    (hb : ∀ (cdv : Value) (A : Around) (outer : List Env) (s : Shared) (H : Hp) (E : XK), Room k (A.deeper (envOfC qual scope s.heap.objs.size f cdv)) → Tk m (cxOf (CXm m P w) P w K mg base N qual scope f cdv A outer s H E) (fun cls d _ H => E cls d H) →
      PassesOwn (model P w) (A.deeper (envOfC qual scope s.heap.objs.size f cdv)) (envOfC qual scope s.heap.objs.size f cdv) (cxOf (CXm m P w) P w K mg base N qual scope f cdv A outer s H E).xe →
      DBx (cxOf (CXm m P w) P w K mg base N qual scope f cdv A outer s H E) (fun cls d _ H => E cls d H) body b) : DefOk m P w K mg base (k + 1) x n (runB N.length b) := by
  subst hn
  exact ⟨f, fd, ps, hm, G.kp, FunD.bindsN G hp, fn_by G S hb fun _ _ _ _ => rfl⟩
end
end LF
set_option Elab.async false
set_option linter.all false
set_option maxRecDepth 100000
set_option maxHeartbeats 4000000
namespace LF
open PySem PySem.Spec PyProof.Rows L2
section
variable {α : Type} {r r1 : Env'} {M M1 : Mem} {x y d : D} {e : Exn} {da db dc de : DE} {dr : DA} {f f' : F2} {g : F1} {F : FN} {n i : Nat} {t u : DT} {sa sb : DS} {ds : List D} {b : Bool}
@[simp] theorem dVar_ev : dVar i r M = (match r[i]? with
  | some (some d) => .ok d M
  | _ => .no) := rfl
@[simp] theorem dC_ev : dC d r M = .ok d M := rfl
def binK2 (f : F2) (x : D) (o : Out D) : Out D := o.bind fun y M2 => f x y M2
def binK1 (f : F2) (o : Out D) (db : DE) (r : Env') : Out D := o.bind fun x M1 => binK2 f x (db r M1)
@[simp] theorem dBin_ev : dBin f da db r M = binK1 f (da r M) db r := rfl
@[simp] theorem binK1_ok : binK1 f (.ok x M) db r = binK2 f x (db r M) := rfl
@[simp] theorem binK1_ex : binK1 f (.ex e M) db r = .ex e M := rfl
@[simp] theorem binK1_no : binK1 f .no db r = .no := rfl
@[simp] theorem binK2_ok : binK2 f x (.ok y M) = f x y M := rfl
@[simp] theorem binK2_ex : binK2 f x (.ex e M) = .ex e M := rfl
@[simp] theorem binK2_no : binK2 f x .no = .no := rfl
def unK (g : F1) (o : Out D) : Out D := o.bind g
@[simp] theorem dUn_ev : dUn g da r M = unK g (da r M) := rfl
@[simp] theorem unK_ok : unK g (.ok x M) = g x M := rfl
@[simp] theorem unK_ex : unK g (.ex e M) = .ex e M := rfl
def testK : Out D → Out Bool
  | .ok (.bl b) M => .ok b M
  | .ex e M => .ex e M
  | _ => .no
@[simp] theorem dTest_ev : dTest da r M = testK (da r M) := by
  unfold dTest
  cases da r M with
  | ok a M => cases a <;> rfl
  | _ => rfl
@[simp] theorem testK_ok : testK (.ok (.bl b) M) = .ok b M := rfl
@[simp] theorem testK_ex : testK (.ex e M) = .ex e M := rfl
def chainK3 (f' : F2) (y : D) (o : Out D) (dc : DE) (r : Env') : Out D := o.bind fun z M3 => match z with
  | .bl true => binK2 f' y (dc r M3)
  | .bl false => .ok (.bl false) M3
  | _ => .no
def chainK2 (f f' : F2) (x : D) (o : Out D) (dc : DE) (r : Env') : Out D := o.bind fun y M2 => chainK3 f' y (f x y M2) dc r
def chainK1 (f f' : F2) (o : Out D) (db dc : DE) (r : Env') : Out D := o.bind fun x M1 => chainK2 f f' x (db r M1) dc r
@[simp] theorem dChain_ev : dChain f f' da db dc r M = chainK1 f f' (da r M) db dc r := rfl
@[simp] theorem chainK1_ok : chainK1 f f' (.ok x M) db dc r = chainK2 f f' x (db r M) dc r := rfl
@[simp] theorem chainK1_ex : chainK1 f f' (.ex e M) db dc r = .ex e M := rfl
@[simp] theorem chainK2_ok : chainK2 f f' x (.ok y M) dc r = chainK3 f' y (f x y M) dc r := rfl
@[simp] theorem chainK2_ex : chainK2 f f' x (.ex e M) dc r = .ex e M := rfl
@[simp] theorem chainK3_b : chainK3 f' y (.ok (.bl b) M) dc r = (bif b then binK2 f' y (dc r M) else .ok (.bl false) M) := by cases b <;> rfl
def andK (o : Out Bool) (u : DT) (r : Env') : Out Bool := o.bind fun b M1 => match b with
  | true => u r M1
  | false => .ok false M1
def orK (o : Out Bool) (u : DT) (r : Env') : Out Bool := o.bind fun b M1 => match b with
  | true => .ok true M1
  | false => u r M1
def notK (o : Out Bool) : Out Bool := o.bind fun b M1 => .ok (!b) M1
@[simp] theorem dAnd_ev : dAnd t u r M = andK (t r M) u r := rfl
@[simp] theorem dOr_ev : dOr t u r M = orK (t r M) u r := rfl
@[simp] theorem dNot_ev : dNot t r M = notK (t r M) := rfl
@[simp] theorem andK_t : andK (.ok true M) u r = u r M := rfl
@[simp] theorem andK_f : andK (.ok false M) u r = .ok false M := rfl
@[simp] theorem andK_ex : andK (.ex e M) u r = .ex e M := rfl
@[simp] theorem orK_t : orK (.ok true M) u r = .ok true M := rfl
@[simp] theorem orK_f : orK (.ok false M) u r = u r M := rfl
@[simp] theorem orK_ex : orK (.ex e M) u r = .ex e M := rfl
@[simp] theorem notK_ok : notK (.ok b M) = .ok (!b) M := rfl
@[simp] theorem notK_ex : notK (.ex e M) = .ex e M := rfl
def andVK (o : Out D) (db : DE) (r : Env') : Out D := o.bind fun x M1 => match x with
  | .bl true => db r M1
  | .bl false => .ok (.bl false) M1
  | _ => .no
def orVK (o : Out D) (db : DE) (r : Env') : Out D := o.bind fun x M1 => match x with
  | .bl true => .ok (.bl true) M1
  | .bl false => db r M1
  | _ => .no
def notVK (o : Out D) : Out D := o.bind fun x M1 => match x with
  | .bl b => .ok (.bl (!b)) M1
  | _ => .no
@[simp] theorem dAndV_ev : dAndV da db r M = andVK (da r M) db r := rfl
@[simp] theorem dOrV_ev : dOrV da db r M = orVK (da r M) db r := rfl
@[simp] theorem dNotV_ev : dNotV da r M = notVK (da r M) := rfl
@[simp] theorem andVK_ok : andVK (.ok (.bl b) M) db r = (bif b then db r M else .ok (.bl false) M) := by cases b <;> rfl
@[simp] theorem andVK_ex : andVK (.ex e M) db r = .ex e M := rfl
@[simp] theorem orVK_ok : orVK (.ok (.bl b) M) db r = (bif b then .ok (.bl true) M else db r M) := by cases b <;> rfl
@[simp] theorem orVK_ex : orVK (.ex e M) db r = .ex e M := rfl
@[simp] theorem notVK_ok : notVK (.ok (.bl b) M) = .ok (.bl (!b)) M := rfl
@[simp] theorem notVK_ex : notVK (.ex e M) = .ex e M := rfl
def ifEK (o : Out Bool) (da db : DE) (r : Env') : Out D := o.bind fun b M1 => match b with
  | true => da r M1
  | false => db r M1
@[simp] theorem dIfE_ev : dIfE t da db r M = ifEK (t r M) da db r := rfl
@[simp] theorem ifEK_t : ifEK (.ok true M) da db r = da r M := rfl
@[simp] theorem ifEK_f : ifEK (.ok false M) da db r = db r M := rfl
@[simp] theorem ifEK_ex : ifEK (.ex e M) da db r = .ex e M := rfl
def consK2 (x : D) (o : Out (List D)) : Out (List D) := o.bind fun xs M2 => .ok (x :: xs) M2
def consK1 (o : Out D) (dr : DA) (r : Env') : Out (List D) := o.bind fun x M1 => consK2 x (dr r M1)
@[simp] theorem dNil_ev : dNil r M = .ok [] M := rfl
@[simp] theorem dCons_ev : dCons da dr r M = consK1 (da r M) dr r := rfl
@[simp] theorem consK1_ok : consK1 (.ok x M) dr r = consK2 x (dr r M) := rfl
@[simp] theorem consK1_ex : consK1 (.ex e M) dr r = .ex e M := rfl
@[simp] theorem consK2_ok : consK2 x (.ok ds M) = .ok (x :: ds) M := rfl
@[simp] theorem consK2_ex : consK2 x (.ex e M) = .ex e M := rfl
def tupK (o : Out (List D)) : Out D := o.bind fun ds M1 => match lineB ds.length with
  | true => .ok (.tup ds) M1
  | false => .no
def lstK (o : Out (List D)) : Out D := o.bind fun ds M1 => match lineB ds.length with
  | true => .ok (.lst ds) M1
  | false => .no
def lstAK (o : Out (List D)) : Out D := o.bind fun ds M1 => match lineB ds.length with
  | true => .ok (.obj M1.length) (M1 ++ [.lst ds])
  | false => .no
@[simp] theorem dTup_ev : dTup dr r M = tupK (dr r M) := rfl
@[simp] theorem dLst_ev : dLst dr r M = lstK (dr r M) := rfl
@[simp] theorem dLstA_ev : dLstA dr r M = lstAK (dr r M) := rfl
theorem lineB_of {n : Nat} (h : n ≤ 100000) : lineB n = true := Nat.ble_eq_true_of_le h
@[simp] theorem tupK_ok (h : ds.length ≤ 100000) : tupK (.ok ds M) = .ok (.tup ds) M := by
  unfold tupK
  dsimp only [Out.bind]
  rw [lineB_of h]
@[simp] theorem tupK_ex : tupK (.ex e M) = .ex e M := rfl
@[simp] theorem lstK_ok (h : ds.length ≤ 100000) : lstK (.ok ds M) = .ok (.lst ds) M := by
  unfold lstK
  dsimp only [Out.bind]
  rw [lineB_of h]
@[simp] theorem lstK_ex : lstK (.ex e M) = .ex e M := rfl
@[simp] theorem lstAK_ok (h : ds.length ≤ 100000) : lstAK (.ok ds M) = .ok (.obj M.length) (M ++ [.lst ds]) := by
  unfold lstAK
  dsimp only [Out.bind]
  rw [lineB_of h]
@[simp] theorem lstAK_ex : lstAK (.ex e M) = .ex e M := rfl
def cbK (F : FN) (o : Out (List D)) : Out D := o.bind F
@[simp] theorem dCB_ev : dCB F dr r M = cbK F (dr r M) := rfl
@[simp] theorem cbK_ok : cbK F (.ok ds M) = F ds M := rfl
@[simp] theorem cbK_ex : cbK F (.ex e M) = .ex e M := rfl
def callK (n : Nat) (F : FN) (o : Out (List D)) : Out D := o.bind fun ds M1 => match Nat.beq ds.length n with
  | true => F ds M1
  | false => .no
@[simp] theorem dCall_ev : dCall n F dr r M = callK n F (dr r M) := rfl
@[simp] theorem callK_ok (h : ds.length = n) : callK n F (.ok ds M) = F ds M := by
  subst h
  unfold callK
  dsimp only [Out.bind]
  rw [Nat.beq_refl]
@[simp] theorem callK_ex : callK n F (.ex e M) = .ex e M := rfl
@[simp] theorem dNext_ev : dNext r M = .nx r M := rfl
def seqK (o : SO) (sb : DS) : SO := match o with
  | .nx r1 M1 => sb r1 M1
  | o => o
@[simp] theorem dSeq_ev : dSeq sa sb r M = seqK (sa r M) sb := rfl
@[simp] theorem seqK_nx : seqK (.nx r M) sb = sb r M := rfl
@[simp] theorem seqK_rt : seqK (.rt d M) sb = .rt d M := rfl
@[simp] theorem seqK_bk : seqK (.bk r M) sb = .bk r M := rfl
@[simp] theorem seqK_ct : seqK (.ct r M) sb = .ct r M := rfl
@[simp] theorem seqK_ex : seqK (.ex e r M) sb = .ex e r M := rfl
@[simp] theorem dRaise_ev {c : Str} : dRaise c r M = .ex ⟨c, [], []⟩ r M := rfl
def exprK (o : Out D) (r : Env') : SO := o.bindS r fun _ M1 => .nx r M1
@[simp] theorem dExpr_ev : dExpr de r M = exprK (de r M) r := rfl
@[simp] theorem exprK_ok : exprK (.ok x M) r = .nx r M := rfl
@[simp] theorem exprK_ex : exprK (.ex e M) r = .ex e r M := rfl
def retK (o : Out D) (r : Env') : SO := o.bindS r fun d M1 => .rt d M1
@[simp] theorem dRet_ev : dRet de r M = retK (de r M) r := rfl
@[simp] theorem retK_ok : retK (.ok x M) r = .rt x M := rfl
@[simp] theorem retK_ex : retK (.ex e M) r = .ex e r M := rfl
def ifK (o : Out Bool) (sa sb : DS) (r : Env') : SO := o.bindS r fun k M1 => match k with
  | true => sa r M1
  | false => sb r M1
@[simp] theorem dIf_ev : dIf t sa sb r M = ifK (t r M) sa sb r := rfl
@[simp] theorem ifK_t : ifK (.ok true M) sa sb r = sa r M := rfl
@[simp] theorem ifK_f : ifK (.ok false M) sa sb r = sb r M := rfl
@[simp] theorem ifK_ex : ifK (.ex e M) sa sb r = .ex e r M := rfl
def asgK2 (o : Out Env') : SO := match o with
  | .ok r1 M2 => .nx r1 M2
  | _ => .no
def asgK (o : Out D) (g : DG) (r : Env') : SO := o.bindS r fun d M1 => asgK2 (g d r M1)
@[simp] theorem dAsg_ev {g : DG} : dAsg de g r M = asgK (de r M) g r := rfl
@[simp] theorem asgK_ok {g : DG} : asgK (.ok x M) g r = asgK2 (g x r M) := rfl
@[simp] theorem asgK_ex {g : DG} : asgK (.ex e M) g r = .ex e r M := rfl
@[simp] theorem asgK2_ok : asgK2 (.ok r M) = .nx r M := rfl
@[simp] theorem gSlot_ev : gSlot i d r M = .ok (r.set i (some d)) M := rfl
@[simp] theorem gsNil_ev : gsNil [] r M = .ok r M := rfl
def gsK (o : Out Env') (gs : List D → Env' → Mem → Out Env') (ds : List D) : Out Env' := match o with
  | .ok r1 M1 => gs ds r1 M1
  | _ => .no
@[simp] theorem gsCons_ev {g : DG} {gs : List D → Env' → Mem → Out Env'} : gsCons g gs (d :: ds) r M = gsK (g d r M) gs ds := rfl
@[simp] theorem gsK_ok {gs : List D → Env' → Mem → Out Env'} : gsK (.ok r M) gs ds = gs ds r M := rfl
@[simp] theorem gTupD_ev {gs : List D → Env' → Mem → Out Env'} (h : ds.length = n) : gTupD n gs (.tup ds) r M = gs ds r M := by
  subst h
  unfold gTupD
  dsimp only [Out.bind]
  rw [Nat.beq_refl]
def forK (o : Out Src) (dg : DG) (body : DS) (r : Env') : SO := o.bindS r fun src M1 => forL src.chk dg body src.items r M1
@[simp] theorem dFor_ev {di : DI} {dg : DG} : dFor di dg sb r M = forK (di r M) dg sb r := rfl
@[simp] theorem forK_ok {src : Src} {dg : DG} : forK (.ok src M) dg sb r = forL src.chk dg sb src.items r M := rfl
@[simp] theorem forK_ex {dg : DG} : forK (.ex e M) dg sb r = .ex e r M := rfl
def forK2 (o : SO) (chk : Mem → Bool) (dg : DG) (body : DS) (ds : List D) : SO := match o with
  | .nx r2 M2 => forL chk dg body ds r2 M2
  | .ct r2 M2 => forL chk dg body ds r2 M2
  | .bk r2 M2 => .nx r2 M2
  | o => o
def forK1 (o : Out Env') (chk : Mem → Bool) (dg : DG) (body : DS) (ds : List D) : SO := match o with
  | .ok r1 M1 => forK2 (body r1 M1) chk dg body ds
  | _ => .no
section
variable {chk : Mem → Bool} {dg : DG}
theorem forL_nil (h : chk M = true) : forL chk dg sb [] r M = .nx r M := by unfold forL; rw [h]
theorem forL_cons (h : chk M = true) : forL chk dg sb (d :: ds) r M = forK1 (dg d r M) chk dg sb ds := by
  rw [forL, h]
  dsimp only
  unfold forK1
  cases dg d r M with
  | ok r1 M1 => dsimp only; unfold forK2; cases sb r1 M1 <;> rfl
  | _ => rfl
@[simp] theorem anyM_ev : anyM M = true := rfl
@[simp] theorem forL_nilA : forL anyM dg sb [] r M = .nx r M := forL_nil rfl
@[simp] theorem forL_consA : forL anyM dg sb (d :: ds) r M = forK1 (dg d r M) anyM dg sb ds := forL_cons rfl
@[simp] theorem forK1_ok : forK1 (.ok r M) chk dg sb ds = forK2 (sb r M) chk dg sb ds := rfl
@[simp] theorem forK2_nx : forK2 (.nx r M) chk dg sb ds = forL chk dg sb ds r M := rfl
@[simp] theorem forK2_ct : forK2 (.ct r M) chk dg sb ds = forL chk dg sb ds r M := rfl
@[simp] theorem forK2_bk : forK2 (.bk r M) chk dg sb ds = .nx r M := rfl
@[simp] theorem forK2_rt : forK2 (.rt d M) chk dg sb ds = .rt d M := rfl
@[simp] theorem forK2_ex : forK2 (.ex e r M) chk dg sb ds = .ex e r M := rfl
/-- a loop that is never left early -/
theorem forL_inv (I : Nat → Env' → Mem → Prop) : ∀ (ds : List D) (k : Nat) (r : Env') (M : Mem), (∀ i d r M, ds[i]? = some d → I (k + i) r M → chk M = true ∧ ∃ r1 M1, dg d r M = .ok r1 M1 ∧ ∃ r2 M2, (sb r1 M1 = .nx r2 M2 ∨ sb r1 M1 = .ct r2 M2) ∧ I (k + i + 1) r2 M2) →
    (∀ r M, I (k + ds.length) r M → chk M = true) → I k r M → ∃ r' M', forL chk dg sb ds r M = .nx r' M' ∧ I (k + ds.length) r' M'
  | [], k, r, M, _, hc, h => ⟨r, M, forL_nil (hc r M h), h⟩
  | d :: ds, k, r, M, st, hc, h => by
    obtain ⟨c, r1, M1, e1, r2, M2, e2, h2⟩ := st 0 d r M rfl h
    obtain ⟨r3, M3, e3, h3⟩ := forL_inv I ds (k + 1) r2 M2 (fun i d r M e hi => by
      have z := st (i + 1) d r M (by simpa using e) (by rw [show k + (i + 1) = k + 1 + i by omega]; exact hi)
      rw [show k + (i + 1) + 1 = k + 1 + i + 1 by omega] at z
      exact z) (fun r M hi => hc r M (by rw [show k + (d :: ds).length = k + 1 + ds.length by simp; omega]; exact hi)) h2
    refine ⟨r3, M3, ?_, by rw [show k + (d :: ds).length = k + 1 + ds.length by simp; omega]; exact h3⟩
    rw [forL_cons c, e1, forK1_ok]
    rcases e2 with e2 | e2 <;> rw [e2]
    · exact e3
    · exact e3
end
def compK2 (o : Out (List D)) : Out D := o.bind fun ys M2 => .ok (.lst ys) M2
def compK (o : Out Src) (dg : DG) (t : DT) (de : DE) (vs : List Nat) (r : Env') : Out D := o.bind fun src M1 => compK2 (compL src.chk dg t de (wipeD r vs) src.items [] M1)
@[simp] theorem dComp_ev {di : DI} {dg : DG} {vs : List Nat} : dComp di dg t de vs r M = compK (di r M) dg t de vs r := rfl
@[simp] theorem compK_ok {src : Src} {dg : DG} {vs : List Nat} : compK (.ok src M) dg t de vs r = compK2 (compL src.chk dg t de (wipeD r vs) src.items [] M) := rfl
@[simp] theorem compK2_ok : compK2 (.ok ds M) = .ok (.lst ds) M := rfl
@[simp] theorem dYes_ev : dYes r M = .ok true M := rfl
@[simp] theorem wipe_nil : wipeD r [] = r := rfl
@[simp] theorem wipe_cons {v : Nat} {vs : List Nat} : wipeD r (v :: vs) = (wipeD r vs).set v none := rfl
def cmpK3 (o : Out D) (chk : Mem → Bool) (dg : DG) (t : DT) (de : DE) (r0 : Env') (ds acc : List D) : Out (List D) := match o with
  | .ok y M3 => (match lineB acc.length with
    | true => compL chk dg t de r0 ds (acc ++ [y]) M3
    | false => .no)
  | _ => .no
def cmpK2 (o : Out Bool) (r1 : Env') (chk : Mem → Bool) (dg : DG) (t : DT) (de : DE) (r0 : Env') (ds acc : List D) : Out (List D) := match o with
  | .ok true M2 => cmpK3 (de r1 M2) chk dg t de r0 ds acc
  | .ok false M2 => compL chk dg t de r0 ds acc M2
  | _ => .no
def cmpK1 (o : Out Env') (chk : Mem → Bool) (dg : DG) (t : DT) (de : DE) (r0 : Env') (ds acc : List D) : Out (List D) := match o with
  | .ok r1 M1 => cmpK2 (t r1 M1) r1 chk dg t de r0 ds acc
  | _ => .no
section
variable {chk : Mem → Bool} {dg : DG} {acc : List D} {r0 : Env'}
theorem compL_cons (h : chk M = true) : compL chk dg t de r0 (d :: ds) acc M = cmpK1 (dg d r0 M) chk dg t de r0 ds acc := by
  rw [compL, h]
  dsimp only
  unfold cmpK1
  cases dg d r0 M with
  | ok r1 M1 =>
    dsimp only
    unfold cmpK2
    cases t r1 M1 with
    | ok b M2 =>
      cases b with
      | true => dsimp only; unfold cmpK3; cases de r1 M2 <;> rfl
      | false => rfl
    | _ => rfl
  | _ => rfl
@[simp] theorem compL_nilA : compL anyM dg t de r0 [] acc M = .ok acc M := rfl
@[simp] theorem compL_consA : compL anyM dg t de r0 (d :: ds) acc M = cmpK1 (dg d r0 M) anyM dg t de r0 ds acc := compL_cons rfl
@[simp] theorem cmpK1_ok : cmpK1 (.ok r M) chk dg t de r0 ds acc = cmpK2 (t r M) r chk dg t de r0 ds acc := rfl
@[simp] theorem cmpK2_t : cmpK2 (.ok true M) r chk dg t de r0 ds acc = cmpK3 (de r M) chk dg t de r0 ds acc := rfl
@[simp] theorem cmpK2_f : cmpK2 (.ok false M) r chk dg t de r0 ds acc = compL chk dg t de r0 ds acc M := rfl
@[simp] theorem cmpK3_ok (h : acc.length ≤ 100000) : cmpK3 (.ok x M) chk dg t de r0 ds acc = compL chk dg t de r0 ds (acc ++ [x]) M := by
  unfold cmpK3
  dsimp only
  rw [lineB_of h]
end
def itR1K (o : Out D) : Out Src := o.bind fun d M1 => match d with
  | .int j => (match small62 j with
    | true => .ok ⟨irng 0 j.toNat, anyM⟩ M1
    | false => .no)
  | _ => .no
def itRR1K (o : Out D) : Out Src := o.bind fun d M1 => match d with
  | .int j => (match small62 j with
    | true => .ok ⟨(irng 0 j.toNat).reverse, anyM⟩ M1
    | false => .no)
  | _ => .no
def itSK (o : Out D) : Out Src := o.bind fun d M1 => match d with
  | .str s => .ok ⟨signs s, anyM⟩ M1
  | _ => .no
theorem small62_of {j : Int} (h0 : -4611686018427387904 ≤ j) (h1 : j < 4611686018427387904) : small62 j = true := by
  unfold small62
  simp only [Bool.and_eq_true, decide_eq_true_eq]
  exact ⟨by simpa using h0, by simpa using h1⟩
@[simp] theorem dItR1_ev : dItR1 da r M = itR1K (da r M) := rfl
@[simp] theorem itR1K_ok {j : Int} (h0 : -4611686018427387904 ≤ j) (h1 : j < 4611686018427387904) : itR1K (.ok (.int j) M) = .ok ⟨irng 0 j.toNat, anyM⟩ M := by
  unfold itR1K
  dsimp only [Out.bind]
  rw [small62_of h0 h1]
@[simp] theorem itR1K_ex : itR1K (.ex e M) = .ex e M := rfl
@[simp] theorem dItRR1_ev : dItRR1 da r M = itRR1K (da r M) := rfl
@[simp] theorem itRR1K_ok {j : Int} (h0 : -4611686018427387904 ≤ j) (h1 : j < 4611686018427387904) : itRR1K (.ok (.int j) M) = .ok ⟨(irng 0 j.toNat).reverse, anyM⟩ M := by
  unfold itRR1K
  dsimp only [Out.bind]
  rw [small62_of h0 h1]
@[simp] theorem dItS_ev : dItS da r M = itSK (da r M) := rfl
end
end LF
set_option Elab.async false
set_option linter.all false
set_option maxRecDepth 100000
set_option maxHeartbeats 4000000
namespace LF
open PySem PySem.Spec PyProof.Rows L2
section
variable {r : Env'} {M : Mem} {i j : Int} {s t : Str} {x y d : D} {ds : List D} {b c : Bool} {e : Exn}
@[simp] theorem fAdd_int : fAdd (.int i) (.int j) M = .ok (.int (i + j)) M := rfl
theorem fAdd_str (h : s.length + t.length ≤ 100000) : fAdd (.str s) (.str t) M = .ok (.str (s ++ t)) M := by
  unfold fAdd
  dsimp only
  rw [lineB_of h]
@[simp] theorem fSub_int : fSub (.int i) (.int j) M = .ok (.int (i - j)) M := rfl
@[simp] theorem fBitAnd_int : fBitAnd (.int i) (.int j) M = .ok (.int (Builtin.bitAnd i j)) M := rfl
@[simp] theorem fNeg_int : fNeg (.int i) M = .ok (.int (-i)) M := rfl
theorem fI2_p {p : Int → Int → Bool} {g : Int → Int → D} (h : p i j = true) : fI2 p g (.int i) (.int j) M = .ok (g i j) M := by
  unfold fI2
  dsimp only
  rw [h]
@[simp] theorem fFdiv_int (h0 : 0 < j) (h1 : j < 1073741824) : fFdiv (.int i) (.int j) M = .ok (.int (i / j)) M := fI2_p (by simp [h0, h1])
@[simp] theorem fMod_int (h0 : 0 < j) : fMod (.int i) (.int j) M = .ok (.int (i % j)) M := fI2_p (by simp [h0])
@[simp] theorem fShr_int (h0 : 0 ≤ j) : fShr (.int i) (.int j) M = .ok (.int (i / 2 ^ j.toNat)) M := fI2_p (by simp [h0])
theorem small64_of {i : Int} (h0 : -18446744073709551616 < i) (h1 : i < 18446744073709551616) : small64 i = true := by
  unfold small64
  simp only [Bool.and_eq_true, decide_eq_true_eq]
  exact ⟨by simpa using h0, by simpa using h1⟩
theorem fMulX_r (h2 : -18446744073709551616 < j) (h3 : j < 18446744073709551616) : fMulX (.int i) (.int j) M = .ok (.int (i * j)) M := by
  unfold fMulX
  dsimp only
  rw [small64_of h2 h3, Bool.or_true]
theorem fMulX_l (h2 : -18446744073709551616 < i) (h3 : i < 18446744073709551616) : fMulX (.int i) (.int j) M = .ok (.int (i * j)) M := by
  unfold fMulX
  dsimp only
  rw [small64_of h2 h3, Bool.true_or]
@[simp] theorem fMulX_str : fMulX (.str s) (.int j) M = if j = 0 then .ok (.str Str.empty) M else if j = 1 then .ok (.str s) M else .no := rfl
@[simp] theorem lay_non {n : Nat} : D.lay n .non = true := by cases n <;> rfl
@[simp] theorem lay_bl {n : Nat} : D.lay n (.bl b) = true := by cases n <;> rfl
@[simp] theorem lay_int {n : Nat} : D.lay n (.int i) = true := by cases n <;> rfl
@[simp] theorem lay_str {n : Nat} : D.lay n (.str s) = PyData.strOk s := by cases n <;> rfl
@[simp] theorem lay_tup {n : Nat} : D.lay (n + 1) (.tup ds) = D.layL n ds := rfl
@[simp] theorem lay_lst {n : Nat} : D.lay (n + 1) (.lst ds) = D.layL n ds := rfl
@[simp] theorem layL_nil {n : Nat} : D.layL n [] = true := by cases n <;> rfl
@[simp] theorem layL_cons {n : Nat} : D.layL n (d :: ds) = (D.lay n d && D.layL n ds) := by cases n <;> rfl
theorem fEq_of (h1 : D.lay 64 x = true) (h2 : D.lay 64 y = true) : fEq x y M = .ok (.bl (D.eqb x y)) M := by
  unfold fEq
  rw [h1, h2]
  rfl
theorem fNe_of (h1 : D.lay 64 x = true) (h2 : D.lay 64 y = true) : fNe x y M = .ok (.bl (!D.eqb x y)) M := by
  unfold fNe
  rw [h1, h2]
  rfl
@[simp] theorem fEq_int : fEq (.int i) (.int j) M = .ok (.bl (decide (i = j))) M := rfl
@[simp] theorem fNe_int : fNe (.int i) (.int j) M = .ok (.bl (!decide (i = j))) M := rfl
theorem fEq_str (h1 : PyData.strOk s = true) (h2 : PyData.strOk t = true) : fEq (.str s) (.str t) M = .ok (.bl (s == t)) M := fEq_of (by simp [h1]) (by simp [h2])
theorem fNe_str (h1 : PyData.strOk s = true) (h2 : PyData.strOk t = true) : fNe (.str s) (.str t) M = .ok (.bl (!(s == t))) M := fNe_of (by simp [h1]) (by simp [h2])
mutual
theorem eqb_refl : ∀ (n : Nat) (d : D), D.lay n d = true → D.eqb d d = true
  | _, .non, _ => rfl
  | _, .bl b, _ => by simp [D.eqb]
  | _, .int i, _ => by simp [D.eqb]
  | _, .str s, _ => by simp [D.eqb]
  | 0, .tup _, h => by simp [D.lay] at h
  | 0, .lst _, h => by simp [D.lay] at h
  | n + 1, .tup ds, h => by
    simp only [D.eqb]
    exact eqbL_refl n ds (by simpa using h)
  | n + 1, .lst ds, h => by
    simp only [D.eqb]
    exact eqbL_refl n ds (by simpa using h)
  | n, .dic _ _, h => by cases n <;> simp [D.lay] at h
  | n, .obj _, h => by cases n <;> simp [D.lay] at h
  | n, .exc _ _ _, h => by cases n <;> simp [D.lay] at h
  | n, .ins _ _ _, h => by cases n <;> simp [D.lay] at h
theorem eqbL_refl : ∀ (n : Nat) (ds : List D), D.layL n ds = true → D.eqbL ds ds = true
  | _, [], _ => rfl
  | n, d :: ds, h => by
    simp only [layL_cons, Bool.and_eq_true] at h
    simp only [D.eqbL, Bool.and_eq_true]
    exact ⟨eqb_refl n d h.1, eqbL_refl n ds h.2⟩
end
/-- the same thing -/
theorem fEq_same (h : D.lay 64 x = true) : fEq x x M = .ok (.bl true) M := by rw [fEq_of h h, eqb_refl 64 x h]
theorem fNe_same (h : D.lay 64 x = true) : fNe x x M = .ok (.bl false) M := by rw [fNe_of h h, eqb_refl 64 x h]; rfl
theorem fIx_str {k : Nat} (h1 : s.length ≤ 100000) (h2 : atI s.cps.toList i = some k) : fIx (.str s) (.int i) M = .ok (.str ⟨#[k]⟩) M := by
  unfold fIx
  dsimp only
  rw [lineB_of h1, h2]
theorem fIx_lst (h : atI ds i = some d) : fIx (.lst ds) (.int i) M = .ok d M := by
  unfold fIx
  simp only [seqOf]
  rw [h]
  rfl
theorem fIx_tup (h : atI ds i = some d) : fIx (.tup ds) (.int i) M = .ok d M := by
  unfold fIx
  simp only [seqOf]
  rw [h]
  rfl
@[simp] theorem fIx_tup0 : fIx (.tup (d :: ds)) (.int 0) M = .ok d M := fIx_tup (L2.atI_nat (j := 0) rfl)
@[simp] theorem fIx_tup1 : fIx (.tup (x :: d :: ds)) (.int 1) M = .ok d M := fIx_tup (L2.atI_nat (j := 1) rfl)
@[simp] theorem fLen_lst : fLen [.lst ds] M = .ok (.int ds.length) M := rfl
@[simp] theorem fLen_tup : fLen [.tup ds] M = .ok (.int ds.length) M := rfl
theorem fLen_str (h : s.length ≤ 100000) : fLen [.str s] M = .ok (.int s.length) M := by
  unfold fLen
  dsimp only
  rw [lineB_of h]
@[simp] theorem fMax2_int : fMax2 [.int i, .int j] M = .ok (.int (if j > i then j else i)) M := rfl
def m1K2 (f : Str → F1) (s : Str) (o : Out D) : Out D := o.bind fun y M2 => f s y M2
def m1K (f : Str → F1) (o : Out D) (db : DE) (r : Env') : Out D := o.bind fun x M1 => match x with
  | .str s => m1K2 f s (db r M1)
  | _ => .no
@[simp] theorem dM1_ev {f : Str → F1} {da db : DE} : dM1 f da db r M = m1K f (da r M) db r := rfl
@[simp] theorem m1K_ok {f : Str → F1} {db : DE} : m1K f (.ok (.str s) M) db r = m1K2 f s (db r M) := rfl
@[simp] theorem m1K2_ok {f : Str → F1} : m1K2 f s (.ok y M) = f s y M := rfl
@[simp] theorem m1K2_ex {f : Str → F1} : m1K2 f s (.ex e M) = .ex e M := rfl
@[simp] theorem mInt_str {g : Str → Str → Int} : mInt g s (.str t) M = .ok (.int (g s t)) M := rfl
theorem mJoin_lst {ss : List Str} (h : strsOf ds = some ss) (hl : (ss.map (·.length)).sum + ss.length * s.length ≤ 100000) : mJoin s (.lst ds) M = .ok (.str (Txt.join s ss)) M := by
  unfold mJoin
  simp only [seqOf, Option.bind_some, h]
  rw [lineB_of hl]
def isBK (p : String → Bool) (o : Out D) : Out D := o.bind fun x M1 => match tagOf M1 x with
  | some t => .ok (.bl (p t)) M1
  | none => .no
@[simp] theorem dIsB_ev {p : String → Bool} {da : DE} : dIsB p da r M = isBK p (da r M) := rfl
@[simp] theorem isBK_non {p : String → Bool} : isBK p (.ok .non M) = .ok (.bl (p "NoneType")) M := rfl
@[simp] theorem isBK_bl {p : String → Bool} : isBK p (.ok (.bl b) M) = .ok (.bl (p "bool")) M := rfl
@[simp] theorem isBK_int {p : String → Bool} : isBK p (.ok (.int i) M) = .ok (.bl (p "int")) M := rfl
@[simp] theorem isBK_str {p : String → Bool} : isBK p (.ok (.str s) M) = .ok (.bl (p "str")) M := rfl
@[simp] theorem isBK_tup {p : String → Bool} : isBK p (.ok (.tup ds) M) = .ok (.bl (p "tuple")) M := rfl
@[simp] theorem isBK_lst {p : String → Bool} : isBK p (.ok (.lst ds) M) = .ok (.bl (p "list")) M := rfl
@[simp] theorem isBK_dic {p : String → Bool} {ks : List Key} : isBK p (.ok (.dic ks ds) M) = .ok (.bl (p "dict")) M := rfl
def isK (isa : CT → Option Bool) (o : Out D) : Out D := o.bind fun x M1 => match (ctOf M1 x).bind isa with
  | some b => .ok (.bl b) M1
  | none => .no
@[simp] theorem dIs_ev {isa : CT → Option Bool} {da : DE} : dIs isa da r M = isK isa (da r M) := rfl
theorem isK_exc {isa : CT → Option Bool} {c : Str} {ns : List Str} {q : Bool} (h : isa (.x c) = some q) : isK isa (.ok (.exc c ns ds) M) = .ok (.bl q) M := by
  unfold isK
  dsimp only [Out.bind, ctOf, Option.bind]
  rw [h]
theorem fDGet_of {n : Nat} {k : Key} {kvs : List (Key × D)} (hk : keyOf y = some k) (hM : M[n]? = some (.dic kvs)) (h : lookD kvs k = some d) : fDGet (.obj n) y M = .ok d M := by
  unfold fDGet
  rw [hk]
  dsimp only
  rw [hM]
  dsimp only
  rw [h]
  rfl
def dputK3 (o v : D) (k : Out D) (r : Env') : SO := k.bindS r fun k M3 => putAt o k v r M3
def dputK2 (v : D) (o : Out D) (dk : DE) (r : Env') : SO := o.bindS r fun o M2 => dputK3 o v (dk r M2) r
def dputK1 (v : Out D) (do_ dk : DE) (r : Env') : SO := v.bindS r fun v M1 => dputK2 v (do_ r M1) dk r
@[simp] theorem dDPut_ev {do_ dk dv : DE} : dDPut do_ dk dv r M = dputK1 (dv r M) do_ dk r := rfl
@[simp] theorem dputK1_ok {do_ dk : DE} : dputK1 (.ok d M) do_ dk r = dputK2 d (do_ r M) dk r := rfl
@[simp] theorem dputK2_ok {dk : DE} : dputK2 d (.ok x M) dk r = dputK3 x d (dk r M) r := rfl
@[simp] theorem dputK3_ok : dputK3 x d (.ok y M) r = putAt x y d r M := rfl
theorem putAt_of {n : Nat} {k : Key} {kvs : List (Key × D)} (hk : keyOf y = some k) (hM : M[n]? = some (.dic kvs)) (hl : kvs.length ≤ 100000) : putAt (.obj n) y d r M = .nx r (M.set n (.dic (putD kvs k d))) := by
  unfold putAt
  rw [hk]
  dsimp only
  rw [hM]
  dsimp only
  rw [lineB_of hl]
@[simp] theorem dNewDic_ev : dNewDic r M = .ok (.obj M.length) (M ++ [.dic []]) := rfl
@[simp] theorem dDisp_ev {ps : List (Key × DE)} : dDisp ps r M = ((dPairs ps r M).bind fun kvs M1 => match Nat.ble kvs.length 15 with
  | true => .ok (.obj M1.length) (M1 ++ [.dic (mergeD [] kvs)])
  | false => .no) := rfl
def runK : SO → Out D
  | .nx _ M1 => .ok .non M1
  | .rt d M1 => .ok d M1
  | .ex e _ M1 => .ex e M1
  | _ => .no
theorem runB_ev {n : Nat} {b : DS} : runB n b ds M = runK (b (ds.map some ++ List.replicate (n - ds.length) none) M) := by
  unfold runB runK
  cases b (ds.map some ++ List.replicate (n - ds.length) none) M <;> rfl
@[simp] theorem runK_nx : runK (.nx r M) = .ok .non M := rfl
@[simp] theorem runK_rt : runK (.rt d M) = .ok d M := rfl
@[simp] theorem runK_ex : runK (.ex e r M) = .ex e M := rfl
def tryK (isa : Str → Option Bool) (i : Nat) (o : SO) (hand : DS) : SO := match o with
  | .ex e r1 M1 => (match isa e.c with
    | some true => offS i (hand (r1.set i (some (.exc e.c e.ns e.ds))) M1)
    | some false => .ex e r1 M1
    | none => .no)
  | o => o
@[simp] theorem dTryAs_ev {isa : Str → Option Bool} {i : Nat} {body hand : DS} : dTryAs isa i body hand r M = tryK isa i (body r M) hand := rfl
@[simp] theorem tryK_nx {isa : Str → Option Bool} {i : Nat} {hand : DS} : tryK isa i (.nx r M) hand = .nx r M := rfl
@[simp] theorem tryK_rt {isa : Str → Option Bool} {i : Nat} {hand : DS} : tryK isa i (.rt d M) hand = .rt d M := rfl
theorem tryK_yes {isa : Str → Option Bool} {i : Nat} {hand : DS} (h : isa e.c = some true) : tryK isa i (.ex e r M) hand = offS i (hand (r.set i (some (.exc e.c e.ns e.ds))) M) := by
  unfold tryK
  dsimp only
  rw [h]
@[simp] theorem offS_rt {i : Nat} : offS i (.rt d M) = .rt d M := rfl
@[simp] theorem offS_nx {i : Nat} : offS i (.nx r M) = .nx (r.set i none) M := rfl
end
end LF
set_option Elab.async false
set_option linter.all false
set_option maxRecDepth 100000
set_option maxHeartbeats 4000000
namespace LF
open PySem PySem.Spec PyProof.Rows L2
/-- the text of these signs -/
def tx (l : List Nat) : Str := ⟨l.toArray⟩
theorem tx_tl (l : List Nat) : (tx l).cps.toList = l := rfl
theorem tx_eta (s : Str) : s = tx s.cps.toList := TL.ext_tl rfl
@[simp] theorem tx_len (l : List Nat) : (tx l).length = l.length := TL.len_tl _
@[simp] theorem tx_app (a b : List Nat) : tx a ++ tx b = tx (a ++ b) := TL.ext_tl (TL.tl_append _ _)
theorem tx_inj {a b : List Nat} (h : tx a = tx b) : a = b := by
  have z := congrArg (fun s : Str => s.cps.toList) h
  exact z
theorem tx_beq (a b : List Nat) : (tx a == tx b) = (a == b) := by
  rw [Bool.eq_iff_iff, beq_iff_eq, beq_iff_eq]
  exact ⟨tx_inj, fun h => by rw [h]⟩
theorem tx_empty : (Str.ofString "") = tx [] := rfl
theorem tx_lit (s : String) : Str.ofString s = tx (s.toList.map Char.toNat) := TL.ext_tl (TL.tl_ofString s)
theorem signs_tx (l : List Nat) : signs (tx l) = l.map fun c => .str (tx [c]) := rfl
theorem strOk_tx {l : List Nat} : PyData.strOk (tx l) = l.all fun c => decide (c < 1114112) := by
  unfold PyData.strOk tx
  simp
theorem strs_tx (l : List Nat) : strsOf (l.map fun c => .str (tx [c])) = some (l.map fun c => tx [c]) := by
  induction l with
  | nil => rfl
  | cons c l ih => simp only [List.map_cons, strsOf, ih, Option.map_some]
theorem join_tx (l : List Nat) : Txt.join (tx []) (l.map fun c => tx [c]) = tx l := by
  refine TL.ext_tl ?_
  rw [TL.join_eq, TL.tl_join]
  induction l with
  | nil => rfl
  | cons c l ih =>
    cases l with
    | nil => rfl
    | cons d l =>
      simp only [List.map_cons] at ih ⊢
      rw [TL.joinL, ih]
      rfl
theorem mJoin_tx {l : List Nat} {M : Mem} (h : l.length ≤ 100000) : mJoin (tx []) (.lst (l.map fun c => .str (tx [c]))) M = .ok (.str (tx l)) M := by
  rw [mJoin_lst (strs_tx l) ?_, join_tx]
  have e : ((l.map fun c => tx [c]).map (·.length)) = l.map fun _ => 1 := by
    rw [List.map_map]
    exact List.map_congr_left fun c _ => tx_len [c]
  rw [e, tx_len]
  have e2 : (l.map fun _ => 1).sum = l.length := by
    clear h e
    induction l with
    | nil => rfl
    | cons c l ih => simp only [List.map_cons, List.sum_cons, List.length_cons, ih]; omega
  rw [e2]
  simpa using h
theorem fIx_tx {l : List Nat} {i : Int} {c : Nat} {M : Mem} (h : l.length ≤ 100000) (e : atI l i = some c) : fIx (.str (tx l)) (.int i) M = .ok (.str (tx [c])) M := fIx_str (by simpa using h) e
theorem fLen_tx {l : List Nat} {M : Mem} (h : l.length ≤ 100000) : fLen [.str (tx l)] M = .ok (.int l.length) M := by
  rw [fLen_str (by simpa using h), tx_len]
theorem fAdd_tx {a b : List Nat} {M : Mem} (h : a.length + b.length ≤ 100000) : fAdd (.str (tx a)) (.str (tx b)) M = .ok (.str (tx (a ++ b))) M := by
  rw [fAdd_str (by simpa using h), tx_app]
theorem fInS_tx {c : Nat} {l : List Nat} {neg : Bool} {M : Mem} : fInS neg (.str (tx [c])) (.str (tx l)) M = .ok (.bl (if neg then !decide (c ∈ l) else decide (c ∈ l))) M := rfl
end LF
set_option Elab.async false
set_option linter.all false
set_option maxRecDepth 100000
set_option maxHeartbeats 4000000
namespace LF
open PySem PySem.Spec PyProof.Rows L2
theorem repL_ints {K : Frg} {φ : Wd} {H : Hp} : ∀ ns : List Int, RepL K φ H (ns.map D.int) (ns.map V.int)
  | [] => .nil
  | n :: ns => .cons rep_int (repL_ints ns)
theorem law_sp {K : Frg} {H : Hp} {a : Addr} {ns : List Int} {F : FN} (hS : SqL K H a (ns.map V.int)) (hF : ∃ M, F [.lst (ns.map .int)] [] = .ok (.bl true) M) : SpD K 1 F [.ref a] H (fun v _ => v = .bl true) (fun _ _ _ => False) := by
  obtain ⟨M, e⟩ := hF
  have st : Sto K ⟨[], []⟩ [] H := ⟨rfl, List.nodup_nil, fun b hb => absurd hb (by simp), fun i b mo h => by simp at h⟩
  have rp : Rep K ⟨[], []⟩ H (.lst (ns.map .int)) (.ref a) := by
    unfold Rep
    refine ⟨a, _, rfl, ?_, repL_ints ns⟩
    rcases hS with h | h
    · exact .inl ⟨⟨by simp, by simp⟩, h⟩
    · exact .inr h
  refine ⟨_, _, [.lst (ns.map .int)], rfl, st, RepL.cons rp .nil, ?_⟩
  rw [e]
  exact fun v φ' H' g S r => rep_bl_inv r
end LF
set_option Elab.async false
set_option linter.all false
set_option maxRecDepth 100000
set_option maxHeartbeats 4000000
namespace LF
open PySem PySem.Spec PyProof.Rows L2
/-- a text's signs, each with its place in a new pair -/
def ItES (z : Str) : It := ⟨fun i _ => i < z.cps.size, fun i H v H' => ∃ T c, v = .ref T ∧ H T = none ∧ H' = upd H T (.tup [.int (i : Nat), .str ⟨#[c]⟩]) ∧ z.cps[i]? = some c, fun i _ => i = z.cps.size⟩
theorem draws_str {P : Program} {w : World} {A : Around} (hh : A.handled = none) (it : Addr) (z : Str) (t : Tok) : Draws P w A it [it] z.cps.size (fun i v => ∃ c u, z.cps[i]? = some c ∧ v = .str ⟨#[c]⟩ u) (fun i h => h.IsStrIter it (strIterType z) z t i) := by
  unfold strIterType
  split
  · exact Draws.strAscii hh it z t
  · exact Draws.strWide hh it z t
theorem turn_enumS {P : Program} {w : World} {K : Frg} {elts : List Expr} {kk : Nat} {tpos : Pos} (z : Str) (t : Tok) (e it : Addr) :
    Turn P w K (.Tuple elts kk tpos) (ItES z) [e, it] e (fun i h => (∃ old, IsEnum h e it ((i : Nat) : Int) old) ∧ h.IsStrIter it (strIterType z) z t i ∧ e ≠ it) where
  mem := by simp
  obj := fun i h st b hb => by
    obtain ⟨⟨old, he⟩, ⟨o, ho, hc, hd⟩, _⟩ := st
    have q : b = e ∨ b = it := by simpa using hb
    rcases q with rfl | rfl
    · exact ⟨_, he, fun v q => nomatch q⟩
    · exact ⟨o, ho, fun v q => by rw [hd] at q; cases q⟩
  keep := fun i h h' ⟨⟨old, he⟩, ⟨o, ho, hr⟩, ne⟩ k => ⟨⟨old, k e (by simp) _ he⟩, ⟨o, k it (by simp) o ho, hr⟩, ne⟩
  item := by
    intro X hP hw hK hc i pins s σ H E I hf ⟨⟨old, he⟩, hit, hne⟩ hg
    subst hP hw hK
    have el : e < s.heap.objs.size := Heap.lt_size he
    have il : it < s.heap.objs.size := let ⟨_, q, _⟩ := hit; Heap.lt_size q
    have D := draws_str (P := X.prog) (w := X.w) (A := X.A.in1) (I.ok.hd hc) it z t
    refine wpAny_pyNext_enum_itemD D he hit hg hne (by simpa using hne) fun x h1 tk px ho hit1 hT hz hk => ?_
    obtain ⟨c, u, hc2, rfl⟩ := px
    refine ⟨_, rfl, wpAny_letOwnedTupleGo_enum (s := { s with heap := h1, toks := tk + 1 }) ho fun h2 he2 sb => ?_⟩
    have hT2 : h2.get? s.heap.objs.size = some { cls := .type "tuple", data := .seq #[.int i tk, .str ⟨#[c]⟩ u] } := (sb.2 _ (Nat.ne_of_gt el)).trans hT
    have hn : H s.heap.objs.size = none := I.hok.fresh (Nat.le_refl _)
    have new : ObjOk X.prog X.w (upd H s.heap.objs.size (.tup [.int (i : Nat), .str ⟨#[c]⟩])) h2 s.heap.objs.size (.tup [.int (i : Nat), .str ⟨#[c]⟩]) :=
      ⟨by show 2 ≤ sizeLine; rw [sizeLine_eq]; decide, [.int i tk, .str ⟨#[c]⟩ u], .cons ⟨_, rfl⟩ (.cons ⟨_, rfl⟩ .nil), ⟨_, hT2, rfl, _, rfl⟩⟩
    have I1 : Inv X pins σ (upd H s.heap.objs.size (.tup [.int (i : Nat), .str ⟨#[c]⟩])) { s with heap := h2, toks := tk + 1 } :=
      I.turnedNew (ch := [e, it]) (fun b o hb q => (sb.2 b (fun z => hb (by simp [z]))).trans (hk b o (fun z => hb (by simp [z])) (fun z => hb (by simp [z])) q)) hf (Nat.le_refl _) new
    have hit2 : h2.IsStrIter it (strIterType z) z t (i + 1) := by
      obtain ⟨o, q1, q2⟩ := hit1
      exact ⟨o, (sb.2 it (Ne.symm hne)).trans q1, q2⟩
    have he3 : IsEnum h2 e it ((i + 1 : Nat) : Int) (.str ⟨#[c]⟩ u) := by
      rw [show ((i + 1 : Nat) : Int) = (i : Int) + 1 by omega]
      exact he2
    refine ⟨.ref s.heap.objs.size, _, I1, rfl, ⟨_, c, rfl, hn, rfl, hc2⟩, ⟨⟨_, he3⟩, hit2, hne⟩, fun b hb => ?_⟩
    have q : b = e ∨ b = it := by simpa using hb
    have bl : b < s.heap.objs.size := by rcases q with rfl | rfl <;> assumption
    rw [upd_ne (Nat.ne_of_lt bl)]
    exact (hf b hb).1
  done := by
    intro X hP hw hK hc i pins s σ H E I hf ⟨⟨old, he⟩, hit, hne⟩ hg
    subst hP hw hK
    have hg : i = z.cps.size := hg
    subst hg
    obtain ⟨f0, f1, f2, f3, f4, f5⟩ := hf it (by simp)
    have D := draws_str (P := X.prog) (w := X.w) (A := X.A.in1) (I.ok.hd hc) it z t
    exact wpAny_pyNext_enum_endD D he hit fun h1 eb => ⟨rfl, I.turned (t' := s.toks) (fun b o hb q => eb b o hb q) f0 f1 f3 f4 f5⟩
  self := fun A i s Q E ⟨⟨_, he⟩, _⟩ h => wpAny_pyIter_enum he h
def iEnumS (te : TE) : TI := fun σ H R => te σ H fun v H1 => ∃ z, v = .str z ∧ R (ItES z) H1
theorem pi_enumS {X : Cx} {e : Expr} {te : TE} {p pos tpos : Pos} {elts : List Expr} {kk : Nat} (hg : Gl X "enumerate") (hm : X.mg "enumerate" = none) (he : PE X e te) (h1 : starEach [e] X.env = (false, eval e X.env) :: starEach [] X.env := by rfl) (hs : starEach [e] X.env = [(false, eval e X.env)] := by rfl) :
    PI X (.Tuple elts kk tpos) (.Call (.Name "enumerate" p) [e] [] pos) (iEnumS te) := by
  refine ⟨fun pins s σ H R I h => ?_⟩
  have pa := pa_cons he (pa_nil (X := X)) h1
  have h2 : tCons te tNil σ H (fun vs H1 => match vs with
    | [v] => ∃ z, v = .str z ∧ R (ItES z) H1
    | _ => False) := h
  refine Call_ (ld_blt I hg hm boot_enumerate (PyProof.Rows.callWith_type1 (thn (pa.run pos pins s σ H _ I h2) fun us s1 ⟨vs, H1, I1, r1, q1⟩ => ?_) hs rfl))
  cases r1 with
  | nil => exact q1.elim
  | cons r rr =>
    cases rr with
    | cons r2 rr => exact q1.elim
    | nil =>
    obtain ⟨z, rfl, q⟩ := q1
    obtain ⟨t, rfl⟩ := r
    refine call_enumerate_str fun h' he hit hsz hk => wpAny_pyIter_enum he ?_
    have I2 : Inv X pins σ H1 { s1 with heap := h' } := I1.kept (t' := s1.toks) hk
    refine ⟨s1.heap.objs.size + 1, [s1.heap.objs.size + 1, s1.heap.objs.size], _, _, H1, rfl, I2, turn_enumS z t (s1.heap.objs.size + 1) s1.heap.objs.size, ⟨⟨.none, he⟩, hit, Nat.succ_ne_self _⟩, fun b hb => ?_, q⟩
    have hle : s1.heap.objs.size ≤ b := by
      have e' : b = s1.heap.objs.size + 1 ∨ b = s1.heap.objs.size := by simpa using hb
      rcases e' with q | q
      · rw [q]; exact Nat.le_succ _
      · rw [q]; exact Nat.le_refl _
    exact I1.fpOk hle (I1.hok.fresh hle)
/-- .. on plain data -/
def pairsS (s : Str) : List D := s.cps.toList.zipIdx.map fun ci => .tup [.int (ci.2 : Nat), .str ⟨#[ci.1]⟩]
theorem serves_enumS {K : Frg} {φ1 : Wd} {H1 : Hp} {z : Str} : Serves K φ1 H1 ⟨pairsS z, anyM⟩ (ItES z) := by
  intro i φ M H g _ S c
  have hl : (pairsS z).length = z.cps.size := by unfold pairsS; simp
  refine ⟨fun e => e.trans hl, fun d e => ?_⟩
  unfold pairsS at e
  rw [List.getElem?_map, List.getElem?_zipIdx] at e
  cases q : z.cps.toList[i]? with
  | none => rw [q] at e; cases e
  | some c =>
    rw [q] at e
    simp only [Option.map_some, Option.some.injEq, Nat.zero_add] at e
    subst e
    have hi : i < z.cps.size := by
      have := (List.getElem?_eq_some_iff.mp q).1
      simpa using this
    refine ⟨hi, fun x H' y => ?_⟩
    obtain ⟨T, c2, rfl, hT, rfl, hc⟩ := y
    have e2 : c2 = c := by
      rw [Array.getElem?_toList, hc] at q
      exact Option.some.inj q
    subst e2
    exact ⟨φ, Grow.new hT, S.new hT, rep_tup_new S hT (.cons rep_int (.cons rep_str .nil))⟩
def dItES (da : DE) : DI := fun r M => (da r M).bind fun d M1 => match d with
  | .str s => .ok ⟨pairsS s, anyM⟩ M1
  | _ => .no
section
variable {X : Cx} {W : WX} {pos : Pos}
theorem di_enumS {e : Expr} {de : DE} {p tpos : Pos} {elts : List Expr} {kk : Nat} (hg : Gl X "enumerate") (hm : X.mg "enumerate" = none) (he : DEx X W e de) (h1 : starEach [e] X.env = (false, eval e X.env) :: starEach [] X.env := by rfl) (hs : starEach [e] X.env = [(false, eval e X.env)] := by rfl) :
    DIx X W (.Tuple elts kk tpos) (.Call (.Name "enumerate" p) [e] [] pos) (dItES de) := by
  obtain ⟨_, p1, s1⟩ := he
  refine ⟨_, pi_enumS hg hm p1 h1 hs, fun φ M H σ r R S E h => ?_⟩
  refine s1 φ M H σ r _ S E (Okd.bind h fun d M1 v φ1 H1 _ g1 S1 rv h1 => ?_)
  cases d with
  | str s => exact ⟨s, rep_str_inv rv, h1.here S1 serves_enumS⟩
  | _ => exact h1.elim
end
def blsOf : List D → Option (List Bool)
  | [] => some []
  | .bl b :: r => (blsOf r).map (b :: ·)
  | _ :: _ => none
theorem bls_rep {K : Frg} {φ : Wd} {H : Hp} : ∀ {ds : List D} {xs : List V} {bs : List Bool}, RepL K φ H ds xs → blsOf ds = some bs → xs = bs.map V.bl
  | [], xs, bs, r, h => by cases h; exact r.inv0
  | d :: ds, xs, bs, r, h => by
    cases d with
    | bl b =>
      obtain ⟨v, w, rfl, r1, r2⟩ := r.inv
      unfold blsOf at h
      cases e : blsOf ds with
      | none => rw [e] at h; cases h
      | some l =>
        rw [e] at h; cases h
        rw [List.map_cons, rep_bl_inv r1, bls_rep r2 e]
    | _ => cases h
def fAll : FN := fun ds M => match ds with
  | [.lst es] => (match blsOf es with
    | some bs => .ok (.bl (bs.all id)) M
    | none => .no)
  | _ => .no
theorem row_bls {K : Frg} {φ : Wd} {M : Mem} {H : Hp} {es : List D} {v : V} {bs : List Bool} (r : Rep K φ H (.lst es) v) (h : blsOf es = some bs) : ∃ a, v = .ref a ∧ SqL K H a (bs.map V.bl) := by
  unfold Rep at r
  obtain ⟨a, xs, rfl, h1, h2⟩ := r
  exact ⟨a, rfl, by rw [← bls_rep h2 h]; exact h1.sq⟩
theorem fAll_inv {K : Frg} {φ : Wd} {H : Hp} {Q : VK} {W : XK} {ds : List D} {M : Mem} (h : Okd K φ H (RE K) (fAll ds M) Q W) : ∃ es bs, ds = [.lst es] ∧ blsOf es = some bs ∧ Okd K φ H (RE K) (.ok (.bl (bs.all id)) M) Q W := by
  unfold fAll at h
  split at h
  · rename_i es
    split at h
    · rename_i bs q
      exact ⟨es, bs, rfl, q, h⟩
    · exact h.elim
  · exact h.elim
theorem o_all {K : Frg} : OpN K (rAll K) fAll := by
  intro φ M H xs ds Q W S r h
  obtain ⟨es, bs, rfl, q, h⟩ := fAll_inv h
  obtain ⟨v, w, rfl, r1, r2⟩ := r.inv
  rw [r2.inv0]
  obtain ⟨a, rfl, h1⟩ := row_bls (M := M) r1 q
  exact ⟨a, bs, rfl, h1, okB S h⟩
def strLt (a b : Str) : Bool := decide (a.cps.toList < b.cps.toList)
def fCmp (f : Int → Int → Bool) (g : Str → Str → Bool) : F2 := fun x y M => match x, y with
  | .int i, .int j => .ok (.bl (f i j)) M
  | .str a, .str b => .ok (.bl (g a b)) M
  | _, _ => .no
def fLtX : F2 := fCmp (fun i j => decide (i < j)) strLt
def fLeX : F2 := fCmp (fun i j => decide (i ≤ j)) fun a b => !strLt b a
def fGtX : F2 := fCmp (fun i j => decide (j < i)) fun a b => strLt b a
def fGeX : F2 := fCmp (fun i j => decide (j ≤ i)) fun a b => !strLt a b
def rCmpX (f : Int → Int → Bool) (g : Str → Str → Bool) : R2 := fun x y H Q => (∃ i j, x = .int i ∧ y = .int j ∧ Q (.bl (f i j)) H) ∨ ∃ i j, x = .str i ∧ y = .str j ∧ Q (.bl (g i j)) H
theorem o_cmpX {K : Frg} {f : Int → Int → Bool} {g : Str → Str → Bool} : Op2 K (rCmpX f g) (fCmp f g) := by
  intro φ M H x y a b Q W S ra rb h
  cases a with
  | int i =>
    cases b with
    | int j => exact .inl ⟨i, j, rep_int_inv ra, rep_int_inv rb, okB S h⟩
    | _ => exact h.elim
  | str i =>
    cases b with
    | str j => exact .inr ⟨i, j, rep_str_inv ra, rep_str_inv rb, okB S h⟩
    | _ => exact h.elim
  | _ => cases b <;> exact h.elim
theorem o_ltX {K : Frg} : Op2 K (rCmpX (fun i j => decide (i < j)) strLt) fLtX := o_cmpX
theorem o_leX {K : Frg} : Op2 K (rCmpX (fun i j => decide (i ≤ j)) fun a b => !strLt b a) fLeX := o_cmpX
theorem o_gtX {K : Frg} : Op2 K (rCmpX (fun i j => decide (j < i)) fun a b => strLt b a) fGtX := o_cmpX
section
variable {X : Cx}
theorem opr_ltX : OpR X (compareOp .Lt) (rCmpX (fun i j => decide (i < j)) strLt) := OpR.or (r := fun x y H Q => ∃ i j, x = .int i ∧ y = .int j ∧ Q (.bl (decide (i < j))) H) op_lt op_lt_str
theorem opr_leX : OpR X (compareOp .LtE) (rCmpX (fun i j => decide (i ≤ j)) fun a b => !strLt b a) := OpR.or (r := fun x y H Q => ∃ i j, x = .int i ∧ y = .int j ∧ Q (.bl (decide (i ≤ j))) H) op_le op_le_str
theorem opr_gtX : OpR X (compareOp .Gt) (rCmpX (fun i j => decide (j < i)) fun a b => strLt b a) := OpR.or (r := fun x y H Q => ∃ i j, x = .int i ∧ y = .int j ∧ Q (.bl (decide (j < i))) H) op_gt op_gt_str
end
def fOrd : FN := fun ds M => match ds with
  | [.str s] => (match s.cps.toList with
    | [c] => .ok (.int (c : Nat)) M
    | _ => .no)
  | _ => .no
theorem fOrd_inv {K : Frg} {φ : Wd} {H : Hp} {Q : VK} {W : XK} {ds : List D} {M : Mem} (h : Okd K φ H (RE K) (fOrd ds M) Q W) : ∃ c, ds = [.str ⟨#[c]⟩] ∧ Okd K φ H (RE K) (.ok (.int (c : Nat)) M) Q W := by
  unfold fOrd at h
  split at h
  · rename_i s
    split at h
    · rename_i c q
      exact ⟨c, by rw [str_one q], h⟩
    · exact h.elim
  · exact h.elim
theorem o_ord {K : Frg} : OpN K (fun xs H Q => ∃ x, xs = [V.str x] ∧ x.length = 1 ∧ Q (.int (x.cps.getD 0 0 : Nat)) H) fOrd := by
  intro φ M H xs ds Q W S r h
  obtain ⟨c, rfl, h⟩ := fOrd_inv h
  obtain ⟨v, w, rfl, r1, r2⟩ := r.inv
  rw [r2.inv0, rep_str_inv r1]
  exact ⟨_, rfl, rfl, okI S h⟩
abbrev DO := Env' → Mem → Out (Option Int)
def dNoPart : DO := fun _ M => .ok none M
def dPart (de : DE) : DO := fun r M => (de r M).bind fun d M1 => match d with
  | .int i => .ok (some i) M1
  | _ => .no
def SimO (K : Frg) (W : WX) (t : TO) (do_ : DO) : Prop := ∀ φ M H σ r (Q : Option Int → Hp → Prop), Sto K φ M H → EnvR K φ H r σ → Okd K φ H (fun _ _ a b => b = a) (do_ r M) Q (fun c d H' => W c d σ H') → t σ H Q
def DOx (X : Cx) (W : WX) (e : Option Expr) (do_ : DO) : Prop := ∃ t, PO X e t ∧ SimO X.K W t do_
def cutD (ds : List D) (lo hi : Option Int) : List D := (ds.drop (HT.sIx ds.length 0 lo)).take (HT.sIx ds.length ds.length hi - HT.sIx ds.length 0 lo)
/-- a part of a text, of a row: lists are new ones that stay -/
def fSl (x : D) (lo hi : Option Int) (M : Mem) : Out D := match x with
  | .str s => (match lineB s.length with
    | true => .ok (.str (Txt.slice s lo hi)) M
    | false => .no)
  | .tup ds => .ok (.tup (cutD ds lo hi)) M
  | .lst ds => .ok (.lst (cutD ds lo hi)) M
  | .obj n => (match M[n]? with
    | some (.lst ds) => .ok (.lst (cutD ds lo hi)) M
    | some (.ro ds) => .ok (.lst (cutD ds lo hi)) M
    | _ => .no)
  | _ => .no
def dSl (da : DE) (lo hi : DO) : DE := fun r M => (da r M).bind fun x M1 => (lo r M1).bind fun l M2 => (hi r M2).bind fun h M3 => fSl x l h M3
section
variable {X : Cx} {W : WX} {pos p2 : Pos}
theorem do_none : DOx X W none dNoPart := ⟨_, po_none, fun φ M H σ r Q S E h => h none φ H Grow.refl S rfl⟩
theorem do_some {e : Expr} {de : DE} (h : DEx X W e de) : DOx X W (some e) (dPart de) := by
  obtain ⟨_, p, s⟩ := h
  refine ⟨_, po_some p, fun φ M H σ r Q S E h => ?_⟩
  refine s φ M H σ r _ S E (Okd.bind h fun d M1 v φ1 H1 _ g1 S1 rv h1 => ?_)
  cases d with
  | int i => exact ⟨i, rep_int_inv rv, h1 (some i) φ1 H1 Grow.refl S1 rfl⟩
  | _ => exact h1.elim
def rSlAll (K : Frg) : V → Option Int → Option Int → Hp → VK → Prop := fun x lo hi H Q => (C8.rSlX x lo hi H Q ∨ rSlL K x lo hi H Q) ∨ rSlA K x lo hi H Q
theorem sl_all : SlR X (rSlAll X.K) := SlR.or (SlR.or C8.sl_txt sl_list) sl_tupA
theorem cut_rep {K : Frg} {φ : Wd} {H : Hp} {ds : List D} {xs : List V} {lo hi : Option Int} (r : RepL K φ H ds xs) : RepL K φ H (cutD ds lo hi) (cutV xs lo hi) := by
  unfold cutD cutV
  rw [r.len]
  exact RepL.take _ (RepL.drop _ r)
theorem cut_all {α : Type} {xs : List α} {lo hi : Option Int} (h : HT.sIx xs.length 0 lo = 0 ∧ HT.sIx xs.length xs.length hi = xs.length) : (xs.drop (HT.sIx xs.length 0 lo)).take (HT.sIx xs.length xs.length hi - HT.sIx xs.length 0 lo) = xs := by
  rw [h.1, h.2, List.drop_zero, Nat.sub_zero, List.take_length]
theorem fSl_sim {K : Frg} {φ : Wd} {M : Mem} {H : Hp} {x : D} {v : V} {lo hi : Option Int} {Q : VK} {E : XK} (S : Sto K φ M H) (rv : Rep K φ H x v) (h : Okd K φ H (RE K) (fSl x lo hi M) Q E) : rSlAll K v lo hi H Q := by
  have lst : ∀ (a : Addr) (xs : List V) (ds : List D), SqL K H a xs → RepL K φ H ds xs → Okd K φ H (RE K) (.ok (.lst (cutD ds lo hi)) M) Q E → v = .ref a → rSlAll K v lo hi H Q := fun a xs ds h1 h2 h3 e =>
    .inl (.inr ⟨a, xs, e, h1, fun p hp => h3 _ _ _ (Grow.new hp) (S.new hp) (rep_lst_new S hp (cut_rep h2))⟩)
  cases x with
  | str s =>
    have h : Okd K φ H (RE K) (match lineB s.length with
      | true => .ok (.str (Txt.slice s lo hi)) M
      | false => .no) Q E := h
    cases q : lineB s.length with
    | false => rw [q] at h; exact h.elim
    | true => rw [q] at h; exact .inl (.inl ⟨s, rep_str_inv rv, lineB_ok q, okT S h⟩)
  | tup ds =>
    unfold Rep at rv
    obtain ⟨a, xs, rfl, h1, h2⟩ := rv
    refine .inr ⟨a, xs, rfl, h1.sq, fun hw => ?_, fun hn p hp => h _ _ _ (Grow.new hp) (S.new hp) (rep_tup_new S hp (cut_rep h2))⟩
    rw [h2.len] at hw
    have e : cutD ds lo hi = ds := cut_all hw
    have h : Okd K φ H (RE K) (.ok (.tup (cutD ds lo hi)) M) Q E := h
    rw [e] at h
    refine h.here S ?_
    unfold RE Rep
    exact ⟨a, xs, rfl, h1, h2⟩
  | lst ds =>
    unfold Rep at rv
    obtain ⟨a, xs, rfl, h1, h2⟩ := rv
    exact lst a xs ds h1.sq h2 h rfl
  | obj n =>
    unfold Rep at rv
    obtain ⟨a, ha, rfl⟩ := rv
    unfold fSl at h
    dsimp only at h
    split at h
    · rename_i ds q
      obtain ⟨xs, h1, h2⟩ := S.ob n a _ ha q
      exact lst a xs ds (.inl (.inl h1)) h2 h rfl
    · rename_i ds q
      obtain ⟨xs, h1, h2⟩ := S.ob n a _ ha q
      exact lst a xs ds (.inl h1) h2 h rfl
    · exact h.elim
  | _ => exact h.elim
theorem de_sl {e : Expr} {lo hi : Option Expr} {da : DE} {dl dh : DO} (he : DEx X W e da) (hl : DOx X W lo dl) (hh : DOx X W hi dh) : DEx X W (.Subscript e (.Slice lo hi none p2) pos) (dSl da dl dh) := by
  obtain ⟨_, p1, s1⟩ := he
  obtain ⟨_, p2, s2⟩ := hl
  obtain ⟨_, p3, s3⟩ := hh
  refine ⟨_, pe_slice sl_all p1 p2 p3, fun φ M H σ r Q S E h => ?_⟩
  refine s1 φ M H σ r _ S E (Okd.bind h fun x M1 v φ1 H1 _ g1 S1 rv h1 => ?_)
  refine s2 φ1 M1 H1 σ r _ S1 (E.grow g1) (Okd.bind h1 fun l M2 l' φ2 H2 _ g2 S2 rl h2 => ?_)
  refine s3 φ2 M2 H2 σ r _ S2 ((E.grow g1).grow g2) (Okd.bind h2 fun u M3 u' φ3 H3 _ g3 S3 ru h3 => ?_)
  have rl : l' = l := rl
  have ru : u' = u := ru
  subst rl ru
  exact fSl_sim S3 (Rep.grow (g2.trans g3) _ _ rv) h3
end
end LF
set_option Elab.async false
set_option linter.all false
set_option maxRecDepth 100000
set_option maxHeartbeats 4000000
namespace LF
open PySem PySem.Spec PyProof.Rows L2
def fAddI : F2 := fI2 yes2 fun i j => .int (i + j)
def fSubI : F2 := fI2 yes2 fun i j => .int (i - j)
theorem o_ip {K : Frg} {g : Int → Int → Int} : Op2 K (ipI g) (fI2 yes2 fun i j => .int (g i j)) := by
  intro φ M H x y a b Q W S ra rb h
  cases a with
  | int i =>
    cases b with
    | int j => exact ⟨i, j, rep_int_inv ra, rep_int_inv rb, okI S h⟩
    | _ => exact h.elim
  | _ => cases b <;> exact h.elim
section
variable {r : Env'} {M : Mem} {i j : Int} {s t : Str} {x y d : D} {ds : List D} {b c : Bool} {e : Exn}
@[simp] theorem fAddI_int : fAddI (.int i) (.int j) M = .ok (.int (i + j)) M := rfl
@[simp] theorem fSubI_int : fSubI (.int i) (.int j) M = .ok (.int (i - j)) M := rfl
@[simp] theorem fLtX_int : fLtX (.int i) (.int j) M = .ok (.bl (decide (i < j))) M := rfl
@[simp] theorem fLeX_int : fLeX (.int i) (.int j) M = .ok (.bl (decide (i ≤ j))) M := rfl
@[simp] theorem fGtX_int : fGtX (.int i) (.int j) M = .ok (.bl (decide (j < i))) M := rfl
@[simp] theorem fGeX_int : fGeX (.int i) (.int j) M = .ok (.bl (decide (j ≤ i))) M := rfl
@[simp] theorem fLtX_str : fLtX (.str s) (.str t) M = .ok (.bl (strLt s t)) M := rfl
@[simp] theorem fLeX_str : fLeX (.str s) (.str t) M = .ok (.bl (!strLt t s)) M := rfl
@[simp] theorem fGtX_str : fGtX (.str s) (.str t) M = .ok (.bl (strLt t s)) M := rfl
@[simp] theorem fGeX_str : fGeX (.str s) (.str t) M = .ok (.bl (!strLt s t)) M := rfl
theorem strLt_tx (a b : List Nat) : strLt (tx a) (tx b) = decide (a < b) := rfl
theorem strLt_one (a b : Nat) : strLt (tx [a]) (tx [b]) = decide (a < b) := by
  rw [strLt_tx]
  have e : ([a] < [b]) ↔ a < b := by
    rw [List.cons_lt_cons_iff]
    simp
  exact decide_eq_decide.mpr e
@[simp] theorem fOrd_one {k : Nat} : fOrd [.str (tx [k])] M = .ok (.int (k : Nat)) M := rfl
theorem fAll_of {bs : List Bool} (h : blsOf ds = some bs) : fAll [.lst ds] M = .ok (.bl (bs.all id)) M := by
  unfold fAll
  dsimp only
  rw [h]
theorem blsOf_map {α : Type} {f : α → Bool} : ∀ l : List α, blsOf (l.map fun a => .bl (f a)) = some (l.map f)
  | [] => rfl
  | a :: l => by simp only [List.map_cons, blsOf, blsOf_map l, Option.map_some]
def itESK (o : Out D) : Out Src := o.bind fun d M1 => match d with
  | .str s => .ok ⟨pairsS s, anyM⟩ M1
  | _ => .no
@[simp] theorem dItES_ev {da : DE} : dItES da r M = itESK (da r M) := rfl
@[simp] theorem itESK_str : itESK (.ok (.str s) M) = .ok ⟨pairsS s, anyM⟩ M := rfl
@[simp] theorem itSK_str : itSK (.ok (.str s) M) = .ok ⟨signs s, anyM⟩ M := rfl
@[simp] theorem dNoPart_ev : dNoPart r M = .ok none M := rfl
def partK (o : Out D) : Out (Option Int) := o.bind fun d M1 => match d with
  | .int i => .ok (some i) M1
  | _ => .no
@[simp] theorem dPart_ev {da : DE} : dPart da r M = partK (da r M) := rfl
@[simp] theorem partK_ok : partK (.ok (.int i) M) = .ok (some i) M := rfl
def slK3 (x : D) (l : Option Int) (o : Out (Option Int)) : Out D := o.bind fun h M3 => fSl x l h M3
def slK2 (x : D) (o : Out (Option Int)) (hi : DO) (r : Env') : Out D := o.bind fun l M2 => slK3 x l (hi r M2)
def slK1 (o : Out D) (lo hi : DO) (r : Env') : Out D := o.bind fun x M1 => slK2 x (lo r M1) hi r
@[simp] theorem dSl_ev {da : DE} {lo hi : DO} : dSl da lo hi r M = slK1 (da r M) lo hi r := rfl
@[simp] theorem slK1_ok {lo hi : DO} : slK1 (.ok x M) lo hi r = slK2 x (lo r M) hi r := rfl
@[simp] theorem slK2_ok {hi : DO} {l : Option Int} : slK2 x (.ok l M) hi r = slK3 x l (hi r M) := rfl
@[simp] theorem slK3_ok {l h : Option Int} : slK3 x l (.ok h M) = fSl x l h M := rfl
def cutN {α : Type} (l : List α) (lo hi : Option Int) : List α := (l.drop (HT.sIx l.length 0 lo)).take (HT.sIx l.length l.length hi - HT.sIx l.length 0 lo)
theorem fSl_tx {l : List Nat} {lo hi : Option Int} (h : l.length ≤ 100000) : fSl (.str (tx l)) lo hi M = .ok (.str (tx (cutN l lo hi))) M := by
  unfold fSl
  dsimp only
  rw [lineB_of (by simpa using h)]
  dsimp only
  rw [← C8.cutS_slice]
  rfl
@[simp] theorem fSl_tup {lo hi : Option Int} : fSl (.tup ds) lo hi M = .ok (.tup (cutN ds lo hi)) M := rfl
@[simp] theorem fSl_lst {lo hi : Option Int} : fSl (.lst ds) lo hi M = .ok (.lst (cutN ds lo hi)) M := rfl
theorem cutN_to {α : Type} {l : List α} {k : Nat} (h : k ≤ l.length) : cutN l none (some (k : Int)) = l.take k := by
  unfold cutN
  rw [HT.sIx_none, HT.sIx_nat, List.drop_zero, Nat.sub_zero, Nat.min_eq_left h]
theorem cutN_from {α : Type} {l : List α} {k : Nat} (h : k ≤ l.length) : cutN l (some (k : Int)) none = l.drop k := by
  unfold cutN
  rw [HT.sIx_none, HT.sIx_nat, Nat.min_eq_left h]
  exact List.take_of_length_le (by simp)
def augK (i : Nat) (f : F2) (x : D) (o : Out D) (r : Env') : SO := o.bindS r fun y M1 => match f x y M1 with
  | .ok z M2 => .nx (r.set i (some z)) M2
  | _ => .no
@[simp] theorem augK_add {k : Nat} : augK k fAddI (.int i) (.ok (.int j) M) r = .nx (r.set k (some (.int (i + j)))) M := rfl
@[simp] theorem augK_sub {k : Nat} : augK k fSubI (.int i) (.ok (.int j) M) r = .nx (r.set k (some (.int (i - j)))) M := rfl
@[simp] theorem dItL_ev {da : DE} : dItL da r M = ((da r M).bind fun d M1 => match d with
  | .lst ds => .ok ⟨ds, anyM⟩ M1
  | .obj n => (match M1[n]? with
    | some (.lst ds) => .ok ⟨ds, fun M => isAt M n (.lst ds)⟩ M1
    | some (.ro ds) => .ok ⟨ds, fun M => isAt M n (.ro ds)⟩ M1
    | _ => .no)
  | _ => .no) := rfl
end
end LF
set_option Elab.async false
set_option linter.all false
set_option maxRecDepth 100000
set_option maxHeartbeats 4000000
namespace LF
open PySem PySem.Spec PyProof.Rows L2
/-- own classes: the class, the names of its instances' fields -/
abbrev ITab := List (Str × List Str)
structure IFacts (K : Frg) (T : ITab) : Prop where
  cls : ∀ p ∈ T, Cls K (He.ga K p.1)
  noat : ∀ p ∈ T, ∀ f ∈ p.2, NoAttr K (He.ga K p.1) f
def itB (T : ITab) (K : Frg) : Bool := T.all fun p => (He.Fa.cls p.1).ok K && p.2.all fun f => (He.Fa.noat p.1 f).ok K
theorem itB_ok {T : ITab} {K : Frg} (h : itB T K = true) : IFacts K T := by
  have h := List.all_eq_true.mp h
  exact ⟨fun p hp => He.cls_ok (He.ba (h p hp)).1, fun p hp f hf => He.noat_ok (List.all_eq_true.mp (He.ba (h p hp)).2 f hf)⟩
def okF (T : ITab) (f : Str) (c : Str) : Bool := T.any fun p => p.1 == c && p.2.contains f
theorem IFacts.fld {K : Frg} {T : ITab} (F : IFacts K T) {f c : Str} (h : okF T f c = true) : Cls K (He.ga K c) ∧ NoAttr K (He.ga K c) f := by
  obtain ⟨p, hp, e⟩ := List.any_eq_true.mp h
  obtain ⟨a, b⟩ := p
  obtain ⟨e1, e2⟩ := Bool.and_eq_true_iff.mp e
  have e1 : a = c := beq_iff_eq.mp e1
  subst e1
  exact ⟨F.cls _ hp, F.noat _ hp f (by simpa using e2)⟩
def fAttr (ok : Str → Bool) (f : Str) : F1 := fun x M => match x with
  | .obj n => (match M[n]? with
    | some (.ins c fs) => (match ok c with
      | true => liftO (fs.lookup f) M
      | false => .no)
    | _ => .no)
  | _ => .no
theorem fAttr_inv {K : Frg} {φ : Wd} {H : Hp} {Q : VK} {W : XK} {ok : Str → Bool} {f : Str} {x : D} {M : Mem} (h : Okd K φ H (RE K) (fAttr ok f x M) Q W) : ∃ n c fs d, x = .obj n ∧ M[n]? = some (.ins c fs) ∧ ok c = true ∧ fs.lookup f = some d ∧ Okd K φ H (RE K) (.ok d M) Q W := by
  unfold fAttr at h
  split at h
  · rename_i n
    split at h
    · rename_i c fs e
      split at h
      · rename_i q
        cases l : fs.lookup f with
        | none => rw [l] at h; exact h.elim
        | some d => rw [l] at h; exact ⟨n, c, fs, d, rfl, e, q, l, h⟩
      · exact h.elim
    · exact h.elim
  · exact h.elim
section
variable {X : Cx} {W : WX} {pos : Pos}
theorem de_attr {e : Expr} {f : Str} {da : DE} {ok : Str → Bool} (hok : ∀ c, ok c = true → Cls X.K (He.ga X.K c) ∧ NoAttr X.K (He.ga X.K c) f) (he : DEx X W e da) (hb : attributeBase e f X.env (eval e X.env) = eval e X.env := by rfl) : DEx X W (.Attribute e f pos) (dUn (fAttr ok f) da) := by
  obtain ⟨_, p, s⟩ := he
  refine ⟨_, pe_fld p hb, fun φ M H σ r Q S E h => ?_⟩
  refine s φ M H σ r _ S E (Okd.bind h fun d M1 v φ1 H1 _ g1 S1 rv h1 => ?_)
  obtain ⟨n, c, fs, y, rfl, e, q, l, h1⟩ := fAttr_inv h1
  unfold RE Rep at rv
  obtain ⟨a, ha, rfl⟩ := rv
  obtain ⟨dx, fv, h2, h3⟩ := S1.ob n a _ ha e
  obtain ⟨w, l2, r2⟩ := h3.lookup.2 y l
  obtain ⟨c1, c2⟩ := hok c q
  exact ⟨a, _, dx, fv, w, rfl, h2, c1, c2, l2, h1.here S1 r2⟩
end
def putAttr (ok : Str → Bool) (f : Str) (o v : D) (r : Env') (M : Mem) : SO := match o with
  | .obj n => (match M[n]? with
    | some (.ins c fs) => (match ok c && Nat.blt fs.length 1000 with
      | true => .nx r (M.set n (.ins c (putFD f v fs)))
      | false => .no)
    | _ => .no)
  | _ => .no
theorem putAttr_inv {K : Frg} {φ : Wd} {H : Hp} {E : Ends} {W : WX} {ok : Str → Bool} {f : Str} {x y : D} {r : Env'} {M : Mem} (h : OkS K φ H (putAttr ok f x y r M) E W) : ∃ n c fs, x = .obj n ∧ M[n]? = some (.ins c fs) ∧ ok c = true ∧ fs.length < 1000 ∧ OkS K φ H (.nx r (M.set n (.ins c (putFD f y fs)))) E W := by
  unfold putAttr at h
  split at h
  · rename_i n
    split at h
    · rename_i c fs e
      split at h
      · rename_i q
        obtain ⟨q1, q2⟩ := Bool.and_eq_true_iff.mp q
        exact ⟨n, c, fs, rfl, e, q1, Nat.le_of_ble_eq_true q2, h⟩
      · exact h.elim
    · exact h.elim
  · exact h.elim
def dAttrPut (ok : Str → Bool) (f : Str) (do_ dv : DE) : DS := fun r M => (dv r M).bindS r fun v M1 => (do_ r M1).bindS r fun o M2 => putAttr ok f o v r M2
section
variable {X : Cx} {W : WX} {pos pos' : Pos}
theorem ds_attr {o value : Expr} {f : Str} {da dv : DE} {ok : Str → Bool} (hok : ∀ c, ok c = true → Cls X.K (He.ga X.K c) ∧ NoAttr X.K (He.ga X.K c) f) (ho : DEx X W o da) (hv : DEx X W value dv) (hs : swapsWith value (some (.Attribute o f pos')) pos.line X.env = pure false := by rfl) :
    DSx X W (.Assign [.Attribute o f pos'] value pos) (dAttrPut ok f da dv) := by
  obtain ⟨_, p1, s1⟩ := ho
  obtain ⟨_, p2, s2⟩ := hv
  refine ⟨_, ps_fld p1 p2 hs, fun φ M H σ r E S er h => ?_⟩
  refine s2 φ M H σ r _ S er (OkS.bind er h fun z M1 v φ1 H1 _ g1 S1 rv h1 => ?_)
  refine s1 φ1 M1 H1 σ r _ S1 (er.grow g1) (OkS.bind (er.grow g1) h1 fun x M2 u φ2 H2 _ g2 S2 ru h2 => ?_)
  obtain ⟨n, c, fs, rfl, e, q1, q2, h2⟩ := putAttr_inv h2
  have rv : Rep X.K φ2 H2 z v := Rep.grow g2 _ _ rv
  unfold RE Rep at ru
  obtain ⟨a, ha, rfl⟩ := ru
  obtain ⟨dx, fv, h3, h4⟩ := S2.ob n a _ ha e
  obtain ⟨c1, c2⟩ := hok c q1
  refine ⟨a, _, dx, fv, rfl, h3, c1, c2, by rw [h4.len]; exact q2, ?_⟩
  have gp : Grow φ2 H2 φ2 (upd H2 a (.ins (He.ga X.K c) dx (L2.putF f v fv))) := Grow.put (List.mem_of_getElem? ha) (fun ob u z => by rw [h3] at z; cases z)
  exact h2 σ φ2 _ gp (S2.put ha ⟨dx, _, upd_same, RepK.putF (Rep.grow gp _ _ rv) (RepK.mo gp.mo h4)⟩) ((er.grow (g1.trans g2)).grow gp)
end
/-- a class's making: n the parameters of __init__, F what it does -/
structure MakeOk (md : Md) (P : Program) (w : World) (K : Frg) (mg : Str → Option Value) (base : Heap) (k : Nat) (c : Str) (n : Nat) (F : FN) : Prop where
  ex : ∃ f fd ps, mg c = some (.ref (He.ga K c)) ∧ Mk K (He.ga K c) f ∧ Binds K fd ps [] ∧ FnOk P w K mg base (CXm md P w) k f fd ps (SpD K n F)
def dMake (c : Str) (n : Nat) (F : FN) (da : DA) : DE := fun r M => (da r M).bind fun ds M1 => match Nat.beq (ds.length + 1) n with
  | true => (F (.obj M1.length :: ds) (M1 ++ [.ins c []])).bind fun v M2 => match v with
    | .non => .ok (.obj M1.length) M2
    | _ => .no
  | false => .no
section
variable {X : Cx} {W : WX} {p pos : Pos} {x : Str} {e : Expr} {es : List Expr} {dr : DA} {k n : Nat} {F : FN}
/-- what a making needs of the heap -/
def tMakeD (K : Frg) (W : WX) (c : Str) (n : Nat) (F : FN) (t : TA) : TE := fun σ H Q => t σ H fun vs H1 => ∀ x dx, H1 x = none → H1 dx = none → dx ≠ x →
  SpD K n F (.ref x :: vs) (upd (upd H1 dx (.own x)) x (.ins (He.ga K c) dx [])) (fun v H2 => v = .non ∧ Q (.ref x) H2) (WE W σ)
theorem run_makeS {CX : CXT} {C f : Addr} {fd : FuncData} {ps : List Str} {sp : Sp} {E : L2.St → XK} {pins : List (Addr × Obj)} {σ : L2.St} {H : Hp} {s : Shared} {Q : VK} {us : List Value} {vs : List V} (M : Mk X.K C f) (G : FnOk X.prog X.w X.K X.mg X.base CX k f fd ps sp) (hr : Room (k + 1) X.A)
    (hb : Binds X.K fd ps []) (hx : PassesAt CX X σ (E σ)) (I : Inv X pins σ H s) (r : Vals vs us)
    (h : ∀ x dx, H x = none → H dx = none → dx ≠ x → sp (.ref x :: vs) (upd (upd H dx (.own x)) x (.ins C dx [])) (fun v H2 => v = .non ∧ Q (.ref x) H2) (E σ)) :
    wpAny (model X.prog X.w) X.A (PySem.call (.ref C) us) (EP X pins σ Q) X.xe s := by
  have hq := h (s.heap.objs.size + 1) s.heap.objs.size (I.hok.fresh (Nat.le_succ _)) (I.hok.fresh (Nat.le_refl _)) (Nat.ne_of_lt (Nat.lt_succ_self _))
  have J := Inv.made (C := C) I
  have r2 : Vals (V.ref (s.heap.objs.size + 1) :: vs) (Value.ref (s.heap.objs.size + 1) :: us) := .cons rfl r
  have hl : (Value.ref (s.heap.objs.size + 1) :: us).length = ps.length := by rw [← r2.length]; exact G.len _ _ _ _ hq
  have b := hb { s with heap := (s.heap.push PySem.W.emptyDict).push (PySem.W.instObj C s.heap.objs.size) } (Value.ref (s.heap.objs.size + 1) :: us) J.kIn (by rw [List.append_nil]; exact hl)
  rw [List.append_nil] at b
  refine wpAny_call (make_map (f := f) I.kIn M.makes M.init (beq_iff_eq.mp M.fn) (codeAny_mono (G.run _ X.stack _ _ _ _ _ _ (E σ) (hr.make C us []) (J.env0.make C us []) b r2 hq) fun res s2 hq2 => ?_))
  cases res with
  | error err => exact hx pins _ _ err s2 J hq2
  | ok fl =>
    cases fl with
    | ret u =>
      obtain ⟨v, H2, I3, rv, ev, q3⟩ := J.after hq2
      subst ev
      exact ⟨rv, ⟨V.ref (s.heap.objs.size + 1), H2, I3, rfl, q3⟩⟩
    | next => exact False.elim hq2
    | brk => exact False.elim hq2
    | cont => exact False.elim hq2
theorem sto_make {K : Frg} {φ : Wd} {M : Mem} {H : Hp} {x dx : Addr} {c : Str} (S : Sto K φ M H) (h1 : H x = none) (h2 : H dx = none) (ne : dx ≠ x) :
    Grow φ H (φ.add x) (upd (upd H dx (.own x)) x (.ins (He.ga K c) dx [])) ∧ Sto K (φ.add x) (M ++ [.ins c []]) (upd (upd H dx (.own x)) x (.ins (He.ga K c) dx [])) := by
  have h3 : upd H dx (.own x) x = none := by rw [upd_ne (fun z => ne z.symm)]; exact h1
  exact ⟨(Grow.new h2).trans (Grow.alloc h3), (S.new h2).alloc h3 ⟨dx, [], upd_same, RepK.nil⟩⟩
theorem sim_make {K : Frg} {c : Str} {t : TA} (ha : SimA K W t dr) : SimE K W (tMakeD K W c n F t) (dMake c n F dr) := by
  intro φ M H σ r Q S E h
  refine ha φ M H σ r _ S E (Okd.bind h fun ds M1 xs φ1 H1 _ g1 S1 r1 h1 => ?_)
  cases hn : Nat.beq (ds.length + 1) n with
  | false => rw [hn] at h1; exact h1.elim
  | true =>
    rw [hn] at h1
    dsimp only at h1
    intro x dx n1 n2 ne
    obtain ⟨g, S2⟩ := sto_make (c := c) S1 n1 n2 ne
    refine ⟨_, _, .obj M1.length :: ds, Nat.eq_of_beq_eq_true hn, S2, RepL.cons (rep_obj_new S1.len) (RepL.grow g _ _ r1), ?_⟩
    refine Okd.bind (Okd.grow g h1) fun v M2 u φ2 H2 _ g2 S3 r3 h3 => ?_
    cases v with
    | non =>
      have h3 : Okd K φ2 H2 (RE K) (.ok (.obj M1.length) M2) Q (fun c d H' => W c d σ H') := h3
      exact ⟨rep_non_inv r3, h3.here S3 (Rep.grow g2 _ _ (rep_obj_new S1.len))⟩
    | _ => exact h3.elim
theorem de_make {md : Md} (G : MakeOk md X.prog X.w X.K X.mg X.base k x n F) (hr : Room (k + 1) X.A) (tk : Tk md X W) (hg : Gl X x) (ha : DAx X W (e :: es) dr)
    (hdb : (x == ("__debug__" : Str)) = false := by decide) (he : starEach (e :: es) X.env = (false, eval e X.env) :: starEach es X.env := by rfl) (hpl : (backTo pos (starEach es X.env)).any (·.1) = false := by rfl) :
    DEx X W (.Call (.Name x p) (e :: es) [] pos) (dMake x n F dr) := by
  obtain ⟨f, fd, ps, hm, M, hb, hF⟩ := G.ex
  obtain ⟨t, p1, s1⟩ := ha
  refine ⟨tMakeD X.K W x n F t, ⟨fun pins s σ H Q I h => ?_⟩, sim_make s1⟩
  refine wpAny_Call_Name_kw (ld_glob I hg hm ?_ hdb)
  refine PySem.W.callWith_K (h₀ := X.base) I.ok.mod.kin M.kp (thn (p1.run pos pins s σ H _ I h) fun us s1 ⟨vs, H1, I1, r, q⟩ => ⟨I1.kIn, ?_⟩) he hpl
  exact run_makeS M hF hr hb (passTk tk σ) I1 r q
end
structure MethOk (md : Md) (P : Program) (w : World) (K : Frg) (mg : Str → Option Value) (base : Heap) (k : Nat) (c m : Str) (n : Nat) (F : FN) : Prop where
  ex : ∃ f fd ps, Cls K (He.ga K c) ∧ Meth K (He.ga K c) m f ∧ Binds K fd ps [] ∧ FnOk P w K mg base (CXm md P w) k f fd ps (SpD K n F)
/-- by the object's class: how many parameters (self too), what it does -/
abbrev MTab := Str → Option (Nat × FN)
def clsOf (M : Mem) : D → Option (Str × List (Str × D))
  | .obj n => (match M[n]? with
    | some (.ins c fs) => some (c, fs)
    | _ => none)
  | _ => none
def dMeth (m : Str) (tab : MTab) (do_ : DE) (da : DA) : DE := fun r M => (do_ r M).bind fun o M1 => match clsOf M1 o with
  | some (c, fs) => (match tab c, fs.lookup m with
    | some (n, F), none => (da r M1).bind fun ds M2 => (match Nat.beq (ds.length + 1) n with
      | true => F (o :: ds) M2
      | false => .no)
    | _, _ => .no)
  | none => .no
def tMethX (K : Frg) (W : WX) (m : Str) (tab : MTab) (to : TE) (t : TA) : TE := fun σ H Q => to σ H fun x H1 => ∃ c n F a dx fs, tab c = some (n, F) ∧ x = .ref a ∧ H1 a = some (.ins (He.ga K c) dx fs) ∧ fs.lookup m = none ∧ t σ H1 fun vs H2 => SpD K n F (x :: vs) H2 Q (WE W σ)
theorem clsOf_inv {M : Mem} {o : D} {c : Str} {fs : List (Str × D)} (h : clsOf M o = some (c, fs)) : ∃ n, o = .obj n ∧ M[n]? = some (.ins c fs) := by
  unfold clsOf at h
  split at h
  · rename_i n
    split at h
    · rename_i c' fs' e
      cases h
      exact ⟨n, rfl, e⟩
    · cases h
  · cases h
section
variable {X : Cx} {W : WX} {p pos apos : Pos} {m : Str} {o e : Expr} {es : List Expr} {do_ : DE} {dr : DA} {k : Nat} {tab : MTab}
theorem sim_meth {K : Frg} {to : TE} {t : TA} (ho : SimE K W to do_) (ha : SimA K W t dr) : SimE K W (tMethX K W m tab to t) (dMeth m tab do_ dr) := by
  intro φ M H σ r Q S E h
  refine ho φ M H σ r _ S E (Okd.bind h fun x M1 v φ1 H1 _ g1 S1 r1 h1 => ?_)
  cases q1 : clsOf M1 x with
  | none => rw [q1] at h1; exact h1.elim
  | some cf =>
    obtain ⟨c, fs⟩ := cf
    rw [q1] at h1
    dsimp only at h1
    obtain ⟨n, rfl, e1⟩ := clsOf_inv q1
    cases q2 : tab c with
    | none => rw [q2] at h1; exact h1.elim
    | some nF =>
      obtain ⟨k, F⟩ := nF
      cases q3 : fs.lookup m with
      | some _ => rw [q2, q3] at h1; exact h1.elim
      | none =>
        rw [q2, q3] at h1
        dsimp only at h1
        have r1' := r1
        unfold RE Rep at r1'
        obtain ⟨a, ha2, rfl⟩ := r1'
        obtain ⟨dx, fv, h2, h3⟩ := S1.ob n a _ ha2 e1
        refine ⟨c, k, F, a, dx, fv, q2, rfl, h2, h3.lookup.1 q3, ?_⟩
        refine ha φ1 M1 H1 σ r _ S1 (E.grow g1) (Okd.bind h1 fun ds M2 vs φ2 H2 _ g2 S2 r2 h4 => ?_)
        cases hn : Nat.beq (ds.length + 1) k with
        | false => rw [hn] at h4; exact h4.elim
        | true =>
          rw [hn] at h4
          exact ⟨φ2, M2, .obj n :: ds, Nat.eq_of_beq_eq_true hn, S2, RepL.cons (Rep.grow g2 _ _ r1) r2, h4⟩
theorem de_meth0 {md : Md} {pl : Sem Bool} (ho : DEx X W o do_) (G : ∀ c n F, tab c = some (n, F) → MethOk md X.prog X.w X.K X.mg X.base k c m n F) (hr : Room k X.A) (tk : Tk md X W)
    (ht : eval (.Call (.Attribute o m apos) [] [] pos) X.env = (do
      let ov ← eval o X.env
      standAt apos.atName
      let (f, first) ← holding [ov] (getMethod ov m pl)
      callWith pos f first (backTo pos (starEach [] X.env)) (backToKw pos (keywordEach [] X.env))) := by rfl) :
    DEx X W (.Call (.Attribute o m apos) [] [] pos) (dMeth m tab do_ dNil) := by
  obtain ⟨to, p1, s1⟩ := ho
  refine ⟨tMethX X.K W m tab to tNil, ⟨fun pins s σ H Q I h => ?_⟩, sim_meth s1 (fun φ M H σ r Q S E h => h.here S RepL.nil)⟩
  refine PySem.W.methodCall_KW (pl := pl) (thn (p1.run pins s σ H _ I h) fun u s1 ⟨x, H1, I1, rx, c, n, F, a, dx, fs, et, ex, ea, l, q⟩ => ?_) ht
  subst ex
  obtain rfl : u = Value.ref a := rx
  obtain ⟨f, fd, ps, cl, hm, hb, hF⟩ := (G c n F et).ex
  refine getmeth_ok I1 ea cl hm l ?_
  exact PySem.W.callWith_K0 (first := [.ref a]) I1.kIn hm.kp (run_fnS (us := [.ref a]) (vs := [.ref a]) hF hr hb (passTk tk σ) I1 (.cons rfl .nil) q)
end
end LF
set_option Elab.async false
set_option linter.all false
set_option maxRecDepth 100000
set_option maxHeartbeats 4000000
namespace LF
open PySem PySem.Spec PyProof.Rows L2
/-- what the top says of the class above whose __init__ is called by name -/
structure BaseC (K : Frg) (B : Addr) : Prop where
  sg : PySem.W.specialIn K (.ref B) "__getattribute__" = some (some (.builtin "type.__getattribute__"))
  rd : PySem.W.readsIn K B (.type "type") = true
  fc : PySem.W.findCls K (.ref B) (.type "type") "__init__" = some (.val (.builtin "ValueError.__init__"))
section
variable {X : Cx} {b : Str} {e : Expr} {es : List Expr} {ta : TA} {p1 p2 pos : Pos}
theorem pe_ownInit {pl : Sem Bool} (T : BaseC X.K (He.ga X.K b)) (hg : Gl X b) (hm : X.mg b = some (.ref (He.ga X.K b))) (ha : PA X (e :: es) ta)
    (hc : eval (.Call (.Attribute (.Name b p1) "__init__" p2) (e :: es) [] pos) X.env = (do
      let ov ← eval (.Name b p1) X.env
      standAt p2.atName
      let (f, first) ← holding [ov] (getMethod ov "__init__" pl)
      callWith pos f first (backTo pos (starEach (e :: es) X.env)) (backToKw pos (keywordEach [] X.env))) := by rfl)
    (hdb : (b == ("__debug__" : Str)) = false := by decide) (he : starEach (e :: es) X.env = (false, eval e X.env) :: starEach es X.env := by rfl) (hpl : (backTo pos (starEach es X.env)).any (·.1) = false := by rfl) :
    PE X (.Call (.Attribute (.Name b p1) "__init__" p2) (e :: es) [] pos) (tVeI X.K ta) := by
  refine ⟨fun pins s σ H Q I h => ?_⟩
  refine PySem.W.methodCall_KW (ld_glob I hg hm ?_ hdb) hc
  refine PySem.W.method_cls I.kIn T.sg (PySem.W.cls_value I.kIn T.rd T.fc (by decide +kernel) ?_)
  show wpAny _ _ (callWith pos (Value.builtin "ValueError.__init__") [] (backTo pos (starEach (e :: es) X.env)) []) _ _ _
  refine PyProof.Rows.callWith_method1 (thn (ha.run pos pins _ σ H _ (I.tok _) h) fun us s1 ⟨vs, H1, I1, r1, a, C, ws, ev, hl, T, ea, q⟩ => ?_) he hpl
  subst ev
  cases r1 with
  | @cons _ u0 _ ur ra rr =>
    obtain rfl : u0 = Value.ref a := ra
    have hz : ur.length ≤ sizeLine := by
      have := Paired.length rr
      rw [sizeLine_eq]
      omega
    exact oinit_ok T I1 ea hz fun s2 J => ⟨.non, H1, J, rfl, q⟩
end
/-- what such an __init__ does: one field stored -/
def spExi (K : Frg) (C : Addr) (fld : Str) : Sp := fun vs H Q _ => ∃ (a : Addr) (y : V), vs = [.ref a, y] ∧ H a = some (exo a C none) ∧ ∀ dx, H dx = none → dx ≠ a → Q .non (upd (upd H dx (exd dx [(fld, y)])) a (exo a C (some dx)))
def tExi (K : Frg) (fld msg : Str) : TS := tSeq (tDrop (tVeI K (tCons (tVar 0) (tCons (tC (.str msg)) tNil)))) (tOst K fld (tVar 0) (tVar 1))
theorem exi_pure {K : Frg} {C : Addr} {fld msg : Str} {N : List Str} (hN : N.length = 2) (T : OexC K C) (hf : PySem.W.findIn K (.ref C) fld = some none) (vs : List V) (H : Hp) (Q : VK) (E : XK) (h : spExi K C fld vs H Q E) : tExi K fld msg { nx := fun _ H' => Q .non H', rt := Q } (L2.start N vs) H := by
  obtain ⟨a, y, rfl, ea, q⟩ := h
  have e : L2.start N [.ref a, y] = [some (.ref a), some y] := by
    unfold L2.start
    rw [hN]
    rfl
  rw [e]
  refine ⟨_, rfl, a, C, [.str msg], rfl, by simp, T, ea, ?_⟩
  exact ⟨y, rfl, _, rfl, a, C, rfl, T, hf, .inl ⟨ea, fun dx n ne => q dx n ne⟩⟩
/-- such a class -/
structure ExiOk (P : Program) (w : World) (K : Frg) (mg : Str → Option Value) (base : Heap) (k : Nat) (c fld : Str) : Prop where
  ex : ∃ f fd ps, mg c = some (.ref (He.ga K c)) ∧ OexC K (He.ga K c) ∧ PySem.W.findIn K (.ref (He.ga K c)) "__init__" = some (some (.ref f)) ∧ PySem.W.typeIn K (.ref f) = some (.type "function") ∧ Binds K fd ps [] ∧ (∃ u, Binds K fd ps [u] ∧ RelV .non u) ∧
    FnOk P w K mg base (L2.CX P w) k f fd ps (spExi K (He.ga K c) fld)
/-- the same without a default -/
structure Exi1 (P : Program) (w : World) (K : Frg) (mg : Str → Option Value) (base : Heap) (k : Nat) (c fld : Str) : Prop where
  ex : ∃ f fd ps, mg c = some (.ref (He.ga K c)) ∧ OexC K (He.ga K c) ∧ PySem.W.findIn K (.ref (He.ga K c)) "__init__" = some (some (.ref f)) ∧ PySem.W.typeIn K (.ref f) = some (.type "function") ∧ Binds K fd ps [] ∧
    FnOk P w K mg base (L2.CX P w) k f fd ps (spExi K (He.ga K c) fld)
theorem ExiOk.one {P : Program} {w : World} {K : Frg} {mg : Str → Option Value} {base : Heap} {k : Nat} {c fld : Str} (h : ExiOk P w K mg base k c fld) : Exi1 P w K mg base k c fld := by
  obtain ⟨f, fd, ps, h1, h2, h3, h4, h5, _, h7⟩ := h.ex
  exact ⟨f, fd, ps, h1, h2, h3, h4, h5, h7⟩
section
variable {X : Cx} {C fI : Addr} {k : Nat} {fd : FuncData} {ps : List Str} {fld : Str}
theorem pass_f : Passes (L2.CX X.prog X.w) X (fun _ _ _ => False) := fun _ _ _ _ _ _ _ ⟨_, _, _, _, _, _, _, _, _, _, _, _, z⟩ => z.elim
/-- raising, in either mode -/
theorem raiseTk {md : Md} {W : WX} {e : Expr} {t : L2.St → Hp → XK → Prop} {pos : Pos} (hc : X.calm = true) (tk : Tk md X W) (he : L2N.PMk X e t) : PS X (.Raise (some e) none pos) (fun _ σ H => t σ H fun cls d H' => W cls d σ H') := by
  exact L2N.ps_raise hc tk.n he
/-- the call makes it -/
theorem run_exi {ds : List Value} {dvs : List V} {pins : List (Addr × Obj)} {σ : L2.St} {H1 : Hp} {s1 : Shared} {us : List Value} {vs : List V} {y : V} {Q : XK} (T : OexC X.K C) (iC : PySem.W.findIn X.K (.ref C) "__init__" = some (some (.ref fI))) (tI : PySem.W.typeIn X.K (.ref fI) = some (.type "function"))
    (G : FnOk X.prog X.w X.K X.mg X.base (L2.CX X.prog X.w) k fI fd ps (spExi X.K C fld)) (hr : Room (k + 1) X.A) (hb : Binds X.K fd ps ds) (hd : Vals dvs ds) (I1 : Inv X pins σ H1 s1) (r1 : Vals vs us) (hy : vs ++ dvs = [y]) (hz : us.length ≤ 1)
    (q : ∀ d, H1 d = none → Q (.ref C) (some d) (upd H1 d (.xd [(fld, y)]))) : wpAny (model X.prog X.w) X.A (PySem.call (.ref C) us) (L2N.MkP X pins σ Q) X.xe s1 := by
  obtain ⟨nm, qn, N, bs, bm, sn, sub, ab, col, dd, k0, k1, k2, k3, k5, hC, hbm⟩ := T.cls
  obtain ⟨hp, g, dr, tk, os⟩ := s1
  have big : hp.objs.size ≤ hp.objs.size + 1 := Nat.le_succ _
  have hn : H1 (hp.objs.size + 1) = none := I1.hok.fresh big
  have old : ∀ b o, hp.get? b = some o → ((hp.push (PySem.W.kdv_tup us)).push (PySem.HandSPX.excO C hp.objs.size)).get? b = some o := fun b o e => Heap.get?_push_of_some _ (Heap.get?_push_of_some _ e)
  have new : ((hp.push (PySem.W.kdv_tup us)).push (PySem.HandSPX.excO C hp.objs.size)).get? (hp.objs.size + 1) = some (PySem.HandSPX.excO C hp.objs.size) := by heap_get
  have I2 : Inv X pins σ (upd H1 (hp.objs.size + 1) (exo (hp.objs.size + 1) C none)) ⟨(hp.push (PySem.W.kdv_tup us)).push (PySem.HandSPX.excO C hp.objs.size), g, dr, tk, os⟩ :=
    I1.laid (t' := tk) (a := hp.objs.size + 1) (o := exo (hp.objs.size + 1) C none) old big (exo_ok new)
  have r2 : Vals (V.ref (hp.objs.size + 1) :: (vs ++ dvs)) (Value.ref (hp.objs.size + 1) :: (us ++ ds)) := .cons rfl (r1.append hd)
  have sp1 : spExi X.K C fld (V.ref (hp.objs.size + 1) :: (vs ++ dvs)) (upd H1 (hp.objs.size + 1) (exo (hp.objs.size + 1) C none)) (fun v H2 => v = .non ∧ ∃ dx, H1 dx = none ∧ dx ≠ hp.objs.size + 1 ∧ H2 = upd (upd (upd H1 (hp.objs.size + 1) (exo (hp.objs.size + 1) C none)) dx (exd dx [(fld, y)])) (hp.objs.size + 1) (exo (hp.objs.size + 1) C (some dx))) (fun _ _ _ => False) := by
    rw [hy]
    refine ⟨_, y, rfl, upd_same, fun dx n ne => ⟨rfl, dx, ?_, ne, rfl⟩⟩
    rw [upd_ne ne] at n
    exact n
  have hl : (Value.ref (hp.objs.size + 1) :: us ++ ds).length = ps.length := by
    have e := r2.length
    rw [G.len _ _ _ _ sp1] at e
    exact e.symm
  have hus : us.length ≤ sizeLine := Nat.le_trans hz (by rw [sizeLine_eq]; decide)
  refine wpAny_call (PySem.HandSPX.call_own F.excBase_ValueError (fun Y => PySem.HandSPX.refsVE_contains Y bm hbm) (I1.kIn _ _ hC) (PySem.W.looks_findIn I1.kIn iC) (fun self => PySem.W.bind_fn I1.kIn self tI) hus
    (codeAny_mono (G.run _ X.stack _ _ ⟨Value.ref (hp.objs.size + 1) :: us, []⟩ (Value.ref (hp.objs.size + 1) :: (us ++ ds)) _ _ (fun _ _ _ => False) (hr.make C us []) (I2.env0.make C us []) (hb _ (Value.ref (hp.objs.size + 1) :: us) I2.kIn hl) r2 sp1) fun res s2 hq => ?_))
  cases res with
  | error er => exact pass_f pins σ _ _ er s2 I2 hq
  | ok fl =>
    cases fl with
    | ret u =>
      obtain ⟨v, H2, os2, bare2, un2, hok2, rv, ev, dx, hd1, ne, eH⟩ := hq
      subst ev
      obtain ⟨h2, g2, d2, t2, os'⟩ := s2
      have ea : H2 (hp.objs.size + 1) = some (exo (hp.objs.size + 1) C (some dx)) := by rw [eH, upd_same]
      have ed : H2 dx = some (exd dx [(fld, y)]) := by rw [eH, upd_ne ne, upd_same]
      have ef : upd (del H2 (hp.objs.size + 1)) dx (.xd [(fld, y)]) = upd H1 dx (.xd [(fld, y)]) := by
        funext b
        by_cases hb1 : b = dx
        · rw [hb1, upd_same, upd_same]
        · rw [upd_ne hb1, upd_ne hb1]
          by_cases hb2 : b = hp.objs.size + 1
          · rw [hb2, del_same, hn]
          · rw [del_ne hb2, eH, upd_ne hb2, upd_ne hb1, upd_ne hb2]
      obtain ⟨t0, G2, J, kG, ge, hoe, na⟩ := mk_end0 (d2 := d2) (t2 := t2) I1 big old un2 hok2 os2 bare2 ea ed hd1
      exact ⟨rv, hp.objs.size + 1, _, _, ⟨G2, g2, d2, t2, os'⟩, _, .ref C, some dx, rfl, J, kG, ge, hoe, ⟨rfl, rfl, fun vs hv => by cases hv; rfl⟩, rfl, rfl, na, rfl, bare2, raises_own T.exC T.tyC, by rw [ef]; exact q dx hd1⟩
    | next => exact False.elim hq
    | brk => exact False.elim hq
    | cont => exact False.elim hq
end
def dRaiseI (c fld : Str) (de : DE) : DS := fun r M => (de r M).bindS r fun d M1 => .ex ⟨c, [fld], [d]⟩ r M1
theorem exi_end {K : Frg} {W : WX} {c fld : Str} {φ : Wd} {M : Mem} {H : Hp} {r : Env'} {σ : L2.St} {E : Ends} {d : D} {v : V} (S : Sto K φ M H) (er : EnvR K φ H r σ) (rv : Rep K φ H d v) (h : OkS K φ H (.ex ⟨c, [fld], [d]⟩ r M) E W) :
    ∀ a, H a = none → W (.ref (He.ga K c)) (some a) σ (upd H a (.xd [(fld, v)])) := fun a ha => by
  have g : Grow φ H φ (upd H a (.xd [(fld, v)])) := Grow.new ha
  exact h _ _ σ φ _ g (S.new ha) (er.grow g) ⟨rfl, [(fld, v)], .inr ⟨a, rfl, S.fresh ha, upd_same⟩, rfl, RepL.cons (Rep.grow g _ _ rv) .nil⟩
section
variable {X : Cx} {W : WX} {k : Nat} {x fld : Str} {p pos pos2 : Pos} {e : Expr} {de : DE}
/-- raise C() where the parameter is None by itself -/
theorem ds_raiseI0 {md : Md} (T : ExiOk X.prog X.w X.K X.mg X.base k x fld) (hc : X.calm = true) (hr : Room (k + 1) X.A) (tk : Tk md X W) (hg : Gl X x) (hdb : (x == ("__debug__" : Str)) = false := by decide) :
    DSx X W (.Raise (some (.Call (.Name x p) [] [] pos)) none pos2) (dRaiseI x fld (dC .non)) := by
  obtain ⟨f, fd, ps, hm, T1, iC, tI, _, ⟨u, hb, ru⟩, hF⟩ := T.ex
  have pm : L2N.PMk X (.Call (.Name x p) [] [] pos) (fun σ H Q => ∀ d, H d = none → Q (.ref (He.ga X.K x)) (some d) (upd H d (.xd [(fld, .non)]))) := by
    intro pins s σ H Q I h
    refine wpAny_Call_Name_kw (ld_glob I hg hm ?_ hdb)
    exact PySem.W.callWith_K0 I.kIn T1.kC (run_exi (us := []) T1 iC tI hF hr hb (.cons ru .nil) I .nil rfl (Nat.zero_le _) h)
  refine ⟨_, raiseTk hc tk pm, fun φ M H σ r E S er h => ?_⟩
  exact exi_end S er rep_non h
end
end LF
set_option Elab.async false
set_option linter.all false
set_option maxRecDepth 100000
set_option maxHeartbeats 4000000
namespace LF
open PySem PySem.Spec PyProof.Rows L2
section
variable {K : Frg} {φ : Wd} {M : Mem} {H : Hp}
/-- a row that may change stands at its place just so -/
def lstAt (M : Mem) : D → Option (Nat × List D)
  | .obj n => (match M[n]? with
    | some (.lst ds) => some (n, ds)
    | _ => none)
  | _ => none
theorem lstAt_rep {d : D} {v : V} {n : Nat} {ds : List D} (S : Sto K φ M H) (r : Rep K φ H d v) (h : lstAt M d = some (n, ds)) : ∃ a xs, v = .ref a ∧ φ.ar[n]? = some a ∧ M[n]? = some (.lst ds) ∧ H a = some (.lst xs) ∧ RepL K φ H ds xs := by
  unfold lstAt at h
  split at h
  · rename_i k
    split at h
    · rename_i es e
      cases h
      unfold Rep at r
      obtain ⟨a, ha, rfl⟩ := r
      obtain ⟨xs, h1, h2⟩ := S.ob n a _ ha e
      exact ⟨a, xs, rfl, ha, e, h1, h2⟩
    · cases h
  · cases h
/-- a list's items -/
def lstOf (M : Mem) : D → Option (List D)
  | .lst ds => some ds
  | .obj n => (match M[n]? with
    | some (.lst ds) => some ds
    | some (.ro ds) => some ds
    | _ => none)
  | _ => none
theorem lstOf_rep {d : D} {v : V} {ds : List D} (S : Sto K φ M H) (r : Rep K φ H d v) (h : lstOf M d = some ds) : ∃ a xs, v = .ref a ∧ SqL K H a xs ∧ RepL K φ H ds xs := by
  unfold lstOf at h
  split at h
  · rename_i es
    cases h
    unfold Rep at r
    obtain ⟨a, xs, rfl, h1, h2⟩ := r
    exact ⟨a, xs, rfl, h1.sq, h2⟩
  · rename_i k
    unfold Rep at r
    obtain ⟨a, ha, rfl⟩ := r
    split at h
    · rename_i es e
      cases h
      obtain ⟨xs, h1, h2⟩ := S.ob k a _ ha e
      exact ⟨a, xs, rfl, .inl (.inl h1), h2⟩
    · rename_i es e
      cases h
      obtain ⟨xs, h1, h2⟩ := S.ob k a _ ha e
      exact ⟨a, xs, rfl, .inl h1, h2⟩
    · cases h
  · cases h
end
/-- a new row: one that stays, or one of the arena -/
def newL (ar : Bool) (ds : List D) (M : Mem) : Out D := match lineB ds.length, ar with
  | true, false => .ok (.lst ds) M
  | true, true => .ok (.obj M.length) (M ++ [.lst ds])
  | false, _ => .no
theorem newL_here {K : Frg} {φ : Wd} {M : Mem} {H : Hp} {Q : VK} {W : XK} {ar : Bool} {ds : List D} {xs : List V} (S : Sto K φ M H) (r : RepL K φ H ds xs) (h : Okd K φ H (RE K) (newL ar ds M) Q W) : xs.length ≤ sizeLine ∧ ∀ p, H p = none → Q (.ref p) (upd H p (.lst xs)) := by
  cases hl : lineB ds.length with
  | false => unfold newL at h; rw [hl] at h; exact h.elim
  | true =>
    refine ⟨by rw [r.len]; exact lineB_ok hl, fun p hp => ?_⟩
    cases ar with
    | false =>
      unfold newL at h
      rw [hl] at h
      exact h _ _ _ (Grow.new hp) (S.new hp) (rep_lst_new S hp r)
    | true =>
      unfold newL at h
      rw [hl] at h
      exact h _ _ _ (Grow.alloc hp) (S.alloc hp ⟨xs, upd_same, RepL.grow (Grow.alloc hp) _ _ r⟩) (rep_obj_new S.len)
def isN : D → Bool
  | .non => true
  | _ => false
theorem isN_rep {K : Frg} {φ : Wd} {H : Hp} {d : D} {v : V} (r : Rep K φ H d v) : decide (v = .non) = isN d := by
  cases d with
  | non => rw [rep_non_inv r]; rfl
  | bl b => rw [rep_bl_inv r]; rfl
  | int i => rw [rep_int_inv r]; rfl
  | str s => rw [rep_str_inv r]; rfl
  | tup ds => unfold Rep at r; obtain ⟨a, xs, rfl, _⟩ := r; rfl
  | lst ds => unfold Rep at r; obtain ⟨a, xs, rfl, _⟩ := r; rfl
  | dic ks ds => unfold Rep at r; obtain ⟨a, xs, rfl, _⟩ := r; rfl
  | obj n => unfold Rep at r; obtain ⟨a, _, rfl⟩ := r; rfl
  | exc c ns ds => unfold Rep at r; obtain ⟨a, dd, rfl, _⟩ := r; rfl
  | ins c ns ds => unfold Rep at r; obtain ⟨a, dx, fv, rfl, _⟩ := r; rfl
def fIsN (neg : Bool) : F2 := fun x y M => match y with
  | .non => .ok (.bl (if neg then !isN x else isN x)) M
  | _ => .no
theorem o_isN {K : Frg} : Op2 K (fun x y H Q => y = .non ∧ Q (.bl (decide (x = .non))) H) (fIsN false) := by
  intro φ M H x y a b Q W S ra rb h
  cases b with
  | non => exact ⟨rep_non_inv rb, by rw [isN_rep ra]; exact okB S h⟩
  | _ => exact h.elim
theorem o_notN {K : Frg} : Op2 K (fun x y H Q => y = .non ∧ Q (.bl (!decide (x = .non))) H) (fIsN true) := by
  intro φ M H x y a b Q W S ra rb h
  cases b with
  | non => exact ⟨rep_non_inv rb, by rw [isN_rep ra]; exact okB S h⟩
  | _ => exact h.elim
def flatD : D → Bool
  | .non => true
  | .bl _ => true
  | .int _ => true
  | .str _ => true
  | _ => false
def toV : D → V
  | .bl b => .bl b
  | .int i => .int i
  | .str s => .str s
  | _ => .non
theorem flat_rep {K : Frg} {φ : Wd} {H : Hp} {d : D} {v : V} (r : Rep K φ H d v) (h : flatD d = true) : v = toV d ∧ flatV v = true := by
  cases d with
  | non => rw [rep_non_inv r]; exact ⟨rfl, rfl⟩
  | bl b => rw [rep_bl_inv r]; exact ⟨rfl, rfl⟩
  | int i => rw [rep_int_inv r]; exact ⟨rfl, rfl⟩
  | str s => rw [rep_str_inv r]; exact ⟨rfl, rfl⟩
  | _ => cases h
theorem flats_rep {K : Frg} {φ : Wd} {H : Hp} : ∀ {ds : List D} {xs : List V}, RepL K φ H ds xs → ds.all flatD = true → xs = ds.map toV ∧ xs.all flatV = true
  | [], xs, r, _ => by rw [r.inv0]; exact ⟨rfl, rfl⟩
  | d :: ds, xs, r, h => by
    obtain ⟨v, w, rfl, r1, r2⟩ := r.inv
    obtain ⟨h1, h2⟩ := Bool.and_eq_true_iff.mp (show (flatD d && ds.all flatD) = true from h)
    obtain ⟨e1, e2⟩ := flat_rep r1 h1
    obtain ⟨e3, e4⟩ := flats_rep r2 h2
    exact ⟨by rw [e1, e3]; rfl, by rw [List.all_cons, e2, e4]; rfl⟩
def fInL (neg : Bool) : F2 := fun x y M => match seqOf M y with
  | some ds => (match flatD x && ds.all flatD with
    | true => .ok (.bl (if neg then !inV (toV x) (ds.map toV) else inV (toV x) (ds.map toV))) M
    | false => .no)
  | none => .no
theorem o_inL {K : Frg} {neg : Bool} : Op2 K (rIn K neg) (fInL neg) := by
  intro φ M H x y a b Q W S ra rb h
  cases e : seqOf M b with
  | none => unfold fInL at h; rw [e] at h; exact h.elim
  | some ds =>
    unfold fInL at h
    rw [e] at h
    dsimp only at h
    cases q : flatD a && ds.all flatD with
    | false => rw [q] at h; exact h.elim
    | true =>
      rw [q] at h
      obtain ⟨q1, q2⟩ := Bool.and_eq_true_iff.mp q
      obtain ⟨p, xs, rfl, h1, h2⟩ := seq_rep S rb e
      obtain ⟨e1, e2⟩ := flat_rep ra q1
      obtain ⟨e3, e4⟩ := flats_rep h2 q2
      refine ⟨p, xs, rfl, h1, e2, e4, ?_⟩
      rw [e1, e3]
      exact okB S h
def fCat (ar : Bool) : F2 := fun x y M => match x, y with
  | .int i, .int j => .ok (.int (i + j)) M
  | .str a, .str b => (match lineB (a.length + b.length) with
    | true => .ok (.str (a ++ b)) M
    | false => .no)
  | .tup a, .tup b => (match lineB (a.length + b.length) with
    | true => .ok (.tup (a ++ b)) M
    | false => .no)
  | x, y => (match lstAt M x, lstAt M y with
    | some (_, a), some (_, b) => newL ar (a ++ b) M
    | _, _ => .no)
def rCatX (K : Frg) : R2 := fun x y H Q => (rAddX x y H Q ∨ rCatA K x y H Q) ∨ rCat x y H Q
theorem opr_cat {X : Cx} : OpR X (binaryOp .Add) (rCatX X.K) := OpR.or (r := fun x y H Q => rAddX x y H Q ∨ rCatA X.K x y H Q) (OpR.or (r := rAddX) opr_add op_catA) op_cat
theorem cat_lst {K : Frg} {ar : Bool} {φ : Wd} {M : Mem} {H : Hp} {x y : V} {a b : D} {Q : VK} {W : XK} (S : Sto K φ M H) (ra : Rep K φ H a x) (rb : Rep K φ H b y) (h : Okd K φ H (RE K) (match lstAt M a, lstAt M b with
  | some (_, a), some (_, b) => newL ar (a ++ b) M
  | _, _ => .no) Q W) : rCat x y H Q := by
  cases e1 : lstAt M a with
  | none => rw [e1] at h; exact h.elim
  | some p =>
    cases e2 : lstAt M b with
    | none => rw [e1, e2] at h; exact h.elim
    | some q =>
      obtain ⟨n, ds⟩ := p
      obtain ⟨m, es⟩ := q
      rw [e1, e2] at h
      obtain ⟨l, xs, rfl, _, _, h1, r1⟩ := lstAt_rep S ra e1
      obtain ⟨k, ys, rfl, _, _, h2, r2⟩ := lstAt_rep S rb e2
      obtain ⟨z, w⟩ := newL_here S (r1.app r2) h
      rw [List.length_append] at z
      exact ⟨l, k, xs, ys, rfl, rfl, h1, h2, z, w⟩
theorem o_cat {K : Frg} {ar : Bool} : Op2 K (rCatX K) (fCat ar) := by
  intro φ M H x y a b Q W S ra rb h
  cases a with
  | int i =>
    cases b with
    | int j => exact .inl (.inl (o_add φ M H x y (.int i) (.int j) Q W S ra rb h))
    | _ => exact .inr (cat_lst (ar := ar) S ra rb h)
  | str i =>
    cases b with
    | str j => exact .inl (.inl (o_add φ M H x y (.str i) (.str j) Q W S ra rb h))
    | _ => exact .inr (cat_lst (ar := ar) S ra rb h)
  | tup ds =>
    cases b with
    | tup es =>
      have h : Okd K φ H (RE K) (match lineB (ds.length + es.length) with
        | true => .ok (.tup (ds ++ es)) M
        | false => .no) Q W := h
      cases q : lineB (ds.length + es.length) with
      | false => rw [q] at h; exact h.elim
      | true =>
        rw [q] at h
        have ra' := ra
        have rb' := rb
        unfold Rep at ra rb
        obtain ⟨p, xs, rfl, h1, h2⟩ := ra
        obtain ⟨k, ys, rfl, h3, h4⟩ := rb
        refine .inl (.inr ⟨p, k, xs, ys, rfl, rfl, h1.sq, h3.sq, by rw [h2.len, h4.len]; exact lineB_ok q, fun e => ?_, fun _ e => ?_, fun _ _ z hz => ?_⟩)
        · have e2 : ds = [] := List.length_eq_zero_iff.mp (by rw [← h2.len, e]; rfl)
          subst e2
          exact Okd.here S rb' h
        · have e2 : es = [] := List.length_eq_zero_iff.mp (by rw [← h4.len, e]; rfl)
          subst e2
          rw [List.append_nil] at h
          exact Okd.here S ra' h
        · exact h _ _ _ (Grow.new hz) (S.new hz) (rep_tup_new S hz (h2.app h4))
    | _ => exact .inr (cat_lst (ar := ar) S ra rb h)
  | _ => exact .inr (cat_lst (ar := ar) S ra rb h)
def fRep (ar : Bool) : F2 := fun x y M => match x, y with
  | .int i, .int j => (match small64 i || small64 j with
    | true => .ok (.int (i * j)) M
    | false => .no)
  | .str s, .int j => (match small62 j && lineB (s.length * j.toNat) with
    | true => .ok (.str (Txt.mul s j)) M
    | false => .no)
  | x, .int j => (match lstAt M x, small62 j with
    | some (_, ds), true => newL ar (List.replicate j.toNat ds).flatten M
    | _, _ => .no)
  | _, _ => .no
def rTxtMul : R2 := fun x y H Q => ∃ s j, x = .str s ∧ y = .int j ∧ (-(2 ^ 62) ≤ j ∧ j < 2 ^ 62) ∧ s.length * j.toNat ≤ 100000 ∧ Q (.str (Txt.mul s j)) H
theorem opr_txtMul {X : Cx} : OpR X (binaryOp .Mult) rTxtMul := by
  intro pins s σ H x y v u Q I rx ry h
  obtain ⟨z, j, rfl, rfl, ⟨j0, j1⟩, hl, q⟩ := h
  obtain ⟨t, rfl⟩ := rx
  obtain ⟨t', rfl⟩ := ry
  have a1 : ¬ j < -(2 ^ 63 : Int) := by omega
  have a2 : ¬ j ≥ 2 ^ 63 := by omega
  refine SB.mul ⟨by rw [decide_eq_false a1, decide_eq_false a2]; rfl, fun g1 g2 g3 => ?_, fun g1 g2 => ?_⟩ fun t' k => ⟨.str (Txt.mul z j), H, I.tok k, ⟨t', rfl⟩, q⟩
  · have jp : 0 < j := by omega
    have e : ((z.length : Int)) * j ≤ 100000 := by
      have : (j.toNat : Int) = j := Int.toNat_of_nonneg (by omega)
      rw [← this, ← Int.natCast_mul]
      omega
    have g4 : (2 ^ 63 - 1 : Int) / j < z.length := g3
    have g5 := Int.lt_mul_of_ediv_lt jp g4
    omega
  · unfold Builtin.Str.tooLong
    exact decide_eq_false (by rw [sizeLine_eq]; omega)
def rRepX (K : Frg) : R2 := fun x y H Q => ((∃ i j, x = .int i ∧ y = .int j ∧ CMul i j ∧ Q (.int (i * j)) H) ∨ rTxtMul x y H Q) ∨ rRep x y H Q
theorem opr_rep {X : Cx} : OpR X (binaryOp .Mult) (rRepX X.K) := OpR.or (r := fun x y H Q => (∃ i j, x = .int i ∧ y = .int j ∧ CMul i j ∧ Q (.int (i * j)) H) ∨ rTxtMul x y H Q) (OpR.or (r := fun x y H Q => ∃ i j, x = .int i ∧ y = .int j ∧ CMul i j ∧ Q (.int (i * j)) H) op_mul opr_txtMul) op_rep
theorem rep_flat {K : Frg} {φ : Wd} {H : Hp} {ds : List D} {xs : List V} (r : RepL K φ H ds xs) : ∀ n : Nat, RepL K φ H (List.replicate n ds).flatten (List.replicate n xs).flatten
  | 0 => .nil
  | n + 1 => by
    rw [List.replicate_succ, List.replicate_succ, List.flatten_cons, List.flatten_cons]
    exact r.app (rep_flat r n)
theorem rep_lst {K : Frg} {ar : Bool} {φ : Wd} {M : Mem} {H : Hp} {x y : V} {a : D} {j : Int} {Q : VK} {W : XK} (S : Sto K φ M H) (ra : Rep K φ H a x) (ey : y = .int j) (h : Okd K φ H (RE K) (match lstAt M a, small62 j with
  | some (_, ds), true => newL ar (List.replicate j.toNat ds).flatten M
  | _, _ => .no) Q W) : rRep x y H Q := by
  cases e1 : lstAt M a with
  | none => rw [e1] at h; exact h.elim
  | some p =>
    obtain ⟨n, ds⟩ := p
    cases e2 : small62 j with
    | false => rw [e1, e2] at h; exact h.elim
    | true =>
      rw [e1, e2] at h
      obtain ⟨l, xs, rfl, _, _, h1, r1⟩ := lstAt_rep S ra e1
      obtain ⟨z, w⟩ := newL_here S (rep_flat r1 j.toNat) h
      obtain ⟨b0, b1⟩ := small62_ok e2
      refine ⟨l, j, xs, rfl, ey, h1, by omega, by omega, ?_, w⟩
      have e : (List.replicate j.toNat xs).flatten.length = j.toNat * xs.length := by simp
      rw [e, Nat.mul_comm] at z
      exact z
theorem o_rep {K : Frg} {ar : Bool} : Op2 K (rRepX K) (fRep ar) := by
  intro φ M H x y a b Q W S ra rb h
  cases b with
  | int j =>
    have ey := rep_int_inv rb
    cases a with
    | int i => exact .inl (.inl (o_mul φ M H x y (.int i) (.int j) Q W S ra rb h))
    | str s =>
      have h : Okd K φ H (RE K) (match small62 j && lineB (s.length * j.toNat) with
        | true => .ok (.str (Txt.mul s j)) M
        | false => .no) Q W := h
      cases q : small62 j && lineB (s.length * j.toNat) with
      | false => rw [q] at h; exact h.elim
      | true =>
        rw [q] at h
        obtain ⟨q1, q2⟩ := Bool.and_eq_true_iff.mp q
        exact .inl (.inr ⟨s, j, rep_str_inv ra, ey, small62_ok q1, Nat.le_of_ble_eq_true q2, okT S h⟩)
    | _ => exact .inr (rep_lst (ar := ar) S ra ey h)
  | _ => cases a <;> exact h.elim
end LF
set_option Elab.async false
set_option linter.all false
set_option maxRecDepth 100000
set_option maxHeartbeats 4000000
namespace LF
open PySem PySem.Spec PyProof.Rows L2
def dCompA (di : DI) (dg : DG) (dt : DT) (de : DE) (vs : List Nat) : DE := fun r M => (di r M).bind fun src M1 => (compL src.chk dg dt de (wipeD r vs) src.items [] M1).bind fun ys M2 => .ok (.obj M2.length) (M2 ++ [MO.lst ys])
theorem sim_compA {K : Frg} {W : WX} {wi : TI} {di : DI} {dg : DG} {dt : DT} {de : DE} {vs : List Nat} (hi : SimI K W wi di) : SimE K W (tLc wi (tDC K vs dg) (tDT K Wf dt) (tDE K Wf de) vs) (dCompA di dg dt de vs) := by
  intro φ M H σ r Q S E h
  refine hi φ M H σ r _ S E (Okd.bind h fun src M1 J φ1 H1 _ g1 S1 sv h1 => ?_)
  intro D hD
  have E1 := E.grow g1
  have Wk0 : Wk K φ1 H1 D (L2.wipe σ vs) (wipeD r vs) (φ1.lock D) M1 (upd H1 D (.lst [])) [] [] :=
    ⟨S1.lock hD, rfl, Grow.new hD, fun z => S1.mem z hD, upd_same, RepL.nil, Mo.lock hD, (E1.wipe vs).mo (Mo.lock hD)⟩
  refine ⟨fun i m H => m = src.items.length - i ∧ i ≤ src.items.length ∧ ∃ φ M acc xs, Wk K φ1 H1 D (L2.wipe σ vs) (wipeD r vs) φ M H acc xs ∧
    Okd K φ1 H1 (RE K) ((compL src.chk dg dt de (wipeD r vs) (src.items.drop i) acc M).bind fun ys M2 => .ok (.obj M2.length) (M2 ++ [MO.lst ys])) Q (fun c d H' => W c d σ H'), ⟨_, rfl, Nat.zero_le _, _, M1, [], [], Wk0, h1⟩, ?_⟩
  rintro i m H2 ⟨rfl, hi, φ2, M2, acc, xs, w, h2⟩
  by_cases hlt : i < src.items.length
  · have hd : src.items.drop i = src.items[i] :: src.items.drop (i + 1) := List.drop_eq_getElem_cons hlt
    rw [hd] at h2
    unfold compL at h2
    cases hc : src.chk M2 with
    | false => rw [hc] at h2; exact h2.elim
    | true =>
      rw [hc] at h2
      obtain ⟨_, sv2⟩ := sv i φ2 M2 H2 w.mo w.g.frz w.S hc
      obtain ⟨go, yl⟩ := sv2 src.items[i] (List.getElem?_eq_getElem hlt)
      refine .inr ⟨go, fun H' => ∃ φ M acc xs, Wk K φ1 H1 D (L2.wipe σ vs) (wipeD r vs) φ M H' acc xs ∧
        Okd K φ1 H1 (RE K) ((compL src.chk dg dt de (wipeD r vs) (src.items.drop (i + 1)) acc M).bind fun ys M2 => .ok (.obj M2.length) (M2 ++ [MO.lst ys])) Q (fun c d H' => W c d σ H'), fun H' n => ⟨_, by omega, rfl, hlt, n⟩, fun x H3 hy => ?_⟩
      obtain ⟨φ3, g3, S3, r3⟩ := yl x H3 hy
      -- a state that has grown
      have up : ∀ {φ4 : Wd} {H4 : Hp} {M4 : Mem}, Grow φ2 H2 φ4 H4 → Sto K φ4 M4 H4 → Wk K φ1 H1 D (L2.wipe σ vs) (wipeD r vs) φ4 M4 H4 acc xs := fun {φ4 H4 M4} g S4 =>
        ⟨S4, g.lk.trans w.lk, ⟨by
          obtain ⟨ψ, e, hψ⟩ := w.g.ext
          obtain ⟨χ, e2, hχ⟩ := g.ext
          refine ⟨ψ ++ χ, by show φ4.ar = _; rw [e2]; have e : φ2.ar = φ1.ar ++ ψ := e; rw [e, List.append_assoc], fun a ha => ?_⟩
          rcases List.mem_append.mp ha with q | q
          · exact hψ a q
          · exact w.g.dom a (hχ a q), rfl, fun a o h n t => g.stay a o (w.g.stay a o h n t) (by
            intro z
            obtain ⟨ψ, e, hψ⟩ := w.g.ext
            have e : φ2.ar = φ1.ar ++ ψ := e
            rw [e] at z
            rcases List.mem_append.mp z with q | q
            · exact n q
            · rw [hψ a q] at h; cases h) t, fun a h => w.g.dom a (g.dom a h), fun a o u h => g.frz a o u (w.g.frz a o u h)⟩,
          g.notin w.hD w.na, g.stay _ _ w.hD w.na (fun _ z => (nomatch z)), RepL.grow g _ _ w.r, w.mo.trans g.mo, w.E.grow g⟩
      refine ⟨φ3, M2, wipeD r vs, src.items[i], S3, w.E.grow g3, r3, ?_⟩
      cases q : dg src.items[i] (wipeD r vs) M2 with
      | ok r4 M4 =>
        rw [q] at h2
        dsimp only at h2
        intro σ4 φ4 H4 g4 S4 er4 w4
        refine ⟨w4.trans (wipe_idem _ _), φ4, M4, r4, S4, er4, ?_⟩
        cases q2 : dt r4 M4 with
        | ok b M5 =>
          rw [q2] at h2
          intro b' φ5 H5 g5 S5 e5
          have e5 : b' = b := e5
          subst e5
          cases b' with
          | false =>
            rw [if_neg Bool.false_ne_true]
            exact ⟨φ5, M5, acc, xs, up ((g3.trans g4).trans g5) S5, h2⟩
          | true =>
            rw [if_pos rfl]
            dsimp only at h2
            refine ⟨φ5, M5, r4, S5, er4.grow g5, ?_⟩
            cases q3 : de r4 M5 with
            | ok y M6 =>
              rw [q3] at h2
              dsimp only at h2
              intro v φ6 H6 g6 S6 r6
              have w6 := up (((g3.trans g4).trans g5).trans g6) S6
              cases q4 : lineB acc.length with
              | false => rw [q4] at h2; exact h2.elim
              | true =>
                rw [q4] at h2
                have hp : D ∈ φ6.lk := by rw [w6.lk]; exact List.mem_cons_self
                have re : Mo φ6 H6 φ6 (upd H6 D (.lst (xs ++ [v]))) := Mo.relock hp
                refine ⟨xs, w6.hD, by rw [w6.r.len]; exact lineB_lt q4, φ6, M6, acc ++ [y], xs ++ [v], ⟨w6.S.relock hp w6.na, w6.lk, ⟨w6.g.ext, rfl, fun a o h n t => ?_, fun a h => ?_, fun a o u h => by rw [upd_ne (ne_of_none h hD)]; exact w6.g.frz a o u h⟩, w6.na, upd_same, (RepL.mo re _ _ w6.r).app (.cons (Rep.mo re _ _ r6) .nil), w6.mo.trans re, w6.E.mo re⟩, h2⟩
                · rw [upd_ne (ne_of_none h hD)]; exact w6.g.stay a o h n t
                · by_cases z : a = D
                  · rw [z, upd_same] at h; cases h
                  · rw [upd_ne z] at h; exact w6.g.dom a h
            | _ => rw [q3] at h2; exact h2.elim
        | _ => rw [q2] at h2; exact h2.elim
      | _ => rw [q] at h2; exact h2.elim
  · have e : i = src.items.length := by omega
    subst e
    rw [List.drop_length] at h2
    unfold compL at h2
    cases hc : src.chk M2 with
    | false => rw [hc] at h2; exact h2.elim
    | true =>
      rw [hc] at h2
      refine .inl ⟨(sv _ φ2 M2 H2 w.mo w.g.frz w.S hc).1 rfl, ?_⟩
      have un : Mo φ2 H2 ⟨φ2.ar ++ [D], φ1.lk⟩ H2 := ⟨fun a u n e _ => ⟨⟨fun z => (List.mem_append.mp z).elim n.1 fun z => n.2 (by rw [w.lk, List.mem_singleton.mp z]; exact List.mem_cons_self), fun z => n.2 (by rw [w.lk]; exact List.mem_cons_of_mem _ z)⟩, e⟩,
        fun i a e => by
          show (φ2.ar ++ [D])[i]? = some a
          rw [List.getElem?_append_left (List.getElem?_eq_some_iff.mp e).1]
          exact e⟩
      have Su : Sto K ⟨φ2.ar ++ [D], φ1.lk⟩ (M2 ++ [.lst acc]) H2 := by
        refine ⟨by simp [w.S.len], ?_, fun a ha => w.S.lk a (by rw [w.lk]; exact List.mem_cons_of_mem _ ha), fun i a mo e1 e2 => ?_⟩
        · refine List.nodup_append.mpr ⟨w.S.nd, by simp, fun a ha b hb e => ?_⟩
          rw [List.mem_singleton.mp hb] at e
          exact w.na (e ▸ ha)
        · have e1 : (φ2.ar ++ [D])[i]? = some a := e1
          by_cases hi : i < φ2.ar.length
          · rw [List.getElem?_append_left hi] at e1
            rw [List.getElem?_append_left (by rw [← w.S.len]; exact hi)] at e2
            exact (w.S.ob i a mo e1 e2).mo un rfl
          · rw [List.getElem?_append_right (by omega)] at e1
            rw [List.getElem?_append_right (by rw [← w.S.len]; omega), ← w.S.len] at e2
            cases hk : i - φ2.ar.length with
            | zero =>
              rw [hk] at e1 e2
              simp at e1 e2
              subst e1; subst e2
              exact ⟨xs, w.hD, RepL.mo un _ _ w.r⟩
            | succ n => rw [hk] at e1; simp at e1
      have gf : Grow φ1 H1 ⟨φ2.ar ++ [D], φ1.lk⟩ H2 := by
        obtain ⟨ψ, e, hψ⟩ := w.g.ext
        have e : φ2.ar = φ1.ar ++ ψ := e
        refine ⟨⟨ψ ++ [D], by show φ2.ar ++ [D] = _; rw [e, List.append_assoc], fun a ha => ?_⟩, rfl, w.g.stay, w.g.dom, w.g.frz⟩
        rcases List.mem_append.mp ha with q | q
        · exact hψ a q
        · rw [List.mem_singleton.mp q]; exact hD
      refine h2 (.ref D) ⟨φ2.ar ++ [D], φ1.lk⟩ H2 gf Su ?_
      show Rep K _ _ _ _
      unfold Rep
      exact ⟨D, by show (φ2.ar ++ [D])[M2.length]? = some D; rw [← w.S.len]; simp, rfl⟩
section
variable {X : Cx} {W : WX} {pos : Pos}
theorem de_compA {elt tg iter : Expr} {ifs : List Expr} {scope : Scope} {own : List (Str × Nat)} {di : DI} {dg : DG} {dt : DT} {de : DE} (hc : X.calm = true) (hN : X.N.Nodup) (hi : DIx X W tg iter di) (ok : BlkOk X.N X.env.scope scope own)
    (hg : ∀ (s : Shared) (H : Hp) (C : Addr) (cl : List (Str × Addr)) (fp : List Addr), DCx (X.blk s H scope (compEnvC scope cl C X.env) fp) (own.map (·.2)) tg dg) (ht : ∀ (s : Shared) (H : Hp) (C : Addr) (cl : List (Str × Addr)) (fp : List Addr), DPx (X.blk s H scope (compEnvC scope cl C X.env) fp) Wf ifs dt)
    (he : ∀ (s : Shared) (H : Hp) (C : Addr) (cl : List (Str × Addr)) (fp : List Addr), DEx (X.blk s H scope (compEnvC scope cl C X.env) fp) Wf elt de) (hs : ∀ x, foldedSetIterable iter X.env x = pure x := by intro _; rfl) :
    DEx X W (.ListComp elt [⟨tg, iter, ifs, 0⟩] scope pos) (dCompA di dg dt de (own.map (·.2))) := by
  obtain ⟨_, p, s⟩ := hi
  exact ⟨_, pe_lc (g := tDC X.K (own.map (·.2)) dg) (tt := tDT X.K Wf dt) (te := tDE X.K Wf de) hc hN p ok (fun s H C cl fp => (hg s H C cl fp).pg) ht (fun s H C cl fp => (he s H C cl fp).pe) hs, sim_compA s⟩
theorem ds_setCompA {i : Nat} {y : Str} {py : Pos} {elt tg iter : Expr} {ifs : List Expr} {scope : Scope} {own : List (Str × Nat)} {spos : Pos} {di : DI} {dg : DG} {dt : DT} {de : DE} (hc : X.calm = true) (hN : X.N.Nodup) (hy : X.N[i]? = some y) (hyl : X.env.scope.names.lookup y = some .local)
    (hsw : swapsWith (.ListComp elt [⟨tg, iter, ifs, 0⟩] scope pos) (some (.Name y py)) spos.line X.env = pure true) (hi : DIx X W tg iter di) (ok : BlkOk X.N X.env.scope scope own)
    (hg : ∀ (s : Shared) (H : Hp) (C : Addr) (cl : List (Str × Addr)) (fp : List Addr), DCx (X.blk s H scope (compEnvC scope cl C X.env) fp) (own.map (·.2)) tg dg) (ht : ∀ (s : Shared) (H : Hp) (C : Addr) (cl : List (Str × Addr)) (fp : List Addr), DPx (X.blk s H scope (compEnvC scope cl C X.env) fp) Wf ifs dt)
    (he : ∀ (s : Shared) (H : Hp) (C : Addr) (cl : List (Str × Addr)) (fp : List Addr), DEx (X.blk s H scope (compEnvC scope cl C X.env) fp) Wf elt de) (hs : ∀ x, foldedSetIterable iter X.env x = pure x := by intro _; rfl) :
    DSx X W (.Assign [.Name y py] (.ListComp elt [⟨tg, iter, ifs, 0⟩] scope pos) spos) (dAsg (dCompA di dg dt de (own.map (·.2))) (gSlot i)) := by
  obtain ⟨_, p, s⟩ := hi
  exact ⟨_, ps_setLc (g := tDC X.K (own.map (·.2)) dg) (tt := tDT X.K Wf dt) (te := tDE X.K Wf de) hc hN hy hyl hsw p ok (fun s H C cl fp => (hg s H C cl fp).pg) ht (fun s H C cl fp => (he s H C cl fp).pe) hs, sim_asg (sim_compA s) sim_gName⟩
end
def intsOf : List D → Option (List Int)
  | [] => some []
  | .int i :: r => (intsOf r).map (i :: ·)
  | _ :: _ => none
theorem ints_rep {K : Frg} {φ : Wd} {H : Hp} : ∀ {ds : List D} {xs : List V} {ns : List Int}, RepL K φ H ds xs → intsOf ds = some ns → xs = ns.map V.int
  | [], xs, ns, r, h => by cases h; exact r.inv0
  | d :: ds, xs, ns, r, h => by
    cases d with
    | int i =>
      obtain ⟨v, w, rfl, r1, r2⟩ := r.inv
      unfold intsOf at h
      cases e : intsOf ds with
      | none => rw [e] at h; cases h
      | some l =>
        rw [e] at h; cases h
        rw [List.map_cons, rep_int_inv r1, ints_rep r2 e]
    | _ => cases h
def on1 (f : D → Mem → Out D) : FN := fun ds M => match ds with
  | [d] => f d M
  | _ => .no
theorem on1_inv {K : Frg} {φ : Wd} {H : Hp} {Q : VK} {W : XK} {f : D → Mem → Out D} {ds : List D} {M : Mem} (h : Okd K φ H (RE K) (on1 f ds M) Q W) : ∃ d, ds = [d] ∧ Okd K φ H (RE K) (f d M) Q W := by
  unfold on1 at h
  split at h
  · rename_i d
    exact ⟨d, rfl, h⟩
  · exact h.elim
def fSum : FN := on1 fun d M => match (lstOf M d).bind intsOf with
  | some ns => .ok (.int ns.sum) M
  | none => .no
theorem o_sum {K : Frg} : OpN K (rSum K) fSum := by
  intro φ M H xs ds Q W S r h
  replace h := on1_inv h
  obtain ⟨d, rfl, h⟩ := h
  obtain ⟨v, w, rfl, r1, r2⟩ := r.inv
  rw [r2.inv0]
  cases e : lstOf M d with
  | none => rw [e] at h; exact h.elim
  | some es =>
    rw [e] at h
    dsimp only [Option.bind] at h
    cases e2 : intsOf es with
    | none => rw [e2] at h; exact h.elim
    | some ns =>
      rw [e2] at h
      obtain ⟨a, ys, rfl, h1, h2⟩ := lstOf_rep S r1 e
      rw [ints_rep h2 e2] at h1
      exact ⟨a, ns, rfl, h1, okI S h⟩
def fListOf (ar : Bool) : FN := on1 fun d M => match seqOf M d with
  | some es => newL ar es M
  | none => .no
theorem o_listOf {K : Frg} {ar : Bool} : OpN K (fun xs H Q => ∃ p ys, xs = [V.ref p] ∧ (SqL K H p ys ∨ SqT K H p ys) ∧ ∀ l, H l = none → Q (.ref l) (upd H l (.lst ys))) (fListOf ar) := by
  intro φ M H xs ds Q W S r h
  replace h := on1_inv h
  obtain ⟨d, rfl, h⟩ := h
  obtain ⟨v, w, rfl, r1, r2⟩ := r.inv
  rw [r2.inv0]
  cases e : seqOf M d with
  | none => rw [e] at h; exact h.elim
  | some es =>
    rw [e] at h
    obtain ⟨a, ys, rfl, h1, h2⟩ := seq_rep S r1 e
    exact ⟨a, ys, rfl, h1, (newL_here S h2 h).2⟩
def fTupOf : FN := on1 fun d M => match d with
  | .tup ds => .ok (.tup ds) M
  | d => (match lstOf M d with
    | some es => (match lineB es.length with
      | true => .ok (.tup es) M
      | false => .no)
    | none => .no)
theorem o_tupOf {K : Frg} : OpN K (fun xs H Q => ∃ p ys, xs = [V.ref p] ∧ ((SqL K H p ys ∧ ∀ l, H l = none → Q (.ref l) (upd H l (.tup ys))) ∨ (SqT K H p ys ∧ Q (.ref p) H))) fTupOf := by
  intro φ M H xs ds Q W S r h
  replace h := on1_inv h
  obtain ⟨d, rfl, h⟩ := h
  obtain ⟨v, w, rfl, r1, r2⟩ := r.inv
  rw [r2.inv0]
  have row : Okd K φ H (RE K) (match lstOf M d with
      | some es => (match lineB es.length with
        | true => .ok (.tup es) M
        | false => .no)
      | none => .no) Q W → ∃ p ys, [v] = [V.ref p] ∧ ((SqL K H p ys ∧ ∀ l, H l = none → Q (.ref l) (upd H l (.tup ys))) ∨ (SqT K H p ys ∧ Q (.ref p) H)) := fun h => by
    cases e : lstOf M d with
    | none => rw [e] at h; exact h.elim
    | some es =>
      rw [e] at h
      dsimp only at h
      cases e2 : lineB es.length with
      | false => rw [e2] at h; exact h.elim
      | true =>
        rw [e2] at h
        obtain ⟨a, ys, rfl, h1, h2⟩ := lstOf_rep S r1 e
        exact ⟨a, ys, rfl, .inl ⟨h1, fun p hp => h _ _ _ (Grow.new hp) (S.new hp) (rep_tup_new S hp h2)⟩⟩
  cases d with
  | tup es =>
    have r1' := r1
    unfold Rep at r1
    obtain ⟨a, ys, rfl, h1, h2⟩ := r1
    have h : Okd K φ H (RE K) (.ok (.tup es) M) Q W := h
    exact ⟨a, ys, rfl, .inr ⟨h1.sq, h.here S r1'⟩⟩
  | _ => exact row h
def leS (a b : Str) : Bool := !strLt b a
theorem leS_tot (a b : Str) : (leS a b || leS b a) = true := by
  unfold leS strLt
  by_cases h : b.cps.toList < a.cps.toList
  · have h2 : ¬ a.cps.toList < b.cps.toList := fun z => List.lt_asymm h z
    simp [h2]
  · simp [h]
theorem leS_trans (a b c : Str) (h1 : leS a b = true) (h2 : leS b c = true) : leS a c = true := by
  unfold leS strLt at *
  simp only [Bool.not_eq_true', decide_eq_false_iff_not, List.not_lt] at *
  exact List.le_trans h1 h2
theorem leS_anti (a b : Str) (h1 : leS a b = true) (h2 : leS b a = true) : a = b := by
  unfold leS strLt at *
  simp only [Bool.not_eq_true', decide_eq_false_iff_not, List.not_lt] at *
  exact TL.ext_tl (List.le_antisymm h1 h2)
def sortS (xs : List Str) : List Str := xs.mergeSort leS
theorem rising_all : ∀ (r : List Str) (p : Str), risingS p r = true → (p :: r).Pairwise fun a b => leS a b = true
  | [], p, _ => by simp
  | x :: r, p, h => by
    unfold risingS at h
    obtain ⟨h1, h2⟩ := Bool.and_eq_true_iff.mp h
    have ih := rising_all r x h2
    have l1 : leS p x = true := by
      unfold leS strLt
      rw [ltCps_eq] at h1
      exact h1
    refine List.pairwise_cons.mpr ⟨fun y hy => ?_, ih⟩
    rcases List.mem_cons.mp hy with e | hy
    · rw [e]; exact l1
    · exact leS_trans _ _ _ l1 ((List.pairwise_cons.mp ih).1 y hy)
theorem sorted_all : ∀ (r : List Str), sortedS r = true → r.Pairwise fun a b => leS a b = true
  | [], _ => .nil
  | x :: r, h => rising_all r x h
theorem sort_one {ys xs : List Str} (p : ys.Perm xs) (h : sortedS ys = true) : ys = sortS xs := by
  have h1 := sorted_all ys h
  have h2 : (sortS xs).Pairwise fun a b => leS a b = true := List.pairwise_mergeSort (fun a b c => leS_trans a b c) leS_tot xs
  exact List.Perm.eq_of_pairwise (fun a b _ _ => leS_anti a b) h1 h2 (p.trans (List.mergeSort_perm xs leS).symm)
def keyStrs : List (Key × D) → Option (List Str)
  | [] => some []
  | (.inr s, _) :: r => (keyStrs r).map (s :: ·)
  | (.inl _, _) :: _ => none
theorem keyStrs_map : ∀ {kvs : List (Key × D)} {ks : List Str}, keyStrs kvs = some ks → kvs.map (·.1) = ks.map Sum.inr
  | [], ks, h => by cases h; rfl
  | (.inr s, d) :: r, ks, h => by
    unfold keyStrs at h
    cases e : keyStrs r with
    | none => rw [e] at h; cases h
    | some l =>
      rw [e] at h; cases h
      rw [List.map_cons, keyStrs_map e]
      rfl
  | (.inl _, _) :: _, _, h => by cases h
/-- texts in a list, a dict's keys: fewer than 64 -/
def textsOf (M : Mem) : D → Option (List Str)
  | .obj n => (match M[n]? with
    | some (.dic kvs) => keyStrs kvs
    | some (.lst ds) => strsOf ds
    | some (.ro ds) => strsOf ds
    | _ => none)
  | .lst ds => strsOf ds
  | _ => none
def fSorted (ar : Bool) : FN := on1 fun d M => match textsOf M d with
  | some ss => (match Nat.blt ss.length 64 with
    | true => newL ar ((sortS ss).map .str) M
    | false => .no)
  | none => .no
def rSortX (K : Frg) : List V → Hp → VK → Prop := fun vs H Q => rSortedS K vs H Q ∨ ∃ (a : Addr) (kvs : List (Key × V)) (ks : List Str), vs = [V.ref a] ∧ Rd H a (.dK kvs) ∧ kvs.map (·.1) = ks.map Sum.inr ∧ ks.length < 64 ∧
    ∀ ys p, ys.Perm ks → sortedS ys = true → H p = none → Q (.ref p) (upd H p (.lst (ys.map V.str)))
theorem c_sorted {X : Cx} (hc : X.calm = true) : CallR X (.builtin "sorted") (rSortX X.K) := CallR.or' cr_sortedS (call_sortedD hc)
theorem repL_strs {K : Frg} {φ : Wd} {H : Hp} : ∀ ss : List Str, RepL K φ H (ss.map D.str) (ss.map V.str)
  | [] => .nil
  | s :: ss => .cons rep_str (repL_strs ss)
theorem o_sorted {K : Frg} {ar : Bool} : OpN K (rSortX K) (fSorted ar) := by
  intro φ M H xs ds Q W S r h
  replace h := on1_inv h
  obtain ⟨d, rfl, h⟩ := h
  obtain ⟨v, w, rfl, r1, r2⟩ := r.inv
  rw [r2.inv0]
  cases e : textsOf M d with
  | none => rw [e] at h; exact h.elim
  | some ss =>
    rw [e] at h
    dsimp only at h
    cases e2 : Nat.blt ss.length 64 with
    | false => rw [e2] at h; exact h.elim
    | true =>
      rw [e2] at h
      have l64 : ss.length < 64 := Nat.le_of_ble_eq_true e2
      have q := (newL_here S (repL_strs (sortS ss)) h).2
      have row : ∀ (a : Addr) (ys : List V) (es : List D), SqL K H a ys → RepL K φ H es ys → strsOf es = some ss → v = .ref a → rSortX K [v] H Q := fun a ys es h1 h2 h3 ev => by
        rw [strs_rep h2 h3] at h1
        exact .inl ⟨a, ss, by rw [ev], h1, l64, fun zs p pm so hp => by rw [sort_one pm so]; exact q p hp⟩
      unfold textsOf at e
      split at e
      · rename_i n
        unfold Rep at r1
        obtain ⟨a, ha, rfl⟩ := r1
        split at e
        · rename_i kvs eM
          obtain ⟨kv, h1, h2⟩ := S.ob n a _ ha eM
          exact .inr ⟨a, kv, ss, rfl, .inl h1, by rw [h2.keys]; exact keyStrs_map e, l64, fun zs p pm so hp => by rw [sort_one pm so]; exact q p hp⟩
        · rename_i es eM
          obtain ⟨ys, h1, h2⟩ := S.ob n a _ ha eM
          exact row a ys es (.inl (.inl h1)) h2 e rfl
        · rename_i es eM
          obtain ⟨ys, h1, h2⟩ := S.ob n a _ ha eM
          exact row a ys es (.inl h1) h2 e rfl
        · cases e
      · rename_i es
        unfold Rep at r1
        obtain ⟨a, ys, rfl, h1, h2⟩ := r1
        exact row a ys es h1.sq h2 e rfl
      · cases e
end LF
set_option Elab.async false
set_option linter.all false
set_option maxRecDepth 100000
set_option maxHeartbeats 4000000
namespace LF
open PySem PySem.Spec PyProof.Rows L2
def appAt (o y : D) (M : Mem) : Out D := match lstAt M o with
  | some (n, ds) => (match lineB ds.length with
    | true => .ok .non (M.set n (.lst (ds ++ [y])))
    | false => .no)
  | none => .no
def dAppend (do_ de : DE) : DE := fun r M => (do_ r M).bind fun o M1 => match lstAt M1 o with
  | some _ => (de r M1).bind fun y M2 => appAt o y M2
  | none => .no
def popAt (o i : D) (M : Mem) : Out D := match lstAt M o, i with
  | some (n, ds), .int i => (match small62 i, ixN ds.length i with
    | true, some k => (match ds[k]? with
      | some d => .ok d (M.set n (.lst (ds.eraseIdx k)))
      | none => .no)
    | _, _ => .no)
  | _, _ => .no
def dPopAt (do_ de : DE) : DE := fun r M => (do_ r M).bind fun o M1 => match lstAt M1 o with
  | some _ => (de r M1).bind fun y M2 => popAt o y M2
  | none => .no
theorem appAt_inv {K : Frg} {φ : Wd} {H : Hp} {Q : VK} {W : XK} {o y : D} {M : Mem} (h : Okd K φ H (RE K) (appAt o y M) Q W) : ∃ n ds, lstAt M o = some (n, ds) ∧ ds.length < sizeLine ∧ Okd K φ H (RE K) (.ok .non (M.set n (.lst (ds ++ [y])))) Q W := by
  unfold appAt at h
  split at h
  · rename_i n ds e
    split at h
    · rename_i q
      exact ⟨n, ds, e, lineB_lt q, h⟩
    · exact h.elim
  · exact h.elim
theorem popAt_inv {K : Frg} {φ : Wd} {H : Hp} {Q : VK} {W : XK} {o y : D} {M : Mem} (h : Okd K φ H (RE K) (popAt o y M) Q W) : ∃ n ds i k d, lstAt M o = some (n, ds) ∧ y = .int i ∧ small62 i = true ∧ ixN ds.length i = some k ∧ ds[k]? = some d ∧ Okd K φ H (RE K) (.ok d (M.set n (.lst (ds.eraseIdx k)))) Q W := by
  unfold popAt at h
  split at h
  · rename_i n ds i e
    split at h
    · rename_i k q1 q2
      split at h
      · rename_i d q3
        exact ⟨n, ds, i, k, d, e, rfl, q1, q2, q3, h⟩
      · exact h.elim
    · exact h.elim
  · exact h.elim
theorem repL_erase {K : Frg} {φ : Wd} {H : Hp} : ∀ {ds : List D} {vs : List V} (k : Nat), RepL K φ H ds vs → RepL K φ H (ds.eraseIdx k) (vs.eraseIdx k)
  | [], vs, k, h => by rw [h.inv0]; simp [RepL.nil]
  | d :: ds, vs, 0, h => by
    obtain ⟨v, w, rfl, _, h2⟩ := h.inv
    exact h2
  | d :: ds, vs, k + 1, h => by
    obtain ⟨v, w, rfl, h1, h2⟩ := h.inv
    exact .cons h1 (repL_erase k h2)
section
variable {X : Cx} {W : WX} {pos apos : Pos} {o e : Expr} {do_ de : DE}
theorem sim_append {K : Frg} {to : TE} {te : TE} (ho : SimE K W to do_) (he : SimE K W te de) : SimE K W (tBM K "list" rAppend to (tCons te tNil)) (dAppend do_ de) := by
  intro φ M H σ r Q S E h
  refine ho φ M H σ r _ S E (Okd.bind h fun x M1 v φ1 H1 _ g1 S1 r1 h1 => ?_)
  cases q1 : lstAt M1 x with
  | none => rw [q1] at h1; exact h1.elim
  | some p =>
    obtain ⟨n0, ds0⟩ := p
    rw [q1] at h1
    obtain ⟨a, xs, rfl, _, _, h2, _⟩ := lstAt_rep S1 r1 q1
    refine ⟨.inl ⟨rfl, xs, .inl (.inl h2)⟩, ?_⟩
    refine he φ1 M1 H1 σ r _ S1 (E.grow g1) (Okd.bind h1 fun y M2 u φ2 H2 _ g2 S2 r2 h4 => ?_)
    obtain ⟨n, ds, e2, z, h5⟩ := appAt_inv h4
    obtain ⟨b, ys, eb, ha, eM, h6, h7⟩ := lstAt_rep S2 (Rep.grow g2 _ _ r1) e2
    cases eb
    refine ⟨a, ys, u, rfl, rfl, h6, by rw [h7.len]; exact z, ?_⟩
    have gp : Grow φ2 H2 φ2 (upd H2 a (.lst (ys ++ [u]))) := Grow.put (List.mem_of_getElem? ha) (fun ob u z => by rw [h6] at z; cases z)
    exact h5 .non φ2 _ gp (S2.put ha ⟨_, upd_same, (RepL.grow gp _ _ h7).app (.cons (Rep.grow gp _ _ r2) .nil)⟩) rep_non
theorem sim_popAt {K : Frg} {to : TE} {te : TE} (ho : SimE K W to do_) (he : SimE K W te de) : SimE K W (tBM K "list" rPopAt to (tCons te tNil)) (dPopAt do_ de) := by
  intro φ M H σ r Q S E h
  refine ho φ M H σ r _ S E (Okd.bind h fun x M1 v φ1 H1 _ g1 S1 r1 h1 => ?_)
  cases q1 : lstAt M1 x with
  | none => rw [q1] at h1; exact h1.elim
  | some p =>
    obtain ⟨n0, ds0⟩ := p
    rw [q1] at h1
    obtain ⟨a, xs, rfl, _, _, h2, _⟩ := lstAt_rep S1 r1 q1
    refine ⟨.inl ⟨rfl, xs, .inl (.inl h2)⟩, ?_⟩
    refine he φ1 M1 H1 σ r _ S1 (E.grow g1) (Okd.bind h1 fun y M2 u φ2 H2 _ g2 S2 r2 h4 => ?_)
    obtain ⟨n, ds, i, k, d, e2, rfl, z1, z2, z3, h5⟩ := popAt_inv h4
    obtain ⟨b, ys, eb, ha, eM, h6, h7⟩ := lstAt_rep S2 (Rep.grow g2 _ _ r1) e2
    cases eb
    obtain ⟨w, w1, w2⟩ := h7.get z3
    obtain ⟨b0, b1⟩ := small62_ok z1
    refine ⟨a, ys, i, k, w, rfl, by rw [rep_int_inv r2], h6, by omega, by omega, by rw [h7.len]; exact (ixN_seq z2).1, w1, ?_⟩
    have gp : Grow φ2 H2 φ2 (upd H2 a (.lst (ys.eraseIdx k))) := Grow.put (List.mem_of_getElem? ha) (fun ob u z => by rw [h6] at z; cases z)
    exact h5 w φ2 _ gp (S2.put ha ⟨_, upd_same, RepL.grow gp _ _ (repL_erase k h7)⟩) (Rep.grow gp _ _ w2)
theorem de_append (ho : DEx X W o do_) (he : DEx X W e de) (h1 : starEach [e] X.env = (false, eval e X.env) :: starEach [] X.env := by rfl)
    (hbase : attributeBase o "append" X.env (eval o X.env) = eval o X.env := by rfl)
    (hfew : ((backTo pos (starEach [e] X.env)).all (fun x => !x.1) && (backToKw pos (keywordEach [] X.env)).all (fun x => x.1.isSome)
      && decide ([e].length + ([] : List Keyword).length + (if ([] : List Keyword).isEmpty then 0 else 1) < 30)) = true := by rfl)
    (hline : (apos.endLine == pos.line) = true := by rfl) (hpl : (backTo pos (starEach [] X.env)).any (·.1) = false := by rfl) : DEx X W (.Call (.Attribute o "append" apos) [e] [] pos) (dAppend do_ de) := by
  obtain ⟨to, p1, s1⟩ := ho
  obtain ⟨te, p2, s2⟩ := he
  exact ⟨_, pe_bm F.plainAttrs_list F.slot_list_append F.type_list_append mt_append p1 (pa_cons p2 pa_nil h1) hbase hfew hline h1 hpl, sim_append s1 s2⟩
theorem de_popAt (ho : DEx X W o do_) (he : DEx X W e de) (h1 : starEach [e] X.env = (false, eval e X.env) :: starEach [] X.env := by rfl)
    (hbase : attributeBase o "pop" X.env (eval o X.env) = eval o X.env := by rfl)
    (hfew : ((backTo pos (starEach [e] X.env)).all (fun x => !x.1) && (backToKw pos (keywordEach [] X.env)).all (fun x => x.1.isSome)
      && decide ([e].length + ([] : List Keyword).length + (if ([] : List Keyword).isEmpty then 0 else 1) < 30)) = true := by rfl)
    (hline : (apos.endLine == pos.line) = true := by rfl) (hpl : (backTo pos (starEach [] X.env)).any (·.1) = false := by rfl) : DEx X W (.Call (.Attribute o "pop" apos) [e] [] pos) (dPopAt do_ de) := by
  obtain ⟨to, p1, s1⟩ := ho
  obtain ⟨te, p2, s2⟩ := he
  exact ⟨_, pe_bm F.plainAttrs_list F.slot_list_pop F.type_list_pop mt_popAt p1 (pa_cons p2 pa_nil h1) hbase hfew hline h1 hpl, sim_popAt s1 s2⟩
end
def rdD (M : Mem) (d : D) : D := match lstOf M d with
  | some ds => .lst ds
  | none => d
theorem rdD_dp {K : Frg} {φ : Wd} {M : Mem} {H : Hp} {d : D} {v : V} (S : Sto K φ M H) (r : Rep K φ H d v) (h : D.lay 64 (rdD M d) = true) : Dp K H v (D.pd (rdD M d)) := by
  unfold rdD at h ⊢
  cases q : lstOf M d with
  | none => rw [q] at h; exact rep_dp 64 d v h r
  | some ds =>
    rw [q] at h
    obtain ⟨a, xs, rfl, h1, h2⟩ := lstOf_rep S r q
    exact .lst h1 (repL_dp 63 ds xs (by simpa [D.lay] using h) h2)
def fEqM : F2 := fun x y M => fEq (rdD M x) (rdD M y) M
theorem fEq_inv {K : Frg} {φ : Wd} {H : Hp} {Q : VK} {W : XK} {a b : D} {M : Mem} (h : Okd K φ H (RE K) (fEq a b M) Q W) : D.lay 64 a = true ∧ D.lay 64 b = true ∧ Okd K φ H (RE K) (.ok (.bl (D.eqb a b)) M) Q W := by
  unfold fEq at h
  cases q : D.lay 64 a && D.lay 64 b with
  | false => rw [q] at h; exact h.elim
  | true =>
    rw [q] at h
    obtain ⟨h1, h2⟩ := Bool.and_eq_true_iff.mp q
    exact ⟨h1, h2, h⟩
theorem o_eqM {K : Frg} : Op2 K (rEqD K) fEqM := by
  intro φ M H x y a b Q W S ra rb h
  obtain ⟨h1, h2, h3⟩ := fEq_inv h
  refine ⟨_, _, rdD_dp S ra h1, rdD_dp S rb h2, lay_shaped h1, lay_shaped h2, ?_⟩
  rw [eqb_pd 64 64 _ _ h1 h2]
  exact okB S h3
section
variable {P : Program} {w : World} {K : Frg} {mg : Str → Option Value} {base : Heap} {c m x qual : Str} {params : Arguments} {body : List Stmt} {scope : Scope} {kws : List (Str × V)} {f : Addr} {fd : FuncData} {N ps : List Str} {k n : Nat} {b : DS}
theorem make_by {md : Md} (hm : mg c = some (.ref (He.ga K c))) (M : Mk K (He.ga K c) f) (G : FunD K x qual params body scope [] kws f fd) (S : FnScope N ps scope) (hn : ps.length = n)
    (hp : ∀ (kV doc pm : Value) (an : Option Addr) (cdv ct : Value) (us : List Value), us.length = ps.length → bindArgs (PySem.W.fnOf x qual params body scope .none kV doc pm an cdv ct) ⟨us, []⟩ = pure (ps.zip us))
    (hb : ∀ (cdv : Value) (A : Around) (outer : List Env) (s : Shared) (H : Hp) (E : XK), Room k (A.deeper (envOfC qual scope s.heap.objs.size f cdv)) → Tk md (cxOf (CXm md P w) P w K mg base N qual scope f cdv A outer s H E) (fun cls d _ H => E cls d H) →
      PassesOwn (model P w) (A.deeper (envOfC qual scope s.heap.objs.size f cdv)) (envOfC qual scope s.heap.objs.size f cdv) (cxOf (CXm md P w) P w K mg base N qual scope f cdv A outer s H E).xe →
      DBx (cxOf (CXm md P w) P w K mg base N qual scope f cdv A outer s H E) (fun cls d _ H => E cls d H) body b) : MakeOk md P w K mg base (k + 1) c n (runB N.length b) := by
  subst hn
  exact ⟨f, fd, ps, hm, M, FunD.bindsN G hp, fn_by G S hb fun _ _ _ _ => rfl⟩
theorem meth_by {md : Md} (C : Cls K (He.ga K c)) (M : Meth K (He.ga K c) m f) (G : FunD K x qual params body scope [] kws f fd) (S : FnScope N ps scope) (hn : ps.length = n)
    (hp : ∀ (kV doc pm : Value) (an : Option Addr) (cdv ct : Value) (us : List Value), us.length = ps.length → bindArgs (PySem.W.fnOf x qual params body scope .none kV doc pm an cdv ct) ⟨us, []⟩ = pure (ps.zip us))
    (hb : ∀ (cdv : Value) (A : Around) (outer : List Env) (s : Shared) (H : Hp) (E : XK), Room k (A.deeper (envOfC qual scope s.heap.objs.size f cdv)) → Tk md (cxOf (CXm md P w) P w K mg base N qual scope f cdv A outer s H E) (fun cls d _ H => E cls d H) →
      PassesOwn (model P w) (A.deeper (envOfC qual scope s.heap.objs.size f cdv)) (envOfC qual scope s.heap.objs.size f cdv) (cxOf (CXm md P w) P w K mg base N qual scope f cdv A outer s H E).xe →
      DBx (cxOf (CXm md P w) P w K mg base N qual scope f cdv A outer s H E) (fun cls d _ H => E cls d H) body b) : MethOk md P w K mg base (k + 1) c m n (runB N.length b) := by
  subst hn
  exact ⟨f, fd, ps, C, M, FunD.bindsN G hp, fn_by G S hb fun _ _ _ _ => rfl⟩
end
structure DefOkD (md : Md) (P : Program) (w : World) (K : Frg) (mg : Str → Option Value) (base : Heap) (k : Nat) (x : Str) (n : Nat) (dd : List D) (F : FN) : Prop where
  ex : ∃ f fd ps ds dvs, mg x = some (.ref f) ∧ PySem.W.keepIn K (.ref f) = true ∧ Binds K fd ps ds ∧ Vals dvs ds ∧ (∀ φ H, RepL K φ H dd dvs) ∧ FnOk P w K mg base (CXm md P w) k f fd ps (SpD K (n + dd.length) F)
def dCallD (n : Nat) (dd : List D) (F : FN) (da : DA) : DE := fun r M => (da r M).bind fun ds M1 => match Nat.beq ds.length n with
  | true => F (ds ++ dd) M1
  | false => .no
section
variable {X : Cx} {W : WX} {p pos : Pos} {x : Str} {e : Expr} {es : List Expr} {dr : DA} {k n : Nat} {dd : List D} {F : FN}
theorem de_callD {md : Md} (G : DefOkD md X.prog X.w X.K X.mg X.base k x n dd F) (hr : Room k X.A) (tk : Tk md X W) (hg : Gl X x) (ha : DAx X W (e :: es) dr)
    (hdb : (x == ("__debug__" : Str)) = false := by decide) (he : starEach (e :: es) X.env = (false, eval e X.env) :: starEach es X.env := by rfl) (hpl : (backTo pos (starEach es X.env)).any (·.1) = false := by rfl) :
    DEx X W (.Call (.Name x p) (e :: es) [] pos) (dCallD n dd F dr) := by
  obtain ⟨f, fd, ps, us, dvs, hm, kp, hb, hd, hrep, hF⟩ := G.ex
  obtain ⟨_, p1, s1⟩ := ha
  refine ⟨_, pe_callSD hF hr hg hm kp hb hd (fun σ => passTk tk σ) p1 hdb he hpl, fun φ M H σ r Q S E h => ?_⟩
  refine s1 φ M H σ r _ S E (Okd.bind h fun ds M1 xs φ1 H1 _ g1 S1 r1 h1 => ?_)
  cases hn : Nat.beq ds.length n with
  | false => rw [hn] at h1; exact h1.elim
  | true =>
    rw [hn] at h1
    have e2 := Nat.eq_of_beq_eq_true hn
    exact ⟨φ1, M1, ds ++ dd, by rw [List.length_append, e2], S1, RepL.app r1 (hrep φ1 H1), h1⟩
end
section
variable {P : Program} {w : World} {K : Frg} {mg : Str → Option Value} {base : Heap} {x qual : Str} {params : Arguments} {body : List Stmt} {scope : Scope} {f : Addr} {fd : FuncData} {N ps : List Str} {k n : Nat} {b : DS} {dvs : List V}
abbrev BodyOk (md : Md) (P : Program) (w : World) (K : Frg) (mg : Str → Option Value) (base : Heap) (qual : Str) (scope : Scope) (f : Addr) (N : List Str) (k : Nat) (body : List Stmt) (b : DS) : Prop := ∀ (cdv : Value) (A : Around) (outer : List Env) (s : Shared) (H : Hp) (E : XK), Room k (A.deeper (envOfC qual scope s.heap.objs.size f cdv)) → Tk md (cxOf (CXm md P w) P w K mg base N qual scope f cdv A outer s H E) (fun cls d _ H => E cls d H) →
      PassesOwn (model P w) (A.deeper (envOfC qual scope s.heap.objs.size f cdv)) (envOfC qual scope s.heap.objs.size f cdv) (cxOf (CXm md P w) P w K mg base N qual scope f cdv A outer s H E).xe →
      DBx (cxOf (CXm md P w) P w K mg base N qual scope f cdv A outer s H E) (fun cls d _ H => E cls d H) body b
/-- all parameters are written -/
theorem def_byA {md : Md} (hm : mg x = some (.ref f)) (G : FunD K x qual params body scope dvs [] f fd) (S : FnScope N ps scope) (hn : ps.length = n) (hd : dvs ≠ [])
    (h : ∀ (T : Addr) (kV doc pm : Value) (an : Option Addr) (cdv ct : Value) (us its : List Value), us.length = ps.length → its.length = dvs.length →
      ∃ k, bindArgs (PySem.W.fnOf x qual params body scope (.ref T) kV doc pm an cdv ct) ⟨us, []⟩ = seqItems? (.ref T) >>= k ∧ k (some its.toArray) = pure (ps.zip (us ++ its.drop dvs.length)))
    (hb : BodyOk md P w K mg base qual scope f N k body b) : DefOk md P w K mg base (k + 1) x n (runB N.length b) := by
  subst hn
  obtain ⟨ds, r, bi⟩ := FunD.binds1 G ps.length dvs.length hd (by omega) h
  rw [List.drop_length] at r
  cases r
  exact ⟨f, fd, ps, hm, G.kp, bi, fn_by G S hb fun _ _ _ _ => rfl⟩
/-- the last ones fill up -/
theorem def_byD {md : Md} {dd : List D} (hm : mg x = some (.ref f)) (G : FunD K x qual params body scope dvs [] f fd) (S : FnScope N ps scope) (hn : ps.length = n + dd.length) (hd : dvs ≠ []) (hl : dvs.length = dd.length) (hrep : ∀ φ H, RepL K φ H dd dvs)
    (h : ∀ (T : Addr) (kV doc pm : Value) (an : Option Addr) (cdv ct : Value) (us its : List Value), us.length = n → its.length = dvs.length →
      ∃ k, bindArgs (PySem.W.fnOf x qual params body scope (.ref T) kV doc pm an cdv ct) ⟨us, []⟩ = seqItems? (.ref T) >>= k ∧ k (some its.toArray) = pure (ps.zip (us ++ its.drop 0)))
    (hb : BodyOk md P w K mg base qual scope f N k body b) : DefOkD md P w K mg base (k + 1) x n dd (runB N.length b) := by
  obtain ⟨ds, r, bi⟩ := FunD.binds1 G n 0 hd (by omega) h
  rw [List.drop_zero] at r
  have q := fn_by (F := runB N.length b) G S hb fun _ _ _ _ => rfl
  rw [hn] at q
  exact ⟨f, fd, ps, ds, dvs, hm, G.kp, bi, r, hrep, q⟩
end
end LF
set_option Elab.async false
set_option linter.all false
set_option maxRecDepth 100000
set_option maxHeartbeats 4000000
namespace LF
open PySem PySem.Spec PyProof.Rows L2
def oexB (K : Frg) (C : Addr) (fld : Str) : Bool := (match K.lookup C with
  | some ⟨.type "type", _, .cls cd, sl⟩ => (match cd.mro, sl.toList with
    | .ref D :: bm, [_, _, _, _, some (.builtin n), _] => decide (D = C) && (decide (n = "ValueError.__new__") && (!cd.hasDel && (cd.hasDict && PySem.HandSPX.refsVE bm)))
    | _, _ => false)
  | _ => false) && (He.eqO (PySem.W.findIn K (.ref C) "__setattr__") (some (some (.builtin "object.__setattr__"))) && (decide (PySem.W.subIn K (.ref C) (.type "BaseException") = some true) && (decide (PySem.W.typeIn K (.ref C) = some (.type "type")) && (PySem.W.keepIn K (.ref C) &&
  He.eqO (PySem.W.findIn K (.ref C) fld) (some none)))))
theorem oexB_ok {K : Frg} {C : Addr} {fld : Str} (h : oexB K C fld = true) : OexC K C ∧ PySem.W.findIn K (.ref C) fld = some none := by
  obtain ⟨h1, h⟩ := He.ba h
  obtain ⟨h2, h⟩ := He.ba h
  obtain ⟨h3, h⟩ := He.ba h
  obtain ⟨h4, h⟩ := He.ba h
  obtain ⟨h5, h6⟩ := He.ba h
  refine ⟨⟨?_, He.eqO_ok h2, of_decide_eq_true h3, of_decide_eq_true h4, h5⟩, He.eqO_ok h6⟩
  split at h1
  · rename_i dd cd sl ho
    split at h1
    · rename_i D bm k0 k1 k2 k3 n k5 hm hs
      obtain ⟨g1, h1⟩ := He.ba h1
      obtain ⟨g2, h1⟩ := He.ba h1
      obtain ⟨g3, h1⟩ := He.ba h1
      obtain ⟨g4, g5⟩ := He.ba h1
      have g1 := of_decide_eq_true g1
      have g2 := of_decide_eq_true g2
      subst g1 g2
      obtain ⟨nm, bs, mro, ns, qn, hd, sn, sub, ab, col, del⟩ := cd
      dsimp only at hm g3 g4
      have g3 : del = false := by simpa using g3
      subst hm g3 g4
      have es : sl = #[k0, k1, k2, k3, some (.builtin "ValueError.__new__"), k5] := by
        apply Array.ext'
        rw [hs]
      subst es
      exact ⟨nm, qn, ns, bs, bm, sn, sub, ab, col, dd, k0, k1, k2, k3, k5, ho, g5⟩
    · cases h1
  · cases h1
def baseB (K : Frg) (B : Addr) : Bool := He.eqO (PySem.W.specialIn K (.ref B) "__getattribute__") (some (some (.builtin "type.__getattribute__"))) && (PySem.W.readsIn K B (.type "type") &&
  (match PySem.W.findCls K (.ref B) (.type "type") "__init__" with
    | some (.val (.builtin n)) => decide (n = "ValueError.__init__")
    | _ => false))
theorem baseB_ok {K : Frg} {B : Addr} (h : baseB K B = true) : BaseC K B := by
  obtain ⟨h1, h⟩ := He.ba h
  obtain ⟨h2, h3⟩ := He.ba h
  refine ⟨He.eqO_ok h1, h2, ?_⟩
  split at h3
  · rename_i n e
    rw [e, of_decide_eq_true h3]
  · cases h3
/-- an __init__ found by its class -/
def initB (K : Frg) (C : Addr) : Bool := He.eqO (PySem.W.findIn K (.ref C) "__init__") (some (some (.ref (He.ma K C "__init__")))) && decide (PySem.W.typeIn K (.ref (He.ma K C "__init__")) = some (.type "function"))
theorem initB_ok {K : Frg} {C : Addr} (h : initB K C = true) : PySem.W.findIn K (.ref C) "__init__" = some (some (.ref (He.ma K C "__init__"))) ∧ PySem.W.typeIn K (.ref (He.ma K C "__init__")) = some (.type "function") := by
  obtain ⟨h1, h2⟩ := He.ba h
  exact ⟨He.eqO_ok h1, of_decide_eq_true h2⟩
section
variable {P : Program} {w : World} {K : Frg} {mg : Str → Option Value} {base : Heap} {c fld msg qual : Str} {params : Arguments} {body : List Stmt} {scope : Scope} {fd : FuncData} {N ps : List Str} {k : Nat} {dvs : List V}
abbrev ExiBody (P : Program) (w : World) (K : Frg) (mg : Str → Option Value) (base : Heap) (qual : Str) (scope : Scope) (f : Addr) (N : List Str) (body : List Stmt) (t : TS) : Prop := ∀ (cdv : Value) (A : Around) (outer : List Env) (s : Shared) (H : Hp) (E : XK), PSs (cxOf (L2.CX P w) P w K mg base N qual scope f cdv A outer s H E) body t
theorem exi_fn (T : OexC K (He.ga K c)) (hf : PySem.W.findIn K (.ref (He.ga K c)) fld = some none) (G : FunD K "__init__" qual params body scope dvs [] (He.ma K (He.ga K c) "__init__") fd) (S : FnScope N ps scope) (hN : N.length = 2) (hn : ps.length = 2)
    (hb : ExiBody P w K mg base qual scope (He.ma K (He.ga K c) "__init__") N body (tExi K fld msg)) : FnOk P w K mg base (L2.CX P w) (k + 1) (He.ma K (He.ga K c) "__init__") fd ps (spExi K (He.ga K c) fld) := by
  refine G.ok S (fun vs H Q E h => ?_) (fun cdv A outer s H vs Q E hr h => ⟨_, hb cdv A outer s H E, exi_pure hN T hf vs H Q E h⟩)
  obtain ⟨a, y, rfl, _⟩ := h
  exact hn.symm
/-- the parameter is None by itself -/
theorem exi_byD (hm : mg c = some (.ref (He.ga K c))) (T : OexC K (He.ga K c)) (hf : PySem.W.findIn K (.ref (He.ga K c)) fld = some none) (hi : PySem.W.findIn K (.ref (He.ga K c)) "__init__" = some (some (.ref (He.ma K (He.ga K c) "__init__"))) ∧ PySem.W.typeIn K (.ref (He.ma K (He.ga K c) "__init__")) = some (.type "function"))
    (G : FunD K "__init__" qual params body scope [.non] [] (He.ma K (He.ga K c) "__init__") fd) (S : FnScope N ps scope) (hN : N.length = 2) (hn : ps.length = 2)
    (h1 : ∀ (T : Addr) (kV doc pm : Value) (an : Option Addr) (cdv ct : Value) (us its : List Value), us.length = ps.length → its.length = 1 →
      ∃ k, bindArgs (PySem.W.fnOf "__init__" qual params body scope (.ref T) kV doc pm an cdv ct) ⟨us, []⟩ = seqItems? (.ref T) >>= k ∧ k (some its.toArray) = pure (ps.zip (us ++ its.drop 1)))
    (h2 : ∀ (T : Addr) (kV doc pm : Value) (an : Option Addr) (cdv ct : Value) (us its : List Value), us.length = 1 → its.length = 1 →
      ∃ k, bindArgs (PySem.W.fnOf "__init__" qual params body scope (.ref T) kV doc pm an cdv ct) ⟨us, []⟩ = seqItems? (.ref T) >>= k ∧ k (some its.toArray) = pure (ps.zip (us ++ its.drop 0)))
    (hb : ExiBody P w K mg base qual scope (He.ma K (He.ga K c) "__init__") N body (tExi K fld msg)) : ExiOk P w K mg base (k + 1) c fld := by
  obtain ⟨ds, r, bi⟩ := FunD.binds1 G ps.length 1 (by simp) (by simp) h1
  cases r
  obtain ⟨ds2, r2, bi2⟩ := FunD.binds1 G 1 0 (by simp) (by simpa using hn.symm) h2
  cases r2 with
  | cons ru rr =>
    cases rr
    exact ⟨_, fd, ps, hm, T, hi.1, hi.2, bi, ⟨_, bi2, ru⟩, exi_fn T hf G S hN hn hb⟩
end
def tabOf (l : List (Str × Nat × FN)) : MTab := fun c => (l.find? fun p => p.1 == c).map (·.2)
theorem tab_all {l : List (Str × Nat × FN)} {R : Str → Nat → FN → Prop} (h : ∀ p ∈ l, R p.1 p.2.1 p.2.2) : ∀ c n F, tabOf l c = some (n, F) → R c n F := by
  intro c n F e
  unfold tabOf at e
  cases q : l.find? fun p => p.1 == c with
  | none => rw [q] at e; cases e
  | some p =>
    rw [q] at e
    have e0 := List.find?_some (p := fun p : Str × Nat × FN => p.1 == c) q
    have e1 : p.1 = c := beq_iff_eq.mp e0
    have m := List.mem_of_find?_eq_some q
    obtain ⟨a, b, G⟩ := p
    cases e
    have e1 : a = c := e1
    subst e1
    exact h _ m
theorem FnOk.mono {P : Program} {w : World} {K : Frg} {mg : Str → Option Value} {base : Heap} {CX : CXT} {j k : Nat} {f : Addr} {fd : FuncData} {ps : List Str} {sp : Sp} (h : FnOk P w K mg base CX j f fd ps sp) (le : j ≤ k) : FnOk P w K mg base CX k f fd ps sp :=
  ⟨h.len, fun A outer s H args us vs Q E hr => h.run A outer s H args us vs Q E (hr.mono le)⟩
theorem MethOk.mono {md : Md} {P : Program} {w : World} {K : Frg} {mg : Str → Option Value} {base : Heap} {j k : Nat} {c m : Str} {n : Nat} {F : FN} (h : MethOk md P w K mg base j c m n F) (le : j ≤ k) : MethOk md P w K mg base k c m n F := by
  obtain ⟨f, fd, ps, h1, h2, h3, h4⟩ := h.ex
  exact ⟨f, fd, ps, h1, h2, h3, FnOk.mono h4 le⟩
def clsBody : Stmt → List Stmt
  | .ClassDef (body := b) .. => b
  | _ => []
def sub (s : Stmt) (j : Nat) : Stmt := (clsBody s).getD j (.Pass ⟨0, 0, 0, 0⟩)
section
variable {r : Env'} {M : Mem} {i j : Int} {s t : Str} {x y d : D} {ds es : List D} {b : Bool} {e : Exn} {n : Nat} {c f : Str} {fs : List (Str × D)}
theorem fAttr_of {ok : Str → Bool} (hM : M[n]? = some (.ins c fs)) (h1 : ok c = true) (h2 : fs.lookup f = some d) : fAttr ok f (.obj n) M = .ok d M := by
  unfold fAttr
  simp only [hM, h1, h2]
  rfl
def attrPutK2 (ok : Str → Bool) (f : Str) (v : D) (o : Out D) (r : Env') : SO := o.bindS r fun o M2 => putAttr ok f o v r M2
def attrPutK1 (ok : Str → Bool) (f : Str) (v : Out D) (do_ : DE) (r : Env') : SO := v.bindS r fun v M1 => attrPutK2 ok f v (do_ r M1) r
@[simp] theorem dAttrPut_ev {ok : Str → Bool} {do_ dv : DE} : dAttrPut ok f do_ dv r M = attrPutK1 ok f (dv r M) do_ r := rfl
@[simp] theorem attrPutK1_ok {ok : Str → Bool} {do_ : DE} : attrPutK1 ok f (.ok d M) do_ r = attrPutK2 ok f d (do_ r M) r := rfl
@[simp] theorem attrPutK2_ok {ok : Str → Bool} : attrPutK2 ok f d (.ok x M) r = putAttr ok f x d r M := rfl
theorem putAttr_of {ok : Str → Bool} (hM : M[n]? = some (.ins c fs)) (h1 : ok c = true) (h2 : fs.length < 1000) : putAttr ok f (.obj n) d r M = .nx r (M.set n (.ins c (putFD f d fs))) := by
  have z : Nat.blt fs.length 1000 = true := Nat.ble_eq_true_of_le h2
  unfold putAttr
  simp only [hM, h1, z]
  rfl
def makeK2 (i : Nat) : Out D → Out D := fun o => o.bind fun v M2 => match v with
  | .non => .ok (.obj i) M2
  | _ => .no
def makeK1 (c : Str) (n : Nat) (F : FN) (o : Out (List D)) : Out D := o.bind fun ds M1 => match Nat.beq (ds.length + 1) n with
  | true => makeK2 M1.length (F (.obj M1.length :: ds) (M1 ++ [.ins c []]))
  | false => .no
@[simp] theorem dMake_ev {F : FN} {da : DA} : dMake c n F da r M = makeK1 c n F (da r M) := rfl
@[simp] theorem makeK1_ok {F : FN} (h : ds.length + 1 = n) : makeK1 c n F (.ok ds M) = makeK2 M.length (F (.obj M.length :: ds) (M ++ [.ins c []])) := by
  subst h
  unfold makeK1
  dsimp only [Out.bind]
  rw [Nat.beq_refl]
@[simp] theorem makeK2_ok {k : Nat} : makeK2 k (.ok .non M) = .ok (.obj k) M := rfl
def methK2 (F : FN) (n : Nat) (o : D) (a : Out (List D)) : Out D := a.bind fun ds M2 => match Nat.beq (ds.length + 1) n with
  | true => F (o :: ds) M2
  | false => .no
def methK1 (m : Str) (tab : MTab) (o : Out D) (da : DA) (r : Env') : Out D := o.bind fun o M1 => match clsOf M1 o with
  | some (c, fs) => (match tab c, fs.lookup m with
    | some (n, F), none => methK2 F n o (da r M1)
    | _, _ => .no)
  | none => .no
@[simp] theorem dMeth_ev {m : Str} {tab : MTab} {do_ : DE} {da : DA} : dMeth m tab do_ da r M = methK1 m tab (do_ r M) da r := rfl
theorem methK1_of {m : Str} {tab : MTab} {da : DA} {F : FN} {k : Nat} (hM : M[n]? = some (.ins c fs)) (h1 : tab c = some (k, F)) (h2 : fs.lookup m = none) : methK1 m tab (.ok (.obj n) M) da r = methK2 F k (.obj n) (da r M) := by
  unfold methK1
  dsimp only [Out.bind]
  have e : clsOf M (.obj n) = some (c, fs) := by
    unfold clsOf
    simp only [hM]
  rw [e]
  dsimp only
  rw [h1, h2]
@[simp] theorem methK2_ok {F : FN} {k : Nat} (h : ds.length + 1 = k) : methK2 F k x (.ok ds M) = F (x :: ds) M := by
  subst h
  unfold methK2
  dsimp only [Out.bind]
  rw [Nat.beq_refl]
def raiseIK (c fld : Str) (o : Out D) (r : Env') : SO := o.bindS r fun d M1 => .ex ⟨c, [fld], [d]⟩ r M1
@[simp] theorem dRaiseI_ev {fld : Str} {de : DE} : dRaiseI c fld de r M = raiseIK c fld (de r M) r := rfl
@[simp] theorem raiseIK_ok {fld : Str} : raiseIK c fld (.ok d M) r = .ex ⟨c, [fld], [d]⟩ r M := rfl
@[simp] theorem fIsN_non : fIsN false .non .non M = .ok (.bl true) M := rfl
@[simp] theorem fIsN_obj : fIsN false (.obj n) .non M = .ok (.bl false) M := rfl
@[simp] theorem fNotN_non : fIsN true .non .non M = .ok (.bl false) M := rfl
@[simp] theorem fNotN_obj : fIsN true (.obj n) .non M = .ok (.bl true) M := rfl
@[simp] theorem fCat_int {ar : Bool} : fCat ar (.int i) (.int j) M = .ok (.int (i + j)) M := rfl
theorem fCat_tup {ar : Bool} (h : ds.length + es.length ≤ 100000) : fCat ar (.tup ds) (.tup es) M = .ok (.tup (ds ++ es)) M := by
  unfold fCat
  dsimp only
  rw [lineB_of h]
theorem newL_f (h : ds.length ≤ 100000) : newL false ds M = .ok (.lst ds) M := by
  unfold newL
  rw [lineB_of h]
theorem newL_t (h : ds.length ≤ 100000) : newL true ds M = .ok (.obj M.length) (M ++ [.lst ds]) := by
  unfold newL
  rw [lineB_of h]
theorem fRep_str {ar : Bool} (h0 : -4611686018427387904 ≤ j) (h1 : j < 4611686018427387904) (h : s.length * j.toNat ≤ 100000) : fRep ar (.str s) (.int j) M = .ok (.str (Txt.mul s j)) M := by
  unfold fRep
  dsimp only
  rw [small62_of h0 h1, lineB_of h]
  rfl
def compAK (o : Out Src) (dg : DG) (t : DT) (de : DE) (vs : List Nat) (r : Env') : Out D := o.bind fun src M1 => (compL src.chk dg t de (wipeD r vs) src.items [] M1).bind fun ys M2 => .ok (.obj M2.length) (M2 ++ [.lst ys])
@[simp] theorem dCompA_ev {di : DI} {dg : DG} {t : DT} {de : DE} {vs : List Nat} : dCompA di dg t de vs r M = compAK (di r M) dg t de vs r := rfl
def compAK2 (o : Out (List D)) : Out D := o.bind fun ys M2 => .ok (.obj M2.length) (M2 ++ [.lst ys])
@[simp] theorem compAK_ok {src : Src} {dg : DG} {t : DT} {de : DE} {vs : List Nat} : compAK (.ok src M) dg t de vs r = compAK2 (compL src.chk dg t de (wipeD r vs) src.items [] M) := rfl
@[simp] theorem compAK2_ok : compAK2 (.ok ds M) = .ok (.obj M.length) (M ++ [.lst ds]) := rfl
def callDK (n : Nat) (dd : List D) (F : FN) (o : Out (List D)) : Out D := o.bind fun ds M1 => match Nat.beq ds.length n with
  | true => F (ds ++ dd) M1
  | false => .no
@[simp] theorem dCallD_ev {dd : List D} {F : FN} {da : DA} : dCallD n dd F da r M = callDK n dd F (da r M) := rfl
@[simp] theorem callDK_ok {dd : List D} {F : FN} (h : ds.length = n) : callDK n dd F (.ok ds M) = F (ds ++ dd) M := by
  subst h
  unfold callDK
  dsimp only [Out.bind]
  rw [Nat.beq_refl]
end
end LF
set_option Elab.async false
set_option linter.all false
set_option maxRecDepth 100000
set_option maxHeartbeats 4000000
namespace LF
open PySem PySem.Spec PyProof.Rows L2
section
variable {t : DT} {de : DE} {r : Env'} {M : Mem} {dg : DG}
/-- the same over the images of a list, all of them taken -/
theorem compL_img {α : Type} {f : α → D} {g : α → D} (l : List α) (acc : List D) (h : ∀ a ∈ l, ∃ r1, dg (f a) r M = .ok r1 M ∧ t r1 M = .ok true M ∧ de r1 M = .ok (g a) M) (hl : acc.length + l.length ≤ 100000) : compL anyM dg t de r (l.map f) acc M = .ok (acc ++ l.map g) M := by
  induction l generalizing acc with
  | nil => simp
  | cons a l ih =>
    simp only [List.length_cons] at hl
    obtain ⟨r1, h1, h2, h3⟩ := h a List.mem_cons_self
    rw [List.map_cons, compL_consA, h1, cmpK1_ok, h2, cmpK2_t, h3, cmpK3_ok (by omega), ih _ (fun x hx => h x (List.mem_cons_of_mem _ hx)) (by simp; omega)]
    simp
/-- .. some of them -/
theorem compL_imgF {α : Type} {f : α → D} {g : α → D} {p : α → Bool} (l : List α) (acc : List D) (h : ∀ a ∈ l, ∃ r1, dg (f a) r M = .ok r1 M ∧ t r1 M = .ok (p a) M ∧ (p a = true → de r1 M = .ok (g a) M)) (hl : acc.length + l.length ≤ 100000) : compL anyM dg t de r (l.map f) acc M = .ok (acc ++ (l.filter p).map g) M := by
  induction l generalizing acc with
  | nil => simp
  | cons a l ih =>
    simp only [List.length_cons] at hl
    obtain ⟨r1, h1, h2, h3⟩ := h a List.mem_cons_self
    rw [List.map_cons, compL_consA, h1, cmpK1_ok, h2]
    cases q : p a with
    | false =>
      rw [cmpK2_f, ih acc (fun x hx => h x (List.mem_cons_of_mem _ hx)) (by omega), List.filter_cons_of_neg (by simp [q])]
    | true =>
      rw [cmpK2_t, h3 q, cmpK3_ok (by omega), ih _ (fun x hx => h x (List.mem_cons_of_mem _ hx)) (by simp; omega), List.filter_cons_of_pos q]
      simp
end
theorem strs_map {α : Type} (f : α → Str) : ∀ l : List α, strsOf (l.map fun a => .str (f a)) = some (l.map f)
  | [] => rfl
  | a :: l => by simp only [List.map_cons, strsOf, strs_map f l, Option.map_some]
theorem join_flat : ∀ ls : List (List Nat), Txt.join (tx []) (ls.map tx) = tx ls.flatten := fun ls => by
  refine TL.ext_tl ?_
  rw [TL.join_eq, TL.tl_join]
  induction ls with
  | nil => rfl
  | cons c l ih =>
    cases l with
    | nil =>
      show c = c ++ []
      rw [List.append_nil]
    | cons d l =>
      simp only [List.map_cons] at ih ⊢
      rw [TL.joinL, ih]
      show c ++ ([] ++ (d :: l).flatten) = (c :: d :: l).flatten
      simp
theorem mJoin_flat {α : Type} {f : α → List Nat} {l : List α} {M : Mem} (h : (l.map f).flatten.length ≤ 100000) : mJoin (tx []) (.lst (l.map fun a => .str (tx (f a)))) M = .ok (.str (tx (l.map f).flatten)) M := by
  have e := join_flat (l.map f)
  rw [List.map_map] at e
  rw [mJoin_lst (strs_map (fun a => tx (f a)) l) ?_]
  · exact congrArg (fun s => Out.ok (D.str s) M) e
  · have z : ((l.map fun a => tx (f a)).map (·.length)).sum = (l.map f).flatten.length := by
      rw [List.map_map, List.length_flatten, List.map_map]
      congr 1
    rw [z, tx_len]
    simpa using h
theorem cutN_one {α : Type} {x : α} {l : List α} : cutN (x :: l) (some 1) none = l := cutN_from (k := 1) (by simp)
theorem bls_true {α : Type} (l : List α) : blsOf (l.map fun _ => .bl true) = some (l.map fun _ => true) := blsOf_map l
theorem all_true {α : Type} {l : List α} {M : Mem} : fAll [.lst (l.map fun _ => .bl true)] M = .ok (.bl true) M := by
  rw [fAll_of (bls_true l)]
  simp
theorem lit_eq {a b : Str} {M : Mem} {v : Bool} (ha : PyData.strOk a = true) (hb : PyData.strOk b = true) (h : (a == b) = v) : fEq (.str a) (.str b) M = .ok (.bl v) M := by rw [fEq_str ha hb, h]
theorem lit_ne {a b : Str} {M : Mem} {v : Bool} (ha : PyData.strOk a = true) (hb : PyData.strOk b = true) (h : (a == b) = v) : fNe (.str a) (.str b) M = .ok (.bl (!v)) M := by rw [fNe_str ha hb, h]
def itTK (o : Out D) : Out Src := o.bind fun d M1 => match d with
  | .tup ds => .ok ⟨ds, anyM⟩ M1
  | _ => .no
@[simp] theorem dItT_K {da : DE} {r : Env'} {M : Mem} : dItT da r M = itTK (da r M) := rfl
@[simp] theorem itTK_tup {ds : List D} {M : Mem} : itTK (.ok (.tup ds) M) = .ok ⟨ds, anyM⟩ M := rfl
noncomputable def itLK (o : Out D) : Out Src := o.bind fun d M1 => match d with
  | .lst ds => .ok ⟨ds, anyM⟩ M1
  | .obj n => (match M1[n]? with
    | some (.lst ds) => .ok ⟨ds, fun M => isAt M n (.lst ds)⟩ M1
    | some (.ro ds) => .ok ⟨ds, fun M => isAt M n (.ro ds)⟩ M1
    | _ => .no)
  | _ => .no
theorem dItL_K {da : DE} {r : Env'} {M : Mem} : dItL da r M = itLK (da r M) := rfl
@[simp] theorem itLK_lst {ds : List D} {M : Mem} : itLK (.ok (.lst ds) M) = .ok ⟨ds, anyM⟩ M := rfl
end LF
set_option Elab.async false
set_option linter.all false
set_option maxRecDepth 100000
set_option maxHeartbeats 4000000
namespace LF
open PySem PySem.Spec PyProof.Rows L2
section
variable {r : Env'} {M M1 : Mem} {i j : Int} {s t : Str} {x y d : D} {ds es : List D} {b : Bool} {e : Exn} {n k : Nat} {c f : Str} {fs : List (Str × D)}
theorem putAttr_last {ok : Str → Bool} (h1 : ok c = true) (h2 : fs.length < 1000) : putAttr ok f (.obj M.length) d r (M ++ [.ins c fs]) = .nx r (M ++ [.ins c (putFD f d fs)]) := by
  rw [putAttr_of (c := c) (fs := fs) (by simp) h1 h2]
  simp
@[simp] theorem fIx_tup2 {x0 x1 : D} : fIx (.tup (x0 :: x1 :: d :: ds)) (.int 2) M = .ok d M := fIx_tup (L2.atI_nat (j := 2) rfl)
@[simp] theorem fIx_tup3 {x0 x1 x2 : D} : fIx (.tup (x0 :: x1 :: x2 :: d :: ds)) (.int 3) M = .ok d M := fIx_tup (L2.atI_nat (j := 3) rfl)
@[simp] theorem fIx_tup4 {x0 x1 x2 x3 : D} : fIx (.tup (x0 :: x1 :: x2 :: x3 :: d :: ds)) (.int 4) M = .ok d M := fIx_tup (L2.atI_nat (j := 4) rfl)
@[simp] theorem fListOf_tup {ar : Bool} : fListOf ar [.tup ds] M = newL ar ds M := rfl
@[simp] theorem fTupOf_lst (h : ds.length ≤ 100000) : fTupOf [.lst ds] M = .ok (.tup ds) M := by
  unfold fTupOf on1
  dsimp only [lstOf]
  rw [lineB_of h]
theorem fTupOf_obj (hM : M[n]? = some (.lst ds)) (h : ds.length ≤ 100000) : fTupOf [.obj n] M = .ok (.tup ds) M := by
  unfold fTupOf on1
  dsimp only [lstOf]
  rw [hM]
  dsimp only
  rw [lineB_of h]
def whileK2 (o : SO) (t : DT) (sb : DS) (n : Nat) : SO := match o with
  | .nx r2 M2 => whileN t sb n r2 M2
  | .ct r2 M2 => whileN t sb n r2 M2
  | .bk r2 M2 => .nx r2 M2
  | o => o
def whileK1 (o : Out Bool) (t : DT) (sb : DS) (n : Nat) (r : Env') : SO := o.bindS r fun k M1 => match k with
  | true => whileK2 (sb r M1) t sb n
  | false => .nx r M1
theorem whileN_ev {t : DT} {sb : DS} : whileN t sb (n + 1) r M = whileK1 (t r M) t sb n r := by
  rw [whileN]
  unfold whileK1
  cases t r M with
  | ok a M1 =>
    cases a with
    | true =>
      dsimp only [Out.bindS]
      unfold whileK2
      cases sb r M1 <;> rfl
    | false => rfl
  | _ => rfl
@[simp] theorem dWhile_ev {t : DT} {sb : DS} : dWhile n t sb r M = whileN t sb n r M := rfl
@[simp] theorem whileK1_f {t : DT} {sb : DS} : whileK1 (.ok false M) t sb n r = .nx r M := rfl
@[simp] theorem whileK1_t {t : DT} {sb : DS} : whileK1 (.ok true M) t sb n r = whileK2 (sb r M) t sb n := rfl
@[simp] theorem whileK2_nx {t : DT} {sb : DS} : whileK2 (.nx r M) t sb n = whileN t sb n r M := rfl
/-- a loop under an invariant that falls -/
theorem while_inv {t : DT} {sb : DS} (I : Nat → Env' → Mem → Prop) (R : Env' → Mem → Prop) (st : ∀ k r M, I k r M → (∃ M1, t r M = .ok false M1 ∧ R r M1) ∨ ∃ M1 r2 M2 k2, k = k2 + 1 ∧ t r M = .ok true M1 ∧ sb r M1 = .nx r2 M2 ∧ I k2 r2 M2) :
    ∀ (k n : Nat) (r : Env') (M : Mem), I k r M → k < n → ∃ r' M', whileN t sb n r M = .nx r' M' ∧ R r' M'
  | k, 0, r, M, _, h => absurd h (by omega)
  | k, n + 1, r, M, hI, h => by
    rw [whileN_ev]
    rcases st k r M hI with ⟨M1, e1, e2⟩ | ⟨M1, r2, M2, k2, rfl, e1, e2, e3⟩
    · rw [e1]
      exact ⟨r, M1, rfl, e2⟩
    · rw [e1, whileK1_t, e2, whileK2_nx]
      exact while_inv I R st k2 n r2 M2 e3 (by omega)
def appK2 (o : D) (q : Out D) : Out D := q.bind fun y M2 => appAt o y M2
def appK1 (o : Out D) (de : DE) (r : Env') : Out D := o.bind fun o M1 => match lstAt M1 o with
  | some _ => appK2 o (de r M1)
  | none => .no
@[simp] theorem dAppend_ev {do_ de : DE} : dAppend do_ de r M = appK1 (do_ r M) de r := rfl
theorem appK1_of {de : DE} (hM : M[n]? = some (.lst ds)) : appK1 (.ok (.obj n) M) de r = appK2 (.obj n) (de r M) := by
  unfold appK1
  dsimp only [Out.bind, lstAt]
  rw [hM]
@[simp] theorem appK2_ok : appK2 x (.ok y M) = appAt x y M := rfl
theorem appAt_of (hM : M[n]? = some (.lst ds)) (h : ds.length ≤ 100000) : appAt (.obj n) y M = .ok .non (M.set n (.lst (ds ++ [y]))) := by
  unfold appAt
  dsimp only [lstAt]
  rw [hM]
  dsimp only
  rw [lineB_of h]
def popK2 (o : D) (q : Out D) : Out D := q.bind fun y M2 => popAt o y M2
def popK1 (o : Out D) (de : DE) (r : Env') : Out D := o.bind fun o M1 => match lstAt M1 o with
  | some _ => popK2 o (de r M1)
  | none => .no
@[simp] theorem dPopAt_ev {do_ de : DE} : dPopAt do_ de r M = popK1 (do_ r M) de r := rfl
theorem popK1_of {de : DE} (hM : M[n]? = some (.lst ds)) : popK1 (.ok (.obj n) M) de r = popK2 (.obj n) (de r M) := by
  unfold popK1
  dsimp only [Out.bind, lstAt]
  rw [hM]
@[simp] theorem popK2_ok : popK2 x (.ok y M) = popAt x y M := rfl
theorem ixN_nat {k m : Nat} (h : k < m) : ixN m (k : Int) = some k := by
  unfold ixN
  simp [h]
theorem popAt_of' {k : Nat} (hM : M[n]? = some (.lst ds)) (e1 : small62 i = true) (e2 : ixN ds.length i = some k) (hk : ds[k]? = some d) : popAt (.obj n) (.int i) M = .ok d (M.set n (.lst (ds.eraseIdx k))) := by
  unfold popAt
  dsimp only [lstAt]
  rw [hM]
  dsimp only
  rw [e1, e2]
  dsimp only
  rw [hk]
theorem rdD_obj (hM : M[n]? = some (.lst ds)) : rdD M (.obj n) = .lst ds := by
  unfold rdD
  dsimp only [lstOf]
  rw [hM]
theorem fLen_obj (hM : M[n]? = some (.lst ds)) : fLen [.obj n] M = .ok (.int ds.length) M := by
  unfold fLen
  dsimp only
  first | (rw [hM]) | (simp only [hM, seqOf, lstOf])
theorem fIx_obj (hM : M[n]? = some (.lst ds)) (h : atI ds i = some d) : fIx (.obj n) (.int i) M = .ok d M := by
  unfold fIx
  simp only [seqOf, hM, h]
  rfl
theorem itLK_obj (hM : M[n]? = some (.lst ds)) : itLK (.ok (.obj n) M) = .ok ⟨ds, fun M => isAt M n (.lst ds)⟩ M := by
  unfold itLK
  dsimp only [Out.bind]
  rw [hM]
theorem fRep_obj {ar : Bool} (h1 : M[n]? = some (.lst ds)) (h2 : -4611686018427387904 ≤ j) (h3 : j < 4611686018427387904) : fRep ar (.obj n) (.int j) M = newL ar (List.replicate j.toNat ds).flatten M := by
  unfold fRep
  dsimp only [lstAt]
  rw [h1, small62_of h2 h3]
end
end LF
set_option Elab.async false
set_option linter.all false
set_option maxRecDepth 100000
set_option maxHeartbeats 4000000
namespace LF
open PySem PySem.Spec PyProof.Rows L2
section
variable {chk : Mem → Bool} {t : DT} {de : DE} {r : Env'} {M : Mem} {dg : DG}
theorem compL_nil {acc : List D} (h : chk M = true) : compL chk dg t de r [] acc M = .ok acc M := by
  unfold compL
  rw [h]
/-- a comprehension under an invariant -/
theorem compL_inv (I : Nat → List D → Mem → Prop) (hc : ∀ i ys M, I i ys M → chk M = true) : ∀ (ds : List D) (k : Nat) (acc : List D) (M : Mem), (∀ i d ys M, ds[i]? = some d → I (k + i) ys M → ∃ r1 y M', dg d r M = .ok r1 M ∧ t r1 M = .ok true M ∧ de r1 M = .ok y M' ∧ I (k + i + 1) (ys ++ [y]) M') → I k acc M → acc.length + ds.length ≤ 100000 → ∃ ys M', compL chk dg t de r ds acc M = .ok ys M' ∧ I (k + ds.length) ys M' ∧ ys.length = acc.length + ds.length
  | [], k, acc, M, _, h, _ => ⟨acc, M, compL_nil (hc _ _ _ h), h, rfl⟩
  | d :: ds, k, acc, M, st, h, hl => by
    rw [List.length_cons] at hl
    obtain ⟨r1, y, M', e1, e2, e3, h2⟩ := st 0 d acc M rfl h
    obtain ⟨ys, M2, e4, h3, e5⟩ := compL_inv I hc ds (k + 1) (acc ++ [y]) M' (fun i d ys M e hi => by
      have z := st (i + 1) d ys M (by simpa using e) (by rw [show k + (i + 1) = k + 1 + i by omega]; exact hi)
      rw [show k + (i + 1) + 1 = k + 1 + i + 1 by omega] at z
      exact z) h2 (by simp; omega)
    refine ⟨ys, M2, ?_, by rw [show k + (d :: ds).length = k + 1 + ds.length by simp; omega]; exact h3, by rw [e5]; simp; omega⟩
    rw [compL_cons (hc _ _ _ h), e1, cmpK1_ok, e2, cmpK2_t, e3, cmpK3_ok (by omega), e4]
/-- one over a list that stays, which changes nothing -/
theorem compL_same {α : Type} {f : α → D} {g : α → D} (hc : chk M = true) (l : List α) (acc : List D) (h : ∀ a ∈ l, ∃ r1, dg (f a) r M = .ok r1 M ∧ t r1 M = .ok true M ∧ de r1 M = .ok (g a) M) (hl : acc.length + l.length ≤ 100000) : compL chk dg t de r (l.map f) acc M = .ok (acc ++ l.map g) M := by
  induction l generalizing acc with
  | nil => simp [compL_nil hc]
  | cons a l ih =>
    simp only [List.length_cons] at hl
    obtain ⟨r1, h1, h2, h3⟩ := h a List.mem_cons_self
    rw [List.map_cons, compL_cons hc, h1, cmpK1_ok, h2, cmpK2_t, h3, cmpK3_ok (by omega), ih _ (fun x hx => h x (List.mem_cons_of_mem _ hx)) (by simp; omega)]
    simp
/-- of a list of whole numbers -/
theorem ix_ints {P : Int → Prop} {ns : List Int} {i : Int} (h0 : 0 ≤ i) (h1 : i < ns.length) (h : ∀ n ∈ ns, P n) : ∃ n, P n ∧ ∀ M, fIx (.lst (ns.map .int)) (.int i) M = .ok (.int n) M := by
  obtain ⟨j, rfl⟩ : ∃ j : Nat, i = j := ⟨i.toNat, by omega⟩
  have hj : j < ns.length := by omega
  exact ⟨ns[j], h _ (List.getElem_mem hj), fun M => fIx_lst (L2.atI_nat (by simp [List.getElem?_eq_getElem hj]))⟩
end
theorem leS_lt {a b : List Nat} (h : leS (tx a) (tx b) = true) (n : a ≠ b) : a < b := by
  by_cases h2 : leS (tx b) (tx a) = true
  · exact absurd (tx_inj (leS_anti _ _ h h2)) n
  · unfold leS at h2
    rw [strLt_tx] at h2
    simp at h2
    exact h2
theorem sort_lt {ks : List (List Nat)} (nd : ks.Nodup) : ∃ ss : List (List Nat), sortS (ks.map tx) = ss.map tx ∧ ss.Perm ks ∧ ss.Pairwise (· < ·) := by
  have h2 : (sortS (ks.map tx)).Pairwise fun a b => leS a b = true := List.pairwise_mergeSort (fun a b c => leS_trans a b c) leS_tot _
  have pm : (sortS (ks.map tx)).Perm (ks.map tx) := List.mergeSort_perm _ leS
  have e : sortS (ks.map tx) = ((sortS (ks.map tx)).map fun s => s.cps.toList).map tx := by
    rw [List.map_map]
    conv => lhs; rw [← List.map_id (sortS (ks.map tx))]
    exact List.map_congr_left fun s _ => tx_eta s
  have p2 := pm.map fun s : Str => s.cps.toList
  rw [List.map_map, show ((fun s : Str => s.cps.toList) ∘ tx) = id from rfl, List.map_id] at p2
  generalize (sortS (ks.map tx)).map (fun s => s.cps.toList) = ss at e p2
  refine ⟨ss, e, p2, ?_⟩
  rw [e, List.pairwise_map] at h2
  have nd2 : ss.Nodup := p2.nodup_iff.mpr nd
  exact h2.imp₂ (fun a b h n => leS_lt h n) nd2
theorem fSorted_dic {ar : Bool} {n : Nat} {M : Mem} {kvs : List (Key × D)} {ss : List Str} (hM : M[n]? = some (.dic kvs)) (h : keyStrs kvs = some ss) (hl : ss.length < 64) : fSorted ar [.obj n] M = newL ar ((sortS ss).map .str) M := by
  unfold fSorted on1
  dsimp only [textsOf]
  rw [hM]
  dsimp only
  rw [h]
  dsimp only
  rw [show Nat.blt ss.length 64 = true from Nat.ble_eq_true_of_le hl]
theorem fSum_ints {ns : List Int} {M : Mem} : fSum [.lst (ns.map .int)] M = .ok (.int ns.sum) M := by
  have e : intsOf (ns.map .int) = some ns := by
    induction ns with
    | nil => rfl
    | cons n ns ih => simp only [List.map_cons, intsOf, ih, Option.map_some]
  unfold fSum on1
  dsimp only [lstOf, Option.bind_some]
  rw [e]
/-- a dict of texts that are all True -/
def setD (ks : List (List Nat)) : List (Key × D) := ks.map fun k => (.inr (tx k), .bl true)
theorem keyStrs_set : ∀ ks : List (List Nat), keyStrs (setD ks) = some (ks.map tx)
  | [] => rfl
  | k :: ks => by
    have ih := keyStrs_set ks
    unfold setD at ih ⊢
    simp only [List.map_cons, keyStrs, ih, Option.map_some]
theorem putD_set {k : List Nat} (ks : List (List Nat)) : putD (setD ks) (.inr (tx k)) (.bl true) = setD (if k ∈ ks then ks else ks ++ [k]) := by
  unfold putD
  by_cases hm : k ∈ ks
  · have h1 : ((setD ks).any fun kv => decide (kv.1 = .inr (tx k))) = true := by
      rw [List.any_eq_true]
      exact ⟨(.inr (tx k), .bl true), List.mem_map.mpr ⟨k, hm, rfl⟩, by simp⟩
    rw [if_pos h1, if_pos hm]
    unfold setD
    rw [List.map_map]
    refine List.map_congr_left fun x _ => ?_
    simp only [Function.comp]
    split <;> rfl
  · have h1 : ¬ ((setD ks).any fun kv => decide (kv.1 = .inr (tx k))) = true := by
      rw [List.any_eq_true]
      rintro ⟨kv, hkv, e⟩
      obtain ⟨x, hx, rfl⟩ := List.mem_map.mp hkv
      have e := of_decide_eq_true e
      exact hm (tx_inj (Sum.inr.inj e) ▸ hx)
    rw [if_neg h1, if_neg hm]
    simp [setD]
end LF
set_option Elab.async false
set_option linter.all false
set_option maxRecDepth 100000
set_option maxHeartbeats 4000000
namespace LF
open PySem PySem.Spec PyProof.Rows L2
section
variable {X : Cx} {W : WX}
def dNo : DS := fun _ _ => .no
theorem db_no {st : List Stmt} : DBx X W st dNo := ⟨fun _ _ _ => False, ⟨fun _ _ _ _ _ _ h => h.elim⟩, fun _ _ _ _ _ _ _ _ h => h.elim⟩
end
def xfC (K : Frg) (C : Addr) : Bool := L2.xfB K C
theorem xfC_ok {K : Frg} {C : Addr} (h : xfC K C = true) : XfC K C := L2.xfB_ok h
def tXfE (K : PySem.W.Frag) (f : Str) (te : TE) : TE := fun σ H Q => te σ H fun x H1 => ∃ (a C dd : Addr) (fs : List (Str × V)) (v : V), x = .ref a ∧ ExAt H1 a C (some dd) ∧ XfC K C ∧ PySem.W.findIn K (.ref C) f = some none ∧ H1 dd = some (.xd fs) ∧ fs.lookup f = some v ∧ Q v H1
theorem pe_xfE {X : Cx} {e : Expr} {te : TE} {pos : Pos} {n : Str} (he : PE X e te) (hb : attributeBase e n X.env (eval e X.env) = eval e X.env := by rfl) : PE X (.Attribute e n pos) (tXfE X.K n te) := by
  refine ⟨fun pins s σ H Q I h => ?_⟩
  refine attr_of hb (thn (he.run pins s σ H _ I h) fun u s1 hh => ?_)
  obtain ⟨x, H1, I1, rx, a, C, dd, fs, v, ex, ea0, T, hno, ea, l, q⟩ := hh
  subst ex
  obtain rfl : u = Value.ref a := rx
  obtain ⟨o, vs, g1, g2, g3, g4⟩ := ExAt.is I1.hok ea0
  have hx : ObjOk X.prog X.w H1 s1.heap dd (.xd fs) := I1.hok dd _ ea
  obtain ⟨mA, hns, hr⟩ := hx
  obtain ⟨od, ho, hl⟩ := lookIn_ns hns
  obtain ⟨u, hu, ru⟩ := RelO.some_of (v := v) (o := mA n) (by rw [← l]; exact hr n)
  have J : PySem.W.InstAt s1.heap a o C (some od) := ⟨g1, g2, by unfold PySem.W.notCls; rw [g4] <;> rfl, by rw [g3]; exact ho⟩
  exact HandSPX.exc_get I1.kIn J T.ga T.gg T.exC (PySem.W.findObj_own T.hdC hno rfl (by rw [hl, hu])) (handed_of ru) ⟨v, H1, I1.tok _, ru, q⟩
def fXf (ok : Str → Bool) (f : Str) : F1 := fun x M => match x with
  | .exc c ns ds => (match ok c with
    | true => liftO ((ns.zip ds).lookup f) M
    | false => .no)
  | _ => .no
theorem xf_look {K : Frg} {φ : Wd} {H : Hp} {f : Str} {d : D} : ∀ {fv : List (Str × V)} {ds : List D}, RepL K φ H ds (fv.map (·.2)) → ((fv.map (·.1)).zip ds).lookup f = some d → ∃ v, fv.lookup f = some v ∧ Rep K φ H d v
  | [], ds, _, h => by simp at h
  | (g, w) :: fv, [], r, h => by simp at h
  | (g, w) :: fv, x :: ds, r, h => by
    obtain ⟨w', r', e, r1, r2⟩ := r.inv
    simp only [List.map_cons, List.cons.injEq] at e
    obtain ⟨e1, e2⟩ := e
    subst e1
    simp only [List.map_cons, List.zip_cons_cons, List.lookup_cons] at h ⊢
    cases q : f == g with
    | true =>
      rw [q] at h
      cases h
      exact ⟨w, rfl, r1⟩
    | false =>
      rw [q] at h
      exact xf_look (e2 ▸ r2) h
theorem fXf_inv {K : Frg} {φ : Wd} {H : Hp} {Q : VK} {W : XK} {ok : Str → Bool} {f : Str} {x : D} {M : Mem} (h : Okd K φ H (RE K) (fXf ok f x M) Q W) : ∃ c ns ds d, x = .exc c ns ds ∧ ok c = true ∧ (ns.zip ds).lookup f = some d ∧ Okd K φ H (RE K) (.ok d M) Q W := by
  unfold fXf at h
  split at h
  · rename_i c ns ds
    split at h
    · rename_i q
      cases l : (ns.zip ds).lookup f with
      | none => rw [l] at h; exact h.elim
      | some d => rw [l] at h; exact ⟨c, ns, ds, d, rfl, q, l, h⟩
    · exact h.elim
  · exact h.elim
section
variable {X : Cx} {W : WX} {pos : Pos}
theorem de_xf {e : Expr} {f : Str} {da : DE} {ok : Str → Bool} (hok : ∀ c, ok c = true → XfC X.K (He.ga X.K c) ∧ PySem.W.findIn X.K (.ref (He.ga X.K c)) f = some none) (he : DEx X W e da) (hb : attributeBase e f X.env (eval e X.env) = eval e X.env := by rfl) : DEx X W (.Attribute e f pos) (dUn (fXf ok f) da) := by
  obtain ⟨_, p, s⟩ := he
  refine ⟨_, pe_xfE p hb, fun φ M H σ r Q S E h => ?_⟩
  refine s φ M H σ r _ S E (Okd.bind h fun d M1 v φ1 H1 _ g1 S1 rv h1 => ?_)
  replace h1 := fXf_inv h1
  obtain ⟨c, ns, ds, y, rfl, q, l, h1⟩ := h1
  unfold RE Rep at rv
  obtain ⟨a, dd, rfl, _, e1, fv, e2, e3, e4⟩ := rv
  subst e3
  obtain ⟨w, l2, r2⟩ := xf_look e4 l
  obtain ⟨c1, c2⟩ := hok c q
  rcases e2 with ⟨e2, e5⟩ | ⟨d2, e2, _, e5⟩
  · subst e5
    simp at l2
  · subst e2
    exact ⟨a, _, d2, fv, w, rfl, e1, c1, c2, e5, l2, h1.here S1 r2⟩
end
@[simp] theorem fXf_ev {ok : Str → Bool} {f c : Str} {ns : List Str} {ds : List D} {M : Mem} : fXf ok f (.exc c ns ds) M = (match ok c with
  | true => liftO ((ns.zip ds).lookup f) M
  | false => .no) := rfl
end LF
set_option Elab.async false
set_option linter.all false
set_option maxRecDepth 100000
set_option maxHeartbeats 4000000
namespace LF
open PySem PySem.Spec PyProof.Rows L2
end LF
set_option Elab.async false
set_option linter.all false
set_option maxRecDepth 100000
set_option maxHeartbeats 4000000
namespace LF
open PySem PySem.Spec PyProof.Rows L2
def keyD : Key → D
  | .inl i => .int i
  | .inr s => .str s
/-- a dict of the arena, also one that is walked -/
def dicAt (M : Mem) : D → Option (List (Key × D))
  | .obj n => (match M[n]? with
    | some (.dic kvs) => some kvs
    | some (.fz kvs) => some kvs
    | _ => none)
  | _ => none
def fDIn (neg : Bool) : F2 := fun x y M => match keyOf x, dicAt M y with
  | some k, some kvs => .ok (.bl (if neg then !(lookD kvs k).isSome else (lookD kvs k).isSome)) M
  | _, _ => .no
def dpopAt (o k : D) (z : Option D) (M : Mem) : Out D := match o, keyOf k with
  | .obj n, some k => (match M[n]? with
    | some (.dic kvs) => (match lookD kvs k, z with
      | some d, _ => .ok d (M.set n (.dic (dropD kvs k)))
      | none, some d => .ok d M
      | none, none => .no)
    | _ => .no)
  | _, _ => .no
/-- the receiver is a dict -/
def isDicB (M : Mem) : D → Bool
  | .obj n => (match M[n]? with
    | some (.dic _) => true
    | _ => false)
  | _ => false
def dDPop2 (do_ dk dz : DE) : DE := fun r M => (do_ r M).bind fun o M1 => match isDicB M1 o with
  | true => (dk r M1).bind fun k M2 => (dz r M2).bind fun z M3 => dpopAt o k (some z) M3
  | false => .no
end LF
set_option Elab.async false
set_option linter.all false
set_option maxRecDepth 100000
set_option maxHeartbeats 4000000
namespace LF
open PySem PySem.Spec PyProof.Rows L2
section
variable {X : Cx} {W : WX} {pos : Pos}
noncomputable def chkL (d : D) (ds : List D) : Mem → Bool := match d with
  | .obj n => fun M => isAt M n (.lst ds)
  | _ => anyM
/-- a row that is walked: what it is, and whether it still is -/
def rowAt (M : Mem) : D → Option (List D)
  | .lst ds => some ds
  | .obj n => (match M[n]? with
    | some (.lst ds) => some ds
    | _ => none)
  | _ => none
def pairsL (ds : List D) : List D := ds.zipIdx.map fun di => .tup [.int (di.2 : Nat), di.1]
noncomputable def dItEL (da : DE) : DI := fun r M => (da r M).bind fun d M1 => match rowAt M1 d with
  | some ds => .ok ⟨pairsL ds, chkL d ds⟩ M1
  | none => .no
end
end LF
set_option Elab.async false
set_option linter.all false
set_option maxRecDepth 100000
set_option maxHeartbeats 4000000
namespace LF
open PySem PySem.Spec PyProof.Rows L2
def rCatL (K : Frg) : R2 := fun x y H Q => ∃ l b xs zs, x = .ref l ∧ y = .ref b ∧ SqL K H l xs ∧ SqL K H b zs ∧ xs.length + zs.length ≤ sizeLine ∧ ∀ p, H p = none → Q (.ref p) (upd H p (.lst (xs ++ zs)))
theorem op_catL {X : Cx} : OpR X (binaryOp .Add) (rCatL X.K) := by
  intro pins s σ H x y v u Q I rx ry h
  obtain ⟨l, b, xs, zs, rfl, rfl, h1, h2, hz, q⟩ := h
  cases rx
  cases ry
  obtain ⟨its, r1, ⟨⟨cls, dd, data, sl⟩, n, ho, hc, hd, he⟩, z1⟩ := I.list h1
  obtain ⟨its2, r2, ⟨⟨cls2, dd2, data2, sl2⟩, n2, ho2, hc2, hd2, he2⟩, z2⟩ := I.list h2
  simp only at hc hd he hc2 hd2 he2
  subst hc hd he hc2 hd2 he2
  have l1 := r1.length
  have l2 := r2.length
  refine concat_meets ⟨_, ho, rfl⟩ ⟨_, ho2, rfl⟩ noFill_list_add seq_list_add PySem.F.slot_list_add PySem.F.entry_list_add (PySem.F.args_list_add_2 _ _) (list_addW l b its.toArray its2.toArray n n2 none none sl sl2 (by rw [List.size_toArray, List.size_toArray]; omega)) ⟨ho, ho2, ?_⟩
  have ea : its.toArray ++ its2.toArray = (its ++ its2).toArray := by simp
  rw [ea]
  exact ⟨.ref _, _, I.lnew (t' := s.toks) (r1.append r2) (by rw [List.length_append]; omega), rfl, q _ I.fresh⟩
def fCatL (ar : Bool) : F2 := fun x y M => match lstOf M x, lstOf M y with
  | some a, some b => newL ar (a ++ b) M
  | _, _ => .no
theorem o_catL {K : Frg} {ar : Bool} : Op2 K (rCatL K) (fCatL ar) := by
  intro φ M H x y a b Q W S ra rb h
  unfold fCatL at h
  cases e1 : lstOf M a with
  | none => rw [e1] at h; exact h.elim
  | some ds =>
    cases e2 : lstOf M b with
    | none => rw [e1, e2] at h; exact h.elim
    | some es =>
      rw [e1, e2] at h
      obtain ⟨l, xs, rfl, h1, r1⟩ := lstOf_rep S ra e1
      obtain ⟨k, ys, rfl, h2, r2⟩ := lstOf_rep S rb e2
      obtain ⟨z, w⟩ := newL_here S (r1.app r2) h
      rw [List.length_append] at z
      exact ⟨l, k, xs, ys, rfl, rfl, h1, h2, z, w⟩
theorem fCatL_lst {ds es : List D} {M : Mem} (h : ds.length + es.length ≤ 100000) : fCatL false (.lst ds) (.lst es) M = .ok (.lst (ds ++ es)) M := by
  unfold fCatL
  dsimp only [lstOf]
  unfold newL
  rw [show lineB (ds ++ es).length = true from Nat.ble_eq_true_of_le (by rw [List.length_append]; exact h)]
end LF
set_option Elab.async false
set_option linter.all false
set_option maxRecDepth 100000
set_option maxHeartbeats 4000000
namespace LF
open PySem PySem.Spec PyProof.Rows L2
def dMakeD (c : Str) (n : Nat) (dd : List D) (F : FN) (da : DA) : DE := fun r M => (da r M).bind fun ds M1 => match Nat.beq (ds.length + 1) n with
  | true => (F (.obj M1.length :: (ds ++ dd)) (M1 ++ [.ins c []])).bind fun v M2 => match v with
    | .non => .ok (.obj M1.length) M2
    | _ => .no
  | false => .no
end LF
set_option Elab.async false
set_option linter.all false
set_option maxRecDepth 100000
set_option maxHeartbeats 4000000
namespace LF
open PySem PySem.Spec PyProof.Rows L2
section
variable {r : Env'} {M M1 : Mem} {i j : Int} {s t : Str} {x y d : D} {ds es : List D} {b : Bool} {e : Exn} {n k : Nat} {c f : Str} {fs : List (Str × D)} {kvs : List (Key × D)} {da db : DE}
def dpopK2 (o : D) (q : Out D) : Out D := q.bind fun k M2 => dpopAt o k none M2
@[simp] theorem dpopK2_ok : dpopK2 x (.ok y M) = dpopAt x y none M := rfl
def dpop2K3 (o k : D) (q : Out D) : Out D := q.bind fun z M3 => dpopAt o k (some z) M3
def dpop2K2 (o : D) (q : Out D) (dz : DE) (r : Env') : Out D := q.bind fun k M2 => dpop2K3 o k (dz r M2)
def dpop2K1 (o : Out D) (dk dz : DE) (r : Env') : Out D := o.bind fun o M1 => match isDicB M1 o with
  | true => dpop2K2 o (dk r M1) dz r
  | false => .no
@[simp] theorem dDPop2_ev {dz : DE} : dDPop2 da db dz r M = dpop2K1 (da r M) db dz r := rfl
@[simp] theorem dpop2K2_ok {dz : DE} : dpop2K2 x (.ok y M) dz r = dpop2K3 x y (dz r M) := rfl
@[simp] theorem dpop2K3_ok : dpop2K3 x y (.ok d M) = dpopAt x y (some d) M := rfl
noncomputable def elK (o : Out D) : Out Src := o.bind fun d M1 => match rowAt M1 d with
  | some ds => .ok ⟨pairsL ds, chkL d ds⟩ M1
  | none => .no
@[simp] theorem dItEL_ev : dItEL da r M = elK (da r M) := rfl
@[simp] theorem elK_lst : elK (.ok (.lst ds) M) = .ok ⟨pairsL ds, anyM⟩ M := rfl
end
/-- what stood stands, but at the places S -/
structure Fr (S : List Nat) (M M' : Mem) : Prop where
  len : M.length ≤ M'.length
  get : ∀ j, j < M.length → j ∉ S → M'[j]? = M[j]?
section
variable {S T : List Nat} {M M1 M2 : Mem} {j : Nat} {o : MO}
theorem Fr.trans (a : Fr S M M1) (b : Fr S M1 M2) : Fr S M M2 := ⟨Nat.le_trans a.len b.len, fun j h n => (b.get j (Nat.lt_of_lt_of_le h a.len) n).trans (a.get j h n)⟩
theorem Fr.mono (a : Fr S M M1) (h : ∀ j ∈ S, j ∈ T) : Fr T M M1 := ⟨a.len, fun j hj n => a.get j hj fun z => n (h j z)⟩
theorem Fr.app : Fr S M (M ++ M1) := ⟨by simp, fun j h _ => List.getElem?_append_left h⟩
theorem Fr.set {i : Nat} (h : i ∈ S) : Fr S M (M.set i o) := ⟨by simp, fun j _ n => List.getElem?_set_ne (fun z : i = j => n (by rw [← z]; exact h))⟩
end
end LF
set_option Elab.async false
set_option linter.all false
set_option maxRecDepth 100000
set_option maxHeartbeats 4000000
namespace LF
open PySem PySem.Spec PyProof.Rows L2
def fIsB (neg : Bool) : F2 := fun x y M => match x, y with
  | .bl a, .bl b => .ok (.bl (if neg then !decide (a = b) else decide (a = b))) M
  | _, _ => .no
theorem o_isB {K : Frg} : Op2 K (fun x y H Q => ∃ a b, x = .bl a ∧ y = .bl b ∧ Q (.bl (decide (a = b))) H) (fIsB false) := by
  intro φ M H x y a b Q W S ra rb h
  cases a with
  | bl a =>
    cases b with
    | bl b => exact ⟨a, b, rep_bl_inv ra, rep_bl_inv rb, okB S h⟩
    | _ => exact h.elim
  | _ => exact h.elim
@[simp] theorem fIsB_ev {neg a b : Bool} {M : Mem} : fIsB neg (.bl a) (.bl b) M = .ok (.bl (if neg then !decide (a = b) else decide (a = b))) M := rfl
end LF
set_option Elab.async false
set_option linter.all false
set_option maxRecDepth 100000
set_option maxHeartbeats 4000000
namespace LF
open PySem PySem.Spec PyProof.Rows L2
section
variable {M : Mem} {r : Env'} {isa : Str → Option Bool} {body hand : DS} {d : D} {e : Exn} {c : Str} {n : Nat} {dd ds : List D} {F : FN} {da : DA}
def makeDK1 (c : Str) (n : Nat) (dd : List D) (F : FN) (o : Out (List D)) : Out D := o.bind fun ds M1 => match Nat.beq (ds.length + 1) n with
  | true => makeK2 M1.length (F (.obj M1.length :: (ds ++ dd)) (M1 ++ [.ins c []]))
  | false => .no
@[simp] theorem dMakeD_ev : dMakeD c n dd F da r M = makeDK1 c n dd F (da r M) := rfl
@[simp] theorem makeDK1_ok (h : ds.length + 1 = n) : makeDK1 c n dd F (.ok ds M) = makeK2 M.length (F (.obj M.length :: (ds ++ dd)) (M ++ [.ins c []])) := by
  subst h
  unfold makeDK1
  dsimp only [Out.bind]
  rw [Nat.beq_refl]
end
end LF
set_option Elab.async false
set_option linter.all false
set_option maxRecDepth 100000
set_option maxHeartbeats 4000000
namespace LF
open PySem PySem.Spec PyProof.Rows L2
theorem RepK.get {κ : Type} {K : Frg} {φ : Wd} {H : Hp} : ∀ {r : List (κ × D)} {l : List (κ × V)}, RepK K φ H r l → ∀ {i : Nat} {k : κ} {d : D}, r[i]? = some (k, d) → ∃ v, l[i]? = some (k, v) ∧ Rep K φ H d v
  | [], _, _, i, k, d, e => by simp at e
  | (k0, d0) :: r, _, ⟨v, l', rfl, h1, h2⟩, i, k, d, e => by
    cases i with
    | zero => cases e; exact ⟨v, rfl, h1⟩
    | succ i => exact h2.get e
end LF
set_option Elab.async false
set_option linter.all false
set_option maxRecDepth 100000
set_option maxHeartbeats 4000000
namespace LF
open PySem PySem.Spec PyProof.Rows L2
end LF
set_option Elab.async false
set_option linter.all false
set_option maxRecDepth 100000
set_option maxHeartbeats 4000000
namespace LF
open PySem PySem.Spec PyProof.Rows L2
@[simp] theorem augK_addX {k : Nat} {i j : Int} {M : Mem} {r : Env'} : augK k fAdd (.int i) (.ok (.int j) M) r = .nx (r.set k (some (.int (i + j)))) M := rfl
end LF
set_option Elab.async false
set_option linter.all false
set_option maxRecDepth 100000
set_option maxHeartbeats 4000000
namespace LF
open PySem PySem.Spec PyProof.Rows L2
end LF
set_option Elab.async false
set_option linter.all false
set_option maxRecDepth 100000
set_option maxHeartbeats 4000000
namespace LF
open PySem PySem.Spec PyProof.Rows L2
end LF
set_option Elab.async false
set_option linter.all false
set_option maxRecDepth 100000
set_option maxHeartbeats 4000000
namespace LF
open PySem PySem.Spec PyProof.Rows L2
end LF
set_option Elab.async false
set_option linter.all false
set_option maxRecDepth 100000
set_option maxHeartbeats 4000000
namespace LF
open PySem PySem.Spec PyProof.Rows L2
end LF
set_option Elab.async false
set_option linter.all false
set_option maxRecDepth 100000
set_option maxHeartbeats 4000000
namespace LF
open PySem PySem.Spec PyProof.Rows L2
end LF
set_option Elab.async false
set_option linter.all false
set_option maxRecDepth 100000
set_option maxHeartbeats 4000000
namespace LF
open PySem PySem.Spec PyProof.Rows L2
end LF
set_option Elab.async false
set_option linter.all false
set_option maxRecDepth 100000
set_option maxHeartbeats 4000000
namespace LF
open PySem PySem.Spec PyProof.Rows L2
end LF
set_option Elab.async false
set_option linter.all false
set_option maxRecDepth 100000
set_option maxHeartbeats 4000000
namespace LF
open PySem PySem.Spec PyProof.Rows L2
abbrev Hd := Str × (Str → Option Bool) × Nat × DS
end LF
set_option Elab.async false
set_option linter.all false
set_option maxRecDepth 100000
set_option maxHeartbeats 4000000
namespace LF
open PySem PySem.Spec PyProof.Rows L2
def refsS (o : Obj) : List Addr := match o.data with
  | .dict es _ => es.toList.flatMap fun e => He.refV e.val
  | .func fd => He.refV fd.code ++ (He.refV fd.defaults ++ fd.closure.map (·.2))
  | .cls cd => [cd.ns]
  | _ => []
def lvlS (g : Addr → Option Obj) (as : List Addr) : List Addr := as.flatMap fun a => match g a with
  | some o => refsS o
  | none => []
def asS (g : Addr → Option Obj) : Nat → List Addr → List Addr
  | 0, as => as
  | n + 1, as => as ++ asS g n (lvlS g as)
def obsSG (n : Nat) (xb : Frg → Bool) (fa : List He.Fa) (fn : List He.DefD) (g : Addr → Option Obj) : AlX := obsX xb fa fn (He.frG g (cStatics :: asS g n [mainGlobals]))
def hookS (n : Nat) (xb : Frg → Bool) (fa : List He.Fa) (fn : List He.DefD) : PySem.W.Hook where
  α := AlX
  obs := fun s => obsSG n xb fa fn s.heap.get?
  val := fun _ => valX fn
  says := fun _ h => ∃ K : PySem.W.Frag, K.In h ∧ SaysX xb fa fn K
  of := fun _ _ e => ⟨_, He.frG_in, congrArg (fun z : AlX => z.1) e, congrArg (fun z : AlX => z.2) e⟩
  keeps := fun _ _ _ ⟨K, hK, c⟩ k => ⟨K, PySem.W.Frag.In.keeps hK k, c⟩
theorem obsSG_eq {n : Nat} {xb : Frg → Bool} {fa : List He.Fa} {fn : List He.DefD} {g : Addr → Option Obj} {s : Shared} (h : ∀ a, g a = s.heap.get? a) : obsSG n xb fa fn g = (hookS n xb fa fn).obs s := by
  have e : g = s.heap.get? := funext h
  rw [e] <;> rfl
end LF
set_option Elab.async false
set_option linter.all false
set_option maxRecDepth 100000
set_option maxHeartbeats 4000000
namespace LF
open PySem PySem.Spec PyProof.Rows L2
instance {i j : Int} : Decidable (CPow i j) := by unfold CPow; infer_instance
def dPar (i j : Nat) (da : DA) : DS := fun r M => (da r M).bindS r fun ds M1 => match ds with
  | [a, b] => .nx ((r.set i (some a)).set j (some b)) M1
  | _ => .no
end LF
set_option Elab.async false
set_option linter.all false
set_option maxRecDepth 100000
set_option maxHeartbeats 4000000
namespace LF
open PySem PySem.Spec PyProof.Rows L2
section
variable {isa : Str → Option Bool} {i j ti N : Nat} {y fld tq : Str} {td : He.Defn} {hs : List Hd} {db : DS} {de : DE} {da : DA} {r r1 : Env'} {M M1 : Mem} {d a b : D} {e : Exn}
def parK (i j : Nat) (o : Out (List D)) (r : Env') : SO := o.bindS r fun ds M1 => match ds with
  | [a, b] => .nx ((r.set i (some a)).set j (some b)) M1
  | _ => .no
@[simp] theorem dPar_ev : dPar i j da r M = parK i j (da r M) r := rfl
@[simp] theorem parK_ok : parK i j (.ok [a, b] M) r = .nx ((r.set i (some a)).set j (some b)) M := rfl
end
end LF
set_option Elab.async false
set_option linter.all false
set_option maxRecDepth 100000
set_option maxHeartbeats 4000000
namespace LF
open PySem PySem.Spec PyProof.Rows L2
def fAbs : FN := fun ds M => match ds with
  | [.int i] => .ok (.int (if i < 0 then -i else i)) M
  | _ => .no
@[simp] theorem fAbs_int {i : Int} {M : Mem} : fAbs [.int i] M = .ok (.int (if i < 0 then -i else i)) M := rfl
end LF
set_option Elab.async false
set_option linter.all false
set_option maxRecDepth 100000
set_option maxHeartbeats 4000000
namespace LF
open PySem PySem.Spec PyProof.Rows L2
end LF
set_option Elab.async false
set_option linter.all false
set_option maxRecDepth 100000
set_option maxHeartbeats 4000000
namespace LF
open PySem PySem.Spec PyProof.Rows L2
end LF
set_option Elab.async false
set_option linter.all false
set_option maxRecDepth 100000
set_option maxHeartbeats 4000000
namespace PySem
open Sem (wp)
open AutoSeq1 (wpAny_loadPart')
end PySem
namespace LF
open PySem PySem.Spec PyProof.Rows L2
noncomputable def dItET (da : DE) : DI := fun r M => (da r M).bind fun d M1 => match d with
  | .tup ds => .ok ⟨pairsL ds, anyM⟩ M1
  | _ => .no
noncomputable def etK (o : Out D) : Out Src := o.bind fun d M1 => match d with
  | .tup ds => .ok ⟨pairsL ds, anyM⟩ M1
  | _ => .no
@[simp] theorem dItET_ev {da : DE} {r : Env'} {M : Mem} : dItET da r M = etK (da r M) := rfl
@[simp] theorem etK_tup {ds : List D} {M : Mem} : etK (.ok (.tup ds) M) = .ok ⟨pairsL ds, anyM⟩ M := rfl
end LF
set_option Elab.async false
set_option linter.all false
set_option maxRecDepth 100000
set_option maxHeartbeats 4000000
namespace LF
open PySem PySem.Spec PyProof.Rows L2
def svO : Value → Str
  | .str x _ => x
  | _ => Str.empty
def ltSv (v u : Value) : Bool := strLt (svO v) (svO u)
theorem swo_str : SrtO.Swo ltSv := by
  refine ⟨fun x y h => ?_, fun x y z h1 h2 => ?_⟩
  · have a : (svO x).cps.toList < (svO y).cps.toList := of_decide_eq_true h
    exact decide_eq_false fun b => List.lt_irrefl _ (List.lt_trans a b)
  · have a := of_decide_eq_false (p := (svO y).cps.toList < (svO x).cps.toList) h1
    have b := of_decide_eq_false (p := (svO z).cps.toList < (svO y).cps.toList) h2
    exact decide_eq_false (List.not_lt.mpr (List.le_trans (List.not_lt.mp a) (List.not_lt.mp b)))
theorem svs_mem : ∀ {vs : List Value} {ss : List Str}, StrsAre vs ss → ∀ v ∈ vs, ∃ x t, v = Value.str x t
  | _, _, .nil, v, h => absurd h (by simp)
  | _, _, .cons n t r, v, h => by
    rcases List.mem_cons.mp h with e | h
    · exact ⟨n, t, e⟩
    · exact svs_mem r v h
theorem svs_of : ∀ {vs : List Value}, (∀ v ∈ vs, ∃ x t, v = Value.str x t) → StrsAre vs (vs.map svO)
  | [], _ => .nil
  | v :: vs, h => by
    obtain ⟨i, t, e⟩ := h v List.mem_cons_self
    subst e
    exact .cons i t (svs_of fun u hu => h u (List.mem_cons_of_mem _ hu))
theorem svs_eq : ∀ {vs : List Value} {ss : List Str}, StrsAre vs ss → vs.map svO = ss
  | _, _, .nil => rfl
  | _, _, .cons n t r => congrArg (n :: ·) (svs_eq r)
theorem str_cmp {prog : Program} {w : World} {A : Around} {s : Shared} {vs : List Value} {ss : List Str} (hI : StrsAre vs ss) : SrtO.Cmp prog w A s oneType' (fun p => p.1 ∈ vs) (SrtO.lt2 ltSv) := by
  intro p q hm hm'
  obtain ⟨a, t, e⟩ := svs_mem hI _ hm
  obtain ⟨b, u, e'⟩ := svs_mem hI _ hm'
  show wpAny (model prog w) A (keyLt' oneType' p.1 q.1) (fun r s' => s' = s ∧ r = ltSv p.1 q.1) (fun _ _ => False) s
  rw [e, e', keyLt'_oneType]
  exact oneLt_str ⟨rfl, rfl⟩
theorem strs_sortable {prog : Program} {w : World} {A : Around} {s : Shared} {a : Addr} {vs : List Value} {ss : List Str} (hI : StrsAre vs ss) (h2 : 2 ≤ vs.length) : SrtO.SortableO prog w A s a vs ltSv := by
  intro h' _
  refine ⟨oneType', fun Q E hq => ?_, str_cmp hI⟩
  match vs, hI, h2 with
  | v1 :: v2 :: rest, hI, _ =>
    rw [keyKind_strs hI]
    exact wpAny_pure hq
  | [], _, h => exact absurd h (by decide)
  | [v], _, h => exact absurd h (by simp)
theorem strs_out {vs out : List Value} {ss : List Str} (hI : StrsAre vs ss) (hs : SrtO.Srtd ltSv out) (hb : SrtO.Stb ltSv out vs) : StrsAre out (out.map svO) ∧ (out.map svO).Perm ss ∧ (out.map svO).Pairwise fun a b => leS a b = true := by
  refine ⟨svs_of fun v hv => svs_mem hI v (hb.perm.mem_iff.mp hv), ?_, ?_⟩
  · have q := hb.perm.map svO
    rw [svs_eq hI] at q
    exact q
  · exact List.pairwise_map.mpr (hs.imp fun {x y} h => by
      have h : ltSv y x = false := h
      unfold ltSv at h
      unfold leS
      rw [h]; rfl)
theorem sortS_one {ys xs : List Str} (p : ys.Perm xs) (h1 : ys.Pairwise fun a b => leS a b = true) : ys = sortS xs := by
  have h2 : (sortS xs).Pairwise fun a b => leS a b = true := List.pairwise_mergeSort (fun a b c => leS_trans a b c) leS_tot xs
  exact List.Perm.eq_of_pairwise (fun a b _ _ => leS_anti a b) h1 h2 (p.trans (List.mergeSort_perm xs leS).symm)
def fDInN (neg : Bool) : F2 := fun x y M => match x with
  | .non => (match dicAt M y with
    | some _ => .ok (.bl neg) M
    | none => .no)
  | x => fDIn neg x y M
@[simp] theorem fDInN_str {neg : Bool} {s : Str} {y : D} {M : Mem} : fDInN neg (.str s) y M = fDIn neg (.str s) y M := rfl
def fRev (ar : Bool) : F1 := fun d M => match lstOf M d with
  | some ds => newL ar ds.reverse M
  | none => .no
@[simp] theorem fRev_lst {ds : List D} {M : Mem} (h : ds.length ≤ 100000) : fRev false (.lst ds) M = .ok (.lst ds.reverse) M := by
  unfold fRev lstOf
  dsimp only
  unfold newL
  rw [lineB_of (by rw [List.length_reverse]; exact h)]
end LF
set_option Elab.async false
set_option linter.all false
set_option maxRecDepth 100000
set_option maxHeartbeats 4000000
namespace LF
open PySem PySem.Spec PyProof.Rows L2
end LF
set_option Elab.async false
set_option linter.all false
set_option maxRecDepth 100000
set_option maxHeartbeats 4000000
namespace LF
open PySem PySem.Spec PyProof.Rows L2
/-- v is a pair of two texts -/
def PairS (h : Heap) (v : Value) (y z : Str) : Prop := ∃ (a : Addr) (t u : Tok), v = .ref a ∧ IsTup h a #[.str y t, .str z u]
theorem PairS.keeps {h h' : Heap} {v : Value} {y z : Str} (x : PairS h v y z) (k : ∀ b o, h.get? b = some o → o.cls = .type "tuple" → h'.get? b = some o) : PairS h' v y z := by
  obtain ⟨a, t, u, e, ⟨o, ho, hc, r⟩⟩ := x
  exact ⟨a, t, u, e, o, k _ _ ho hc, hc, r⟩
end LF
set_option Elab.async false
set_option linter.all false
set_option maxRecDepth 100000
set_option maxHeartbeats 4000000
namespace LF
open PySem PySem.Spec PyProof.Rows L2
end LF
set_option Elab.async false
set_option linter.all false
set_option maxRecDepth 100000
set_option maxHeartbeats 4000000
namespace LF
open PySem PySem.Spec PyProof.Rows L2
end LF
set_option Elab.async false
set_option linter.all false
set_option maxRecDepth 100000
set_option maxHeartbeats 4000000
namespace LF
open PySem PySem.Spec PyProof.Rows L2
end LF
set_option Elab.async false
set_option linter.all false
set_option maxRecDepth 100000
set_option maxHeartbeats 4000000
namespace LF
open PySem PySem.Spec PyProof.Rows L2
def dTryFrom0 (isa : Str → Option Bool) (i : Nat) (y fld : Str) (body : DS) : DS := fun r M => match body r M with
  | .ex e r1 M1 => (match isa e.c with
    | some true => (match decide (i < r1.length) with
      | true => .ex ⟨y, [fld], [.non]⟩ (r1.set i none) M1
      | false => .no)
    | some false => .ex e r1 M1
    | none => .no)
  | o => o
end LF
set_option Elab.async false
set_option linter.all false
set_option maxRecDepth 100000
set_option maxHeartbeats 4000000
namespace LF
open PySem PySem.Spec PyProof.Rows L2
mutual
/-- whole numbers of at most twelve digits -/
def D.ish : D → Bool
  | .int i => decide (-999999999999 ≤ i) && decide (i ≤ 999999999999)
  | .tup ds => D.ishL ds
  | .lst ds => D.ishL ds
  | _ => true
def D.ishL : List D → Bool
  | [] => true
  | d :: ds => D.ish d && D.ishL ds
end
mutual
/-- how much is to be shown -/
def D.wt : D → Nat
  | .str x => x.length
  | .int _ => 41
  | .tup ds => D.wtL ds
  | .lst ds => D.wtL ds
  | _ => 0
def D.wtL : List D → Nat
  | [] => 0
  | d :: ds => D.wt d + 1 + D.wtL ds
end
theorem log2_12 {i : Int} (h0 : -999999999999 ≤ i) (h1 : i ≤ 999999999999) : i.natAbs.log2 < 40 := by
  by_cases z : i.natAbs = 0
  · rw [z]; decide
  · exact (Nat.log2_lt z).mpr (by omega)
mutual
theorem ish_pd : ∀ (n : Nat) (d : D), D.lay n d = true → D.ish d = true → (D.pd d).intsShort 13 = true ∧ (D.pd d).showable = true ∧ (D.pd d).weight ≤ D.wt d
  | _, .non, _, _ => ⟨rfl, rfl, Nat.le_refl _⟩
  | _, .bl _, _, _ => ⟨rfl, rfl, Nat.le_refl _⟩
  | _, .int i, _, h => by
    obtain ⟨a, b⟩ := Bool.and_eq_true_iff.mp h
    have a := of_decide_eq_true a
    have b := of_decide_eq_true b
    have l := log2_12 a b
    have q := intsShortAll_ints2 [i] (fun n hn => by simp at hn; subst hn; exact ⟨a, b⟩)
    refine ⟨?_, ?_, ?_⟩
    · have q : (PyData.intsShort 13 (.int i) && true) = true := q
      rw [Bool.and_true] at q
      exact q
    · show decide (i.natAbs.log2 < 1920) = true
      exact decide_eq_true (by omega)
    · show (if i == 0 then 0 else i.natAbs.log2 + 1) ≤ 41
      split <;> omega
  | _, .str x, _, _ => ⟨rfl, rfl, Nat.le_refl _⟩
  | 0, .tup _, h, _ => by simp [D.lay] at h
  | 0, .lst _, h, _ => by simp [D.lay] at h
  | n + 1, .tup ds, h, k => ishL_pd n ds (by simpa [D.lay] using h) k
  | n + 1, .lst ds, h, k => ishL_pd n ds (by simpa [D.lay] using h) k
  | n, .dic _ _, h, _ => by cases n <;> simp [D.lay] at h
  | n, .obj _, h, _ => by cases n <;> simp [D.lay] at h
  | n, .exc _ _ _, h, _ => by cases n <;> simp [D.lay] at h
  | n, .ins _ _ _, h, _ => by cases n <;> simp [D.lay] at h
theorem ishL_pd : ∀ (n : Nat) (ds : List D), D.layL n ds = true → D.ishL ds = true → PyData.intsShortAll 13 (D.pdL ds) = true ∧ PyData.showableAll (D.pdL ds) = true ∧ PyData.weightAll (D.pdL ds) ≤ D.wtL ds
  | _, [], _, _ => ⟨rfl, rfl, Nat.le_refl _⟩
  | n, d :: ds, h, k => by
    unfold D.layL at h
    obtain ⟨h1, h2⟩ := Bool.and_eq_true_iff.mp h
    unfold D.ishL at k
    obtain ⟨k1, k2⟩ := Bool.and_eq_true_iff.mp k
    obtain ⟨a1, a2, a3⟩ := ish_pd n d h1 k1
    obtain ⟨b1, b2, b3⟩ := ishL_pd n ds h2 k2
    refine ⟨?_, ?_, ?_⟩
    · show (PyData.intsShort 13 (D.pd d) && _) = true
      rw [a1, b1]; rfl
    · show (PyData.showable (D.pd d) && _) = true
      rw [a2, b2]; rfl
    · show PyData.weight (D.pd d) + 1 + _ ≤ D.wt d + 1 + _
      omega
end
/-- what repr tells of it -/
def D.rp (d : D) : Str := (D.pd d).shown
def fRepr : FN := on1 fun d M => match D.lay 60 d && (D.ish d && Nat.ble (D.wt d) 1000000) with
  | true => .ok (.str (D.rp d)) M
  | false => .no
theorem fRepr_of {d : D} {M : Mem} (h1 : D.lay 60 d = true) (h2 : D.ish d = true) (h3 : D.wt d ≤ 1000000) : fRepr [d] M = .ok (.str (D.rp d)) M := by
  unfold fRepr on1
  dsimp only
  rw [h1, h2, Nat.ble_eq_true_of_le h3]
  rfl
def rRepr (K : Frg) : List V → Hp → VK → Prop := fun xs H Q => ∃ x d, xs = [x] ∧ Dp K H x d ∧ d.canLay0 = true ∧ d.depth ≤ 60 ∧ d.showable = true ∧ d.shown.length ≤ sizeLine ∧ Q (.str d.shown) H
theorem o_repr {K : Frg} : OpN K (rRepr K) fRepr := by
  intro φ M H xs ds Q W S r h
  replace h := on1_inv h
  obtain ⟨d, rfl, h⟩ := h
  obtain ⟨v, w, rfl, r1, r2⟩ := r.inv
  rw [r2.inv0]
  split at h
  · rename_i e
    obtain ⟨e1, e2⟩ := Bool.and_eq_true_iff.mp e
    obtain ⟨e2, e3⟩ := Bool.and_eq_true_iff.mp e2
    have e3 := Nat.le_of_ble_eq_true e3
    obtain ⟨c1, c2⟩ := lay_pd 60 d e1
    obtain ⟨i1, i2, i3⟩ := ish_pd 60 d e1 e2
    refine ⟨v, D.pd d, rfl, rep_dp 60 d v e1 r1, c1, c2, i2, ?_, okT S h⟩
    have e : (2 : Nat) ^ 20 = 1048576 := by decide
    exact PyData.shown_fits (B := 13) (by decide) (by decide) (PyData.leavesShort_of_canLay0 13 _ c1 i1) (by omega)
  · exact h.elim
section
variable {X : Cx}
theorem c_repr (hg : X.A.guards = some []) (hu : X.A.units + 64 < cLine) : CallR X (.builtin "repr") (rRepr X.K) := by
  intro pins s σ H xs us Q I r h
  obtain ⟨x, d, rfl, dp, c1, c2, sh, sz, q⟩ := h
  obtain ⟨u, rfl, ru⟩ := vals1 r
  have nd := PyData.hasDict_of_canLay d c1
  obtain ⟨as, rd⟩ := Dp.reads I d x u dp ru
  cases dp with
  | non =>
    cases ru
    exact PySem.P.repr_of_none ⟨.str _, H, I.tok _, ⟨_, rfl⟩, q⟩
  | bl b =>
    cases ru
    exact PySem.P.repr_of_bool ⟨.str _, H, I.tok _, ⟨_, rfl⟩, q⟩
  | int i =>
    obtain ⟨t, rfl⟩ := ru
    exact PySem.P.repr_of_int (of_decide_eq_true sh) ⟨.str _, H, I.tok _, ⟨_, rfl⟩, q⟩
  | str y =>
    obtain ⟨t, rfl⟩ := ru
    exact PySem.P.repr_of_str ⟨.str _, H, I.tok _, ⟨_, rfl⟩, q⟩ sz
  | lst hs ha =>
    cases ru
    exact repr_of_reads' rd sh (PyData.noDict_hsm nd) hg (by omega) (fun _ _ e => e) (fun h' t tk hk => ⟨.str _, H, I.kept hk, ⟨_, rfl⟩, q⟩) sz
  | tup hs ha =>
    cases ru
    exact repr_of_reads' rd sh (PyData.noDict_hsm nd) hg (by omega) (fun _ _ e => e) (fun h' t tk hk => ⟨.str _, H, I.kept hk, ⟨_, rfl⟩, q⟩) sz
end
end LF
set_option Elab.async false
set_option linter.all false
set_option maxRecDepth 100000
set_option maxHeartbeats 4000000
namespace HT
open PySem PySem.Spec PyProof.Rows
variable {prog : Program} {w : World} {A : Around} {E : Value → Shared → Prop} {s : Shared}
theorem adjust_rev (n : Nat) : Builtin.Slice.sliceAdjust none none (-1) (n : Int) = ((n : Int) - 1, -1) := by
  unfold Builtin.Slice.sliceAdjust
  simp only [show ((-1 : Int) < 0) from by decide, if_true]
theorem places_rev (n : Nat) : Builtin.Slice.slicePlaces ((n : Int) - 1) (-1) (-1) = n := by
  unfold Builtin.Slice.slicePlaces
  simp only [show ¬ ((-1 : Int) > 0) from by decide, if_false, show (-(-1) : Int) = 1 from rfl, Int.ediv_one]
  split <;> omega
theorem sliceApplied_rev {sl : Addr} {vs : Value} {n : Nat} {Q : Int × Int × Nat → Shared → Prop} (hs : s.heap.IsSliceOf sl .none .none vs) (ps : IsPart vs (some (-1)))
    (h : Q ((n : Int) - 1, -1, n) s) : wpAny (model prog w) A (Builtin.Slice.sliceApplied (.ref sl) (pure (n : Int))) Q E s := by
  obtain ⟨os, hos, hcs, hds⟩ := id hs
  unfold Builtin.Slice.sliceApplied Builtin.Slice.sliceFields
  refine wpAny_bind (wpAny_bind (wpAny_field hos hds (x := .none) rfl (wpAny_bind (wpAny_field hos hds (x := .none) rfl (wpAny_bind (wpAny_field hos hds (x := vs) rfl (wpAny_pure ?_)))))))
  refine wpAny_bind (slicePart_ ps ?_)
  show wpAny _ _ (if ((-1 : Int) == 0) = true then _ else _) _ _ s
  rw [if_neg (by decide)]
  refine wpAny_bind (slicePart_none (wpAny_bind (slicePart_none (wpAny_bind (wpAny_pure ?_)))))
  show wpAny _ _ (match Builtin.Slice.sliceAdjust none none (-1) (n : Int) with | (lo, hi) => pure (lo, (-1 : Int), Builtin.Slice.slicePlaces lo hi (-1))) _ _ s
  rw [adjust_rev n]
  show wpAny _ _ (pure ((n : Int) - 1, (-1 : Int), Builtin.Slice.slicePlaces ((n : Int) - 1) (-1) (-1))) _ _ s
  rw [places_rev]
  exact wpAny_pure h
theorem pick_rev (xs : Array Value) : ((List.range xs.size).filterMap fun (m : Nat) => xs[(((xs.size : Int) - 1) + (m : Int) * (-1)).toNat]?).toArray = xs.toList.reverse.toArray := by
  have e : (fun (m : Nat) => xs[(((xs.size : Int) - 1) + (m : Int) * (-1)).toNat]?) = (fun k => xs[k]?) ∘ fun k => xs.size - 1 - k := by
    funext m
    show xs[(((xs.size : Int) - 1) + (m : Int) * (-1)).toNat]? = xs[xs.size - 1 - m]?
    have : (((xs.size : Int) - 1) + (m : Int) * (-1)).toNat = xs.size - 1 - m := by omega
    rw [this]
  rw [e, ← List.filterMap_map, PySem.W.krv_range, List.filterMap_reverse, PySem.W.krv_all]
theorem getItem_tuple_rev {t sl : Addr} {items : Array Value} {vs : Value} {Q : Value → Shared → Prop} (ht : IsTup s.heap t items) (hs : s.heap.IsSliceOf sl .none .none vs) (ps : IsPart vs (some (-1)))
    (h : Q (.ref s.heap.objs.size) { s with heap := s.heap.push { cls := .type "tuple", data := .seq items.toList.reverse.toArray } })
    (hsz : items.size ≤ sizeLine) : wpAny (model prog w) A (getItem (.ref t) (.ref sl)) Q E s := by
  have htake : sizeOk (.seq items.toList.reverse.toArray) := by
    show items.toList.reverse.toArray.size ≤ sizeLine
    rw [List.size_toArray, List.length_reverse, Array.length_toList]
    exact hsz
  obtain ⟨os, hos, hcs, hds⟩ := id hs
  have hTs : s.TypeIs (.ref sl) "slice" := ⟨os, hos, hcs⟩
  unfold getItem
  try with_reducible refine wpAny_holding ?_
  first | refine wpAny_bind (wpAny_pure ?_) | skip
  refine wpAny_bind (wpAny_sequenceKey ht.typeIs (by decide) ?_)
  refine wpAny_bind (wpAny_callSpecial?_slot (name := Str.ofString "__getitem__") ht.typeIs PyProof.Rows.slot_tuple_getitem
    (wpAny_call_entry PyProof.Rows.slot_tuple_getitem ht.typeIs entry_tuple_getitem ?_ (args_tuple_getitem _ _)))
  show wpAny _ _ (Builtin.Tuple.tupleItemsOf (.ref t) >>= _) _ _ s
  refine wpAny_bind (tupleItemsOf_ ht ?_)
  refine wpAny_bind (wpAny_typeOf hTs ?_)
  rw [if_pos (by decide)]
  refine wpAny_bind (sliceApplied_rev hs ps ?_)
  have hno : ¬ (((((items.size : Int) - 1) == 0) && ((-1 : Int) == 1) && (items.size == items.size)) = true) := by
    intro q
    rw [Bool.and_eq_true, Bool.and_eq_true] at q
    have q1 := eq_of_beq q.1.2
    omega
  show wpAny _ _ (if ((((items.size : Int) - 1) == 0) && ((-1 : Int) == 1) && (items.size == items.size)) = true then _ else _) _ _ s
  rw [if_neg hno, pick_rev]
  first
    | exact wpAny_bind (m := Builtin.Tuple.tupleExact _) (wpAny_newObj_type (wpAny_pure ⟨_, rfl, wpAny_pure h⟩) htake)
    | exact wpAny_bind (m := Builtin.Tuple.tupleExact _) (wpAny_newObj_type (wpAny_bind (wpAny_pure (wpAny_pure ⟨_, rfl, wpAny_pure h⟩))) htake)
    | exact wpAny_bind (wpAny_bind (m := Builtin.Tuple.tupleExact _) (wpAny_newObj_type (wpAny_pure (wpAny_pure ⟨_, rfl, wpAny_pure h⟩)) htake))
    | exact wpAny_bind (wpAny_bind (m := Builtin.Tuple.tupleExact _) (wpAny_newObj_type (wpAny_pure ⟨_, rfl, wpAny_pure h⟩) htake))
end HT
namespace LF
open PySem PySem.Spec PyProof.Rows L2
def tRevT (K : PySem.W.Frag) (te : TE) : TE := fun σ H Q => te σ H fun x H1 => ∃ a xs, x = .ref a ∧ SqT K H1 a xs ∧ ∀ p, H1 p = none → Q (.ref p) (upd H1 p (.tup xs.reverse))
theorem pe_revT {X : Cx} {e : Expr} {te : TE} {k : Nat} {p1 p2 p3 pos : Pos} (he : PE X e te) : PE X (.Subscript e (.Slice none none (some (.UnaryOp .USub (.Constant (.int 1) k p1) p2)) p3) pos) (tRevT X.K te) := by
  refine ⟨fun pins s σ H Q I h => ?_⟩
  refine Subscript_ (thn (he.run pins s σ H _ I h) fun v s1 ⟨x, H1, I1, r1, q1⟩ => ?_)
  obtain ⟨a, xs, ex, hx, q⟩ := q1
  subst ex
  cases r1
  have hst : PO X (some (.UnaryOp .USub (.Constant (.int 1) k p1) p2)) (tPart (tUn (rU fun i => .int (-i)) (tC (.int 1)))) := po_some (pe_un un_neg pe_int)
  refine wpAny_Slice (thn (po_none.run pins s1 σ H1 (fun o H2 => o = none ∧ H2 = H1) I1 ⟨rfl, rfl⟩) fun vl s2 ⟨l, H2, I2, pl, el, e2⟩ => ?_)
  subst el e2
  cases pl
  refine thn (po_none.run pins s2 σ H2 (fun o H3 => o = none ∧ H3 = H2) I2 ⟨rfl, rfl⟩) fun vu s3 ⟨u, H3, I3, pu, eu, e3⟩ => ?_
  subst eu e3
  cases pu
  refine thn (hst.run pins s3 σ H3 (fun o H4 => o = some (-1) ∧ H4 = H3) I3 ⟨1, rfl, -1, rfl, rfl, rfl⟩) fun vs s4 ⟨o, H4, I4, ps, eo, e4⟩ => ?_
  subst eo e4
  have I5 : Inv X pins σ H4 { s4 with heap := s4.heap.push { cls := .type "slice", data := .fields #[.none, .none, vs] } } := I4.kept (t' := s4.toks) fun b ob q => Heap.get?_push_of_some _ q
  obtain ⟨its, r, ht, hz⟩ := I5.tuple hx
  have hlen : its.toArray.size = xs.length := by rw [List.size_toArray]; exact r.length.symm
  show wpAny (model X.prog X.w) X.A (subscriptTail e (.Slice none none (some (.UnaryOp .USub (.Constant (.int 1) k p1) p2)) p3) (.ref a) (.ref s4.heap.objs.size)) (EP X pins σ Q) X.xe { s4 with heap := s4.heap.push { cls := .type "slice", data := .fields #[.none, .none, vs] } }
  refine tail_any (ops := [.ref a, .ref s4.heap.objs.size]) ht.typeIs PyProof.Rows.slot_tuple_getitem.lookup ?_ (by with_unfolding_all rfl)
  refine HT.getItem_tuple_rev ht (Heap.IsSliceOf.new _ .none .none vs) ps ?_ (by rw [hlen]; exact hz)
  refine ⟨.ref _, _, I5.laid (t' := s4.toks) (o := .tup xs.reverse) (fun b ob q => Heap.get?_push_of_some _ q) (Nat.le_refl _) ?_, rfl, q _ (I5.hok.fresh (Nat.le_refl _))⟩
  exact ⟨by rw [List.length_reverse]; exact hz, _, r.reverse, IsTup.new _ _⟩
def fRevT : F1 := fun d M => match d with
  | .tup ds => .ok (.tup ds.reverse) M
  | _ => .no
theorem de_revT {X : Cx} {W : WX} {e : Expr} {de : DE} {k : Nat} {p1 p2 p3 pos : Pos} (he : DEx X W e de) : DEx X W (.Subscript e (.Slice none none (some (.UnaryOp .USub (.Constant (.int 1) k p1) p2)) p3) pos) (dUn fRevT de) := by
  obtain ⟨_, p, s⟩ := he
  refine ⟨_, pe_revT p, fun φ M H σ r Q S E h => ?_⟩
  refine s φ M H σ r _ S E (Okd.bind h fun d M1 v φ1 H1 _ g1 S1 r1 h1 => ?_)
  unfold fRevT at h1
  cases d with
  | tup ds =>
    unfold Rep at r1
    obtain ⟨a, xs, rfl, h2, h3⟩ := r1
    refine ⟨a, xs, rfl, h2.sq, fun p hp => ?_⟩
    exact h1 _ _ _ (Grow.new hp) (S1.new hp) (rep_tup_new S1 hp h3.rev)
  | _ => exact h1.elim
@[simp] theorem fRevT_tup {ds : List D} {M : Mem} : fRevT (.tup ds) M = .ok (.tup ds.reverse) M := rfl
end LF
set_option Elab.async false
set_option linter.all false
set_option maxRecDepth 100000
set_option maxHeartbeats 4000000
namespace LF
open PySem PySem.Spec PyProof.Rows L2
def fEqS : F2 := fun x y M => match x, y with
  | .str s, .str t => .ok (.bl (s == t)) M
  | _, _ => .no
theorem o_eqS {K : Frg} : Op2 K rEq fEqS := by
  intro φ M H x y a b Q W S ra rb h
  cases a with
  | str s =>
    cases b with
    | str t =>
      have h : Okd K φ H (RE K) (.ok (.bl (s == t)) M) Q W := h
      rw [rep_str_inv ra, rep_str_inv rb]
      refine ⟨rfl, ?_⟩
      rw [dec_str]
      exact okB S h
    | _ => exact h.elim
  | _ => exact h.elim
@[simp] theorem fEqS_same {s : Str} {M : Mem} : fEqS (.str s) (.str s) M = .ok (.bl true) M := by
  unfold fEqS
  simp
end LF
set_option Elab.async false
set_option linter.all false
set_option maxRecDepth 100000
set_option maxHeartbeats 4000000
namespace LF
open PySem PySem.Spec PyProof.Rows L2
/-- v is a pair of a text and an object -/
def PairR (h : Heap) (v : Value) (y : Str) : Prop := ∃ (a : Addr) (t : Tok) (c : Addr), v = .ref a ∧ IsTup h a #[.str y t, .ref c]
theorem PairR.keeps {h h' : Heap} {v : Value} {y : Str} (x : PairR h v y) (k : ∀ b o, h.get? b = some o → o.cls = .type "tuple" → h'.get? b = some o) : PairR h' v y := by
  obtain ⟨a, t, u, e, ⟨o, ho, hc, r⟩⟩ := x
  exact ⟨a, t, u, e, o, k _ _ ho hc, hc, r⟩
end LF
set_option Elab.async false
set_option linter.all false
set_option maxRecDepth 100000
set_option maxHeartbeats 4000000
namespace LF
open PySem PySem.Spec PyProof.Rows L2
def isTupO : Out D → Bool
  | .ok (.tup _) _ => true
  | _ => false
noncomputable def dItU (de : DE) : DI := fun r M => match isTupO (de r M) with
  | true => dItT de r M
  | false => dItL de r M
section
variable {X : Cx} {W : WX} {tg e : Expr} {de : DE}
theorem di_tl (he : DEx X W e de) : DIx X W tg e (dItU de) := by
  obtain ⟨w1, p1, s1⟩ := di_tup (tg := tg) he
  obtain ⟨w2, p2, s2⟩ := di_list (tg := tg) he
  refine ⟨fun σ H R => w1 σ H R ∨ w2 σ H R, ⟨fun pins s σ H R I h => ?_⟩, fun φ M H σ r R S E h => ?_⟩
  · rcases h with h | h
    · exact p1.run pins s σ H R I h
    · exact p2.run pins s σ H R I h
  · unfold dItU at h
    split at h
    · exact .inl (s1 φ M H σ r R S E h)
    · exact .inr (s2 φ M H σ r R S E h)
end
noncomputable def itUK (o : Out D) : Out Src := match isTupO o with
  | true => itTK o
  | false => itLK o
@[simp] theorem dItU_K {da : DE} {r : Env'} {M : Mem} : dItU da r M = itUK (da r M) := rfl
@[simp] theorem itUK_tup {ds : List D} {M : Mem} : itUK (.ok (.tup ds) M) = .ok ⟨ds, anyM⟩ M := rfl
theorem itUK_L {T : D} {M M1 : Mem} {s : Src} (h : itLK (.ok T M) = .ok s M1) : itUK (.ok T M) = .ok s M1 := by
  cases T with
  | tup ds => cases h
  | _ => exact h
end LF
set_option Elab.async false
set_option linter.all false
set_option maxRecDepth 100000
set_option maxHeartbeats 4000000
namespace LF
open PySem PySem.Spec PyProof.Rows L2
/-- the promise of a def, made to callers alone that hold no guard -/
def RunG (P : Program) (w : World) (K : Frg) (mg : Str → Option Value) (base : Heap) (CX : CXT) (k : Nat) (f : Addr) (fd : FuncData) (ps : List Str) (sp : Sp) : Prop :=
  ∀ (A : Around) (outer : List Env) (s : Shared) (H : Hp) (args : Args) (us : List Value) (vs : List V) (Q : VK) (E : XK), A.guards = some [] → Room k A → Env0 P w K mg base A outer s H → BindsTo s fd args (ps.zip us) → Vals vs us → sp vs H Q E →
    codeAny (model P w) A (.call (.ref f) args) (CR CX outer P w H s Q E) s
section
variable {P : Program} {w : World} {K : Frg} {mg : Str → Option Value} {base : Heap}
theorem run_by {m : Md} {x qual : Str} {params : Arguments} {body : List Stmt} {scope : Scope} {dvs : List V} {kws : List (Str × V)} {f : Addr} {fd : FuncData} {N ps : List Str} {k : Nat} {b : DS} {F : FN} (G : FunD K x qual params body scope dvs kws f fd) (S : FnScope N ps scope)
    (hb : ∀ (cdv : Value) (A : Around) (outer : List Env) (s : Shared) (H : Hp) (E : XK), (A.deeper (envOfC qual scope s.heap.objs.size f cdv)).guards = some [] → Room k (A.deeper (envOfC qual scope s.heap.objs.size f cdv)) → Tk m (cxOf (CXm m P w) P w K mg base N qual scope f cdv A outer s H E) (fun cls d _ H => E cls d H) →
      PassesOwn (model P w) (A.deeper (envOfC qual scope s.heap.objs.size f cdv)) (envOfC qual scope s.heap.objs.size f cdv) (cxOf (CXm m P w) P w K mg base N qual scope f cdv A outer s H E).xe →
      DBx (cxOf (CXm m P w) P w K mg base N qual scope f cdv A outer s H E) (fun cls d _ H => E cls d H) body b)
    (hF : ∀ ds M, ds.length = ps.length → F ds M ≠ .no → F ds M = runB N.length b ds M) : RunG P w K mg base (CXm m P w) (k + 1) f fd ps (SpD K ps.length F) := by
  intro A outer s H args us vs Q E g hr e0 hbi rv hsp
  obtain ⟨oc, od, dV, kV, doc, pm, an, cdv, ct, osl, rfl, lk, hcd, _, _⟩ := G.ex
  obtain ⟨φ, M, ds, e, St, r, h⟩ := hsp
  have hlen : vs.length = ps.length := by rw [r.len, e]
  have stays : ∀ b o, base.get? b = some o → s.heap.get? b = some o := fun b o q => (e0.bs b o q).1
  have kin : K.In s.heap := e0.mod.kin.keeps stays
  have lims : s.heap.NoLimit := e0.mod.nolimit.keeps stays
  refine codeAny_call_function hr.depth (kin _ _ lk) rfl S.co S.gen rfl (PySem.W.codeRec_of kin hcd) (hbi _ _ _ _ ?_)
  refine wpAny_newFunctionEnv_cells S.kind (fun y hy => ?_) fun env he s1 inn => ?_
  · obtain ⟨n, v⟩ := y
    rcases S.par n (List.of_mem_zip hy).1 with q | q
    · exact .inl q
    · exact .inr ⟨q, PySem.W.cellsFrom_some _ _ _ (.inl q)⟩
  subst he
  refine ⟨lims.keeps inn.toInCall.keep, codeAny_func ?_⟩
  obtain ⟨t, p, sim⟩ := hb cdv A outer s H E g (hr.deeper _) tk_of (passes_of rfl)
  have start : Inv (cxOf (CXm m P w) P w K mg base N qual scope f cdv A outer s H E) [] (L2.start N vs) H s1 := inv_start S hr.hd e0 hlen rv inn
  have ne : F ds M ≠ .no := fun z => by rw [z] at h; exact h
  rw [hF ds M e ne] at h
  unfold runB at h
  have ht : t { nx := fun _ H' => Q .non H', rt := Q } (L2.start N vs) H := by
    refine sim φ M H _ (ds.map some ++ List.replicate (N.length - ds.length) none) _ St (EnvR.start N r) ?_
    cases q : b (ds.map some ++ List.replicate (N.length - ds.length) none) M with
    | nx r1 M1 => rw [q] at h; exact fun σ' φ' H' g S' er' => h _ φ' H' g S' rep_non
    | rt d M1 => rw [q] at h; exact h
    | ex x r1 M1 => rw [q] at h; exact fun c dd σ' φ' H' g S' _ x => h c dd φ' H' g S' x
    | bk r1 M1 => rw [q] at h; exact h.elim
    | ct r1 M1 => rw [q] at h; exact h.elim
    | no => rw [q] at h; exact h.elim
  refine wpAny_mono (p.run [] s1 (L2.start N vs) H _ start ht) (fun fl s' hs => ?_) fun e s' hs => hs
  cases fl with
  | next => obtain ⟨σ', H', J, q⟩ := hs; exact ⟨V.non, H', J.os, J.bare, J.base, J.hok, rfl, q⟩
  | ret u => obtain ⟨v, σ', H', J, ru, q⟩ := hs; exact ⟨v, H', J.os, J.bare, J.base, J.hok, ru, q⟩
  | brk => obtain ⟨_, _, _, q⟩ := hs; exact q.elim
  | cont => obtain ⟨_, _, _, q⟩ := hs; exact q.elim
end
/-- the law's call: the script alone is known at its beginning -/
theorem law_callG {P : Program} {w : World} {K : Frg} {mg mb : Str → Option Value} {CX : CXT} {k : Nat} {fa a : Addr} {fd : FuncData} {x : Str} {sp : Sp} {s₁ : Shared} {vs : List Value} {ns : List Int}
    (KX : K.In s₁.heap) (hns : s₁.heap.Ns mainGlobals mg) (hb : s₁.heap.Ns builtinsNs mb) (hbb : ∀ x : Str, x ≠ "__name__" → mb x = bootBuiltins x) (hlim : s₁.heap.NoLimit) (hg : s₁.gens = #[])
    (ha : s₁.heap.get? a = some { cls := .type "list", data := .seq vs.toArray }) (hi : IntsAre vs ns) (hl : ns.length ≤ sizeLine) (hr : Room k callerA)
    (F : ∀ base : Heap, K.In base → base.Ns mainGlobals mg → RunG P w K mg base CX k fa fd [x] sp) (hbind : ∀ (s : Shared) (u : Value), BindsTo s fd ⟨[u], []⟩ [(x, u)])
    (hsp : ∀ H : Hp, SqL K H a (ns.map V.int) → sp [.ref a] H (fun v _ => v = .bl true) fun _ _ _ => False)
    (hCX : ∀ H e s', CX [] H s₁ (fun _ _ _ => False) e s' → False) :
    codeAny (model P w) callerA (.call (.ref fa) ⟨[.ref a], []⟩) (fun r s' => r = .ok (.ret (.bool true)) ∧ OldK s₁.heap s'.heap ∧ s'.os = s₁.os ∧ AllBare s'.gens) s₁ := by
  have rv := vals_ints hi
  have lenV := hi.length
  -- the abstract heap: it tracks the script, or nothing where the script is the module's own
  have go : ∀ H : Hp, (∀ b, H b = none ∨ (b = a ∧ H b = some (.frz { cls := .type "list", data := .seq vs.toArray } (.lst (ns.map V.int))))) → (∀ b, H b ≠ none → K.lookup b = none) → SqL K H a (ns.map V.int) → HOk P w H s₁.heap →
      codeAny (model P w) callerA (.call (.ref fa) ⟨[.ref a], []⟩) (fun r s' => r = .ok (.ret (.bool true)) ∧ OldK s₁.heap s'.heap ∧ s'.os = s₁.os ∧ AllBare s'.gens) s₁ := by
    intro H hH hK hS hok
    have dicts : ∀ {b : Addr} {o : Obj} {es : Array DictEntry} {ep : Nat}, s₁.heap.get? b = some o → o.data = .dict es ep → H b = none := fun {b o es ep} e d => by
      rcases hH b with z | ⟨z, _⟩
      · exact z
      · subst z
        rw [ha] at e
        cases e
        exact nomatch d
    have ns_ : ∀ {b : Addr} {m : Str → Option Value}, s₁.heap.Ns b m → (hidT s₁.heap H).Ns b m := fun {b m} ⟨o, es, ep, e, d, r⟩ => ⟨o, es, ep, hidT_get e (dicts e d), d, r⟩
    have kin : K.In (hidT s₁.heap H) := fun b o e => hidT_get (KX b o e) (Classical.byContradiction fun z => by rw [hK b z] at e; cases e)
    obtain ⟨mc, l1, l2⟩ := hlim
    have e0 : Env0 P w K mg (hidT s₁.heap H) callerA [] s₁ H := ⟨rfl, ⟨kin, ns_ hns, ⟨mb, ns_ hb, hbb⟩, ⟨mc, ns_ l1, l2⟩⟩, fun b o e => of_hidT e, Nat.le_of_eq (hidT_size _ _), trivial, fun b hb => absurd (show b ∈ ([] : List Addr) from hb) (by simp), hok, .of_eq hg⟩
    refine codeAny_mono (F _ kin (ns_ hns) callerA [] s₁ H ⟨[.ref a], []⟩ [.ref a] [.ref a] _ _ rfl hr e0 (hbind s₁ (.ref a)) (.cons rfl .nil) (hsp H hS)) fun r s' h => ?_
    match r, h with
    | .error e, h => exact (hCX H e s' h).elim
    | .ok .next, h => exact False.elim h
    | .ok .brk, h => exact False.elim h
    | .ok .cont, h => exact False.elim h
    | .ok (.ret u), h =>
      obtain ⟨v, H', os, bare, un, hok', ru, q⟩ := h
      have q : v = .bl true := q
      subst q
      obtain rfl : u = Value.bool true := ru
      refine ⟨rfl, OldK.of_keep fun b o e => ?_, os, bare⟩
      rcases hH b with z | ⟨z1, z⟩
      · exact un.keep b o e z (fun y => absurd (show b ∈ ([] : List Addr) from y) (by simp)) (by simp)
      · obtain ⟨e1, _⟩ := hok b _ z
        obtain ⟨e2, _⟩ := hok' b _ (un.frzs b _ _ z)
        rw [e] at e1
        cases e1
        exact e2
  by_cases hk : K.lookup a = none
  · have at_a : ∀ b (u : HO), (if b = a then some (HO.frz { cls := .type "list", data := .seq vs.toArray } (.lst (ns.map V.int))) else none) = some u → b = a ∧ u = .frz { cls := .type "list", data := .seq vs.toArray } (.lst (ns.map V.int)) := fun b u z => by
      by_cases e : b = a
      · rw [if_pos e] at z
        exact ⟨e, (Option.some.inj z).symm⟩
      · rw [if_neg e] at z
        cases z
    refine go (fun b => if b = a then some (.frz { cls := .type "list", data := .seq vs.toArray } (.lst (ns.map V.int))) else none) (fun b => ?_) (fun b z => ?_) (.inl (.inr ⟨_, if_pos rfl⟩)) fun b u z => ?_
    · by_cases e : b = a
      · exact .inr ⟨e, if_pos e⟩
      · exact .inl (if_neg e)
    · by_cases e : b = a
      · rw [e]; exact hk
      · exact absurd (if_neg e) z
    · obtain ⟨rfl, rfl⟩ := at_a b u z
      exact ⟨ha, by rw [List.length_map]; exact hl, vs, _, rv, ha⟩
  · obtain ⟨o, hk⟩ := Option.ne_none_iff_exists'.mp hk
    have e := KX a o hk
    rw [ha] at e
    cases e
    exact go (fun _ => none) (fun _ => .inl rfl) (fun b z => absurd rfl z) (.inr ⟨_, vs.toArray, _, hk, rfl, rfl, rfl, by rw [List.size_toArray, lenV]; exact hl, by simpa using rv⟩) fun b u z => nomatch (show (none : Option HO) = some u from z)
theorem law_walkG {l : PySem.W.OpenLaw} {n k : Nat} {q : Program} {loose : List Str} {XP : (Str → Option Value) → Heap → Prop} {YP : World → Heap → Prop} {d : DefRec} {x : Str} {F : FN}
    (hm : l.most = some n) (h63 : n ≤ sizeLine) (hd : d.params.defaults = []) (hr : Room k callerA)
    (B : ∀ (w : World) (mg : Str → Option Value) (f : Addr) (h : Heap), YP w h → h.Ns mainGlobals mg → mg d.name = some (.ref f) → ∃ (K : Frg) (fd : FuncData), K.In h ∧ (∀ (s : Shared) (v : Value), BindsTo s fd ⟨[v], []⟩ [(x, v)]) ∧
      ∀ base : Heap, K.In base → base.Ns mainGlobals mg → RunG l.prog w K mg base (L2.CX l.prog w) k f fd [x] (SpD K 1 F))
    (hF : ∀ ns : List Int, ns.length ≤ n → ∃ M, F [.lst (ns.map .int)] [] = .ok (.bl true) M) : PySem.W.WalkO q loose XP YP l.row.toRowW d [] (fun f vs => PySem.call f vs) := by
  refine Att.attach_call hm hd fun w s0 s1 mg mb f o pm cd doc a vs ns G Y o1 o2 o3 hg ob ii le bt => ?_
  obtain ⟨K, fd, KX, bi, ok⟩ := B w mg f _ Y G.T.g hg
  refine law_callG KX G.T.g G.T.b G.T.builtins G.T.nolimit bt ob ii (Nat.le_trans le h63) hr ok bi (fun H hS => law_sp hS (hF ns le)) fun H e s' z => ?_
  obtain ⟨_, _, _, _, _, _, _, _, _, _, _, _, z⟩ := z
  exact z
end LF
set_option Elab.async false
set_option linter.all false
set_option maxRecDepth 100000
set_option maxHeartbeats 4000000
namespace LF
open PySem PySem.Spec PyProof.Rows L2
theorem strs_vals : ∀ {ss : List Str} {its : List Value}, Vals (ss.map V.str) its → StrsAre its ss
  | [], _, h => by cases h; exact .nil
  | s :: ss, _, h => by
    cases h with
    | cons r1 r2 =>
      obtain ⟨t, rfl⟩ := r1
      exact .cons s t (strs_vals r2)
def rSortTL (K : Frg) : List V → Hp → VK → Prop := fun vs H Q => ∃ (a : Addr) (ss : List Str), vs = [V.ref a] ∧ SqL K H a (ss.map V.str) ∧ ss.length ≤ 100000 ∧
  ∀ (ns : List Str) p, ns.Perm ss → (ns.Pairwise fun a b => leS a b = true) → H p = none → Q (.ref p) (upd H p (.lst (ns.map V.str)))
theorem cr_sortTL {X : Cx} : CallR X (.builtin "sorted") (rSortTL X.K) := by
  intro pins s σ H vs us Q I r h
  obtain ⟨l, ss, rfl, hl, few, q⟩ := h
  rw [Vals.ref1 r]
  obtain ⟨its, rv, pl, len⟩ := I.list hl
  have ia := strs_vals rv
  have ln : its.length = ss.length := by rw [← rv.length, List.length_map]
  have sl : its.length ≤ sizeLine := by rw [ln, sizeLine_eq]; omega
  refine SrtO.sorted_ord swo_str pl.isList sl (fun two h₁ a ha k => strs_sortable ia two) fun out o1 o2 => ?_
  obtain ⟨w1, w2, w3⟩ := strs_out ia o1 o2
  have few2 : ((out.map svO).map V.str).length ≤ sizeLine := by rw [List.length_map, w2.length_eq, sizeLine_eq]; omega
  obtain ⟨ep, he'⟩ := PyProof.Rows.sortedAll_at s.heap its out.toArray
  exact ⟨.ref _, upd H (s.heap.objs.size + 1) (.lst ((out.map svO).map V.str)), I.laid (t' := s.toks) (fun _ _ => PyProof.Rows.sortedAll_old) (Nat.le_succ _) ⟨few2, out, ep, vals_of_strs w1, he'⟩, rfl, q _ _ w2 w3 (I.hok.fresh (Nat.le_succ _))⟩
def fSortTL (ar : Bool) : FN := on1 fun d M => match (lstOf M d).bind strsOf with
  | some ss => (match lineB ss.length with
    | true => newL ar ((sortS ss).map .str) M
    | false => .no)
  | none => .no
theorem o_sortTL {K : Frg} {ar : Bool} : OpN K (rSortTL K) (fSortTL ar) := by
  intro φ M H xs ds Q W S r h
  replace h := on1_inv h
  obtain ⟨d, rfl, h⟩ := h
  obtain ⟨v, w, rfl, r1, r2⟩ := r.inv
  rw [r2.inv0]
  cases e1 : lstOf M d with
  | none => rw [e1] at h; exact h.elim
  | some es =>
    rw [e1, Option.bind_some] at h
    cases e2 : strsOf es with
    | none => rw [e2] at h; exact h.elim
    | some ss =>
      rw [e2] at h
      have h : Okd K φ H (RE K) (match lineB ss.length with
        | true => newL ar ((sortS ss).map .str) M
        | false => .no) Q W := h
      cases e3 : lineB ss.length with
      | false => rw [e3] at h; exact h.elim
      | true =>
        rw [e3] at h
        obtain ⟨l, ys, rfl, h1, r3⟩ := lstOf_rep S r1 e1
        have hy := strs_rep r3 e2
        subst hy
        have few : ss.length ≤ 100000 := Nat.le_of_ble_eq_true e3
        refine ⟨l, ss, rfl, h1, few, fun ns p pm pw hp => ?_⟩
        rw [sortS_one pm pw]
        exact (newL_here S (repL_strs _) h).2 p hp
theorem fSortTL_of {ar : Bool} {ds : List D} {ss : List Str} {M : Mem} (h : strsOf ds = some ss) (hl : ss.length ≤ 100000) : fSortTL ar [.lst ds] M = newL ar ((sortS ss).map .str) M := by
  unfold fSortTL on1
  dsimp only [lstOf]
  rw [Option.bind_some, h]
  dsimp only
  rw [lineB_of hl]
end LF
set_option Elab.async false
set_option linter.all false
set_option maxRecDepth 100000
set_option maxHeartbeats 4000000
namespace LF
open PySem PySem.Spec PyProof.Rows L2
end LF
set_option Elab.async false
set_option linter.all false
set_option maxRecDepth 100000
set_option maxHeartbeats 4000000
namespace LF
open PySem PySem.Spec PyProof.Rows L2
end LF
set_option Elab.async false
set_option linter.all false
set_option maxRecDepth 100000
set_option maxHeartbeats 4000000
namespace LF
open PySem PySem.Spec PyProof.Rows L2
/-- the exception that is handled is tracked, known to its fields, its context None -/
def HotT (X : Cx) : Prop := ∃ (a : Addr) (o : Obj) (u : HO) (vs : Array Value), X.A.handled = some (.ref a) ∧ X.H_0 a = some (.frz o u) ∧ o.data = .fields vs ∧ vs[2]? = some .none
def Quiet (X : Cx) : Prop := X.A.handled = none ∨ HotT X
abbrev Cx.blkX (X : Cx) (s : Shared) (H : Hp) (scope : Scope) (ce : Env) (fp : List Addr) (xe : Value → Shared → Prop) : Cx := { X.blk s H scope ce fp with xe := xe }
section
variable {X : Cx} {pins : List (Addr × Obj)} {σ : L2.St} {H : Hp} {s : Shared}
theorem Quiet.blk (q : Quiet X) (I : Inv X pins σ H s) {s' : Shared} {scope : Scope} {ce : Env} {fp : List Addr} {xe : Value → Shared → Prop} : Quiet (Cx.blkX X s' H scope ce fp xe) := by
  rcases q with q | ⟨a, o, u, vs, h1, h2, h3, h4⟩
  · exact .inl q
  · exact .inr ⟨a, o, u, vs, h1, I.base.frzs a o u h2, h3, h4⟩
theorem Cx.Ok.xe (ok : X.Ok) (y : Value → Shared → Prop) : Cx.Ok { X with xe := y } :=
  ⟨ok.mod, ok.kind, ok.glob, ok.blt, ok.above, ok.inj, ok.has, ok.cab, ok.hd, ok.frames, ok.stk, ok.exf, ok.bs, ok.bsz, ok.noex, ok.exfs, ok.funs, ok.frf⟩
theorem Inv.xe (I : Inv X pins σ H s) (y : Value → Shared → Prop) : Inv { X with xe := y } pins σ H s := ⟨Cx.Ok.xe I.ok y, I.os, I.bare, I.base, I.loc, I.cell, I.free, I.freeC, I.pin, I.hok, I.len⟩
end
/-- an iterator's turns in the contexts of a kind -/
structure TurnC (C : Cx → Prop) (P : Program) (w : World) (K : PySem.W.Frag) (tg : Expr) (J : It) (fp : List Addr) (it : Addr) (tn : Nat → Heap → Prop) : Prop where
  obj : ∀ i h, tn i h → ∀ b ∈ fp, ∃ o, h.get? b = some o ∧ ∀ v, o.data ≠ .cell v
  keep : ∀ i h h', tn i h → (∀ b ∈ fp, ∀ o, h.get? b = some o → h'.get? b = some o) → tn i h'
  item : ∀ (X : Cx), C X → X.prog = P → X.w = w → X.K = K → ∀ (i : Nat) (pins : List (Addr × Obj)) (s : Shared) (σ : L2.St) (H : Hp) (E : Value → Shared → Prop), Inv X pins σ H s → (∀ b ∈ fp, FpOk X pins H b) → tn i s.heap → J.go i H →
    wpAny (model P w) X.A (pyNext (.ref it)) (fun r s1 => ∃ u, r = some u ∧ wpAny (model P w) X.A (letOwnedTupleGo tg (.ref it) u) (fun _ s2 => ∃ x H', Inv X pins σ H' s2 ∧ RelV x u ∧ J.yld i H x H' ∧ tn (i + 1) s2.heap ∧ ∀ b ∈ fp, H' b = none) E s1) E s
  done : ∀ (X : Cx), C X → X.prog = P → X.w = w → X.K = K → ∀ (i : Nat) (pins : List (Addr × Obj)) (s : Shared) (σ : L2.St) (H : Hp) (E : Value → Shared → Prop), Inv X pins σ H s → (∀ b ∈ fp, FpOk X pins H b) → tn i s.heap → J.stop i H →
    wpAny (model P w) X.A (pyNext (.ref it)) (fun r s1 => r = none ∧ Inv X pins σ H s1) E s
  self : ∀ (A : Around) (i : Nat) (s : Shared) (Q : Value → Shared → Prop) (E : Value → Shared → Prop), tn i s.heap → Q (.ref it) s → wpAny (model P w) A (pyIter (.ref it)) Q E s
def PIEC (C : Cx → Prop) (X : Cx) (pins : List (Addr × Obj)) (σ : L2.St) (tg : Expr) (R : It → Hp → Prop) (itv : Value) (s2 : Shared) : Prop :=
  ∃ (it : Addr) (fp : List Addr) (tn : Nat → Heap → Prop) (J : It) (H' : Hp), itv = .ref it ∧ Inv X pins σ H' s2 ∧ TurnC C X.prog X.w X.K tg J fp it tn ∧ tn 0 s2.heap ∧ (∀ b ∈ fp, FpOk X pins H' b) ∧ R J H'
structure PIC (C : Cx → Prop) (X : Cx) (tg iter : Expr) (wi : TI) : Prop where
  run : ∀ (pins : List (Addr × Obj)) (s : Shared) (σ : L2.St) (H : Hp) (R : It → Hp → Prop), Inv X pins σ H s → wi σ H R → wpAny (model X.prog X.w) X.A (eval iter X.env) (fun v s1 => wpAny (model X.prog X.w) X.A (pyIter v) (PIEC C X pins σ tg R) X.xe s1) X.xe s
abbrev Calm : Cx → Prop := fun X => X.calm = true
theorem PI.c {X : Cx} {tg iter : Expr} {wi : TI} (h : PI X tg iter wi) : PIC Calm X tg iter wi := ⟨fun pins s σ H R I hw => thn (h.run pins s σ H R I hw) fun v s1 h1 => thn h1 fun itv s2 ⟨it, fp, tn, J, H', e, I2, T, t0, f, r⟩ =>
  ⟨it, fp, tn, J, H', e, I2, ⟨T.obj, T.keep, fun X c hP hw hK => T.item X hP hw hK c, fun X c hP hw hK => T.done X hP hw hK c, T.self⟩, t0, f, r⟩⟩
end LF
set_option Elab.async false
set_option linter.all false
set_option maxRecDepth 100000
set_option maxHeartbeats 4000000
namespace LF
open PySem PySem.Spec PyProof.Rows L2
/-- the turns; an element may raise -/
def compX (chk : Mem → Bool) (dg : DG) (dt : DT) (de : DE) (r0 : Env') : List D → List D → Mem → Out (List D)
  | [], acc, M => (match chk M with
    | true => .ok acc M
    | false => .no)
  | d :: ds, acc, M => match chk M with
    | true => (match dg d r0 M with
      | .ok r1 M1 => (match dt r1 M1 with
        | .ok true M2 => (match de r1 M2 with
          | .ok y M3 => (match lineB acc.length with
            | true => compX chk dg dt de r0 ds (acc ++ [y]) M3
            | false => .no)
          | .ex e M3 => .ex e M3
          | .no => .no)
        | .ok false M2 => compX chk dg dt de r0 ds acc M2
        | _ => .no)
      | _ => .no)
    | false => .no
def dCompX (di : DI) (dg : DG) (dt : DT) (de : DE) (vs : List Nat) : DE := fun r M => (di r M).bind fun src M1 => (compX src.chk dg dt de (wipeD r vs) src.items [] M1).bind fun ys M2 => .ok (.lst ys) M2
section
variable {X : Cx} {W : WX} {pos : Pos}
def DIc (C : Cx → Prop) (X : Cx) (W : WX) (tg iter : Expr) (di : DI) : Prop := ∃ wi, PIC C X tg iter wi ∧ SimI X.K W wi di
theorem DIx.c {tg iter : Expr} {di : DI} (h : DIx X W tg iter di) : DIc Calm X W tg iter di := h.elim fun wi q => ⟨wi, PI.c q.1, q.2⟩
end
end LF
set_option Elab.async false
set_option linter.all false
set_option maxRecDepth 100000
set_option maxHeartbeats 4000000
namespace LF
open PySem PySem.Spec PyProof.Rows L2
end LF
set_option Elab.async false
set_option linter.all false
set_option maxRecDepth 100000
set_option maxHeartbeats 4000000
namespace LF
open PySem PySem.Spec PyProof.Rows L2
end LF
set_option Elab.async false
set_option linter.all false
set_option maxRecDepth 100000
set_option maxHeartbeats 8000000
namespace K03
open PySem PySem.Spec PyProof.Rows L2 LF
noncomputable section
def top (i : Nat) : Stmt := PySem.Challenge.pw_leafhouse_k03_keys_values_pages.main.body.getD i (.Pass ⟨0, 0, 0, 0⟩)
def c_SIGNS : Str := "0123456789abcdefghijklmnopqrstuvwxyzABCDEFGHIJKLMNOPQRSTUVWXYZ+-"
def xtab : XTab := [("BadPage", ["BadPage", "TableError"]), ("BadSize", ["BadSize", "TableError"])]
def xU : List Str := ["BadNumber", "BadText", "BadSize", "BadKey", "BadValue", "BadPage", "NoKey", "InBundle", "NoBundle", "PowerGone", "Closed", "BadLine"]
def xV : List Str := ["TableError"]
def itab : ITab := [("Head", ["top", "depth", "amount", "free"]), ("Leaf", ["entries"]), ("Fork", ["parting", "kids"]), ("Rest", ["text", "behind"]), ("Free", ["behind"])]
abbrev s_BadPage___init__ : Stmt := sub (top 8) 0
abbrev s_is_whole : Stmt := top 21
abbrev s_is_text : Stmt := top 22
abbrev s_Head___init__ : Stmt := sub (top 39) 0
abbrev s_Head_letter : Stmt := sub (top 39) 1
abbrev s_Head_leads : Stmt := sub (top 39) 4
abbrev s_Leaf___init__ : Stmt := sub (top 40) 0
abbrev s_Leaf_letter : Stmt := sub (top 40) 1
abbrev s_Leaf_leads : Stmt := sub (top 40) 4
abbrev s_Fork___init__ : Stmt := sub (top 41) 0
abbrev s_Fork_letter : Stmt := sub (top 41) 1
abbrev s_Fork_leads : Stmt := sub (top 41) 4
abbrev s_Rest___init__ : Stmt := sub (top 42) 0
abbrev s_Rest_letter : Stmt := sub (top 42) 1
abbrev s_Rest_leads : Stmt := sub (top 42) 4
abbrev s_Free___init__ : Stmt := sub (top 43) 0
abbrev s_Free_letter : Stmt := sub (top 43) 1
abbrev s_Free_leads : Stmt := sub (top 43) 4
abbrev s_has_word : Stmt := top 44
abbrev s__law_cell_at : Stmt := top 58
abbrev s__law_signs : Stmt := top 61
abbrev s__law_digits : Stmt := top 63
abbrev s__law_number : Stmt := top 71
abbrev s__law_odd : Stmt := top 75
abbrev s__law_bent : Stmt := top 79
abbrev s_digits : Stmt := top 23
abbrev s_is_number : Stmt := top 30
abbrev s_is_key : Stmt := top 31
abbrev s_is_value : Stmt := top 32
abbrev s_is_size : Stmt := top 50
abbrev s__law_next : Stmt := top 59
abbrev s__law_text : Stmt := top 62
abbrev s__law_body : Stmt := top 68
abbrev s__law_good_text : Stmt := top 70
abbrev s_check_of : Stmt := top 24
abbrev s_are_keys : Stmt := top 33
abbrev s_is_cell : Stmt := top 34
abbrev s_cell_body : Stmt := top 36
abbrev s_key_body : Stmt := top 37
abbrev s_Head_body : Stmt := sub (top 39) 2
abbrev s_Rest_body : Stmt := sub (top 42) 2
abbrev s_Free_body : Stmt := sub (top 43) 2
abbrev s_need_size : Stmt := top 51
abbrev s__law_rising : Stmt := top 65
abbrev s__law_cell : Stmt := top 66
abbrev s__law_rise : Stmt := top 72
abbrev s__law_is_cell : Stmt := top 73
abbrev s_is_row : Stmt := top 35
abbrev s_Leaf_body : Stmt := sub (top 40) 2
abbrev s_Fork_body : Stmt := sub (top 41) 2
abbrev s__law_page : Stmt := top 67
abbrev s__law_is_page : Stmt := top 74
abbrev s_made : Stmt := top 45
abbrev s_is_page : Stmt := top 52
abbrev s_need_page : Stmt := top 53
abbrev s_body_of : Stmt := top 54
abbrev s_leads_to : Stmt := top 55
abbrev s_page_text : Stmt := top 56
abbrev s__law_looks : Stmt := top 78
abbrev s__law_refused : Stmt := top 77
abbrev s__law_many_rows : Stmt := top 80
abbrev s__law_spoilt : Stmt := top 76
abbrev s_law : Stmt := top 81
structure Top (K : Frg) (mg : Str → Option Value) : Prop where
  g_ValueError : mg "ValueError" = none
  g_all : mg "all" = none
  g_bool : mg "bool" = none
  g_enumerate : mg "enumerate" = none
  g_int : mg "int" = none
  g_isinstance : mg "isinstance" = none
  g_len : mg "len" = none
  g_list : mg "list" = none
  g_max : mg "max" = none
  g_ord : mg "ord" = none
  g_range : mg "range" = none
  g_repr : mg "repr" = none
  g_reversed : mg "reversed" = none
  g_sorted : mg "sorted" = none
  g_str : mg "str" = none
  g_sum : mg "sum" = none
  g_tuple : mg "tuple" = none
  g_AHEAD : ∃ t, mg "AHEAD" = some (.int 31 t)
  g_AROUND : ∃ t, mg "AROUND" = some (.int 5 t)
  g_CHECK : ∃ t, mg "CHECK" = some (.int 4093 t)
  g_LEAST_SIZE : ∃ t, mg "LEAST_SIZE" = some (.int 64 t)
  g_MOST_KEY : ∃ t, mg "MOST_KEY" = some (.int 12 t)
  g_MOST_MANY : ∃ t, mg "MOST_MANY" = some (.int 3 t)
  g_MOST_NUMBER : ∃ t, mg "MOST_NUMBER" = some (.int 4095 t)
  g_MOST_ROWS : ∃ t, mg "MOST_ROWS" = some (.int 63 t)
  g_MOST_SIZE : ∃ t, mg "MOST_SIZE" = some (.int 200 t)
  g_MOST_VALUE : ∃ t, mg "MOST_VALUE" = some (.int 400 t)
  g_PERCENT : ∃ t, mg "PERCENT" = some (.int 37 t)
  g_SIGNS : ∃ t, mg "SIGNS" = some (.str c_SIGNS t)
  g_BadKey : mg "BadKey" = some (.ref (He.ga K "BadKey"))
  g_BadLine : mg "BadLine" = some (.ref (He.ga K "BadLine"))
  g_BadNumber : mg "BadNumber" = some (.ref (He.ga K "BadNumber"))
  g_BadPage : mg "BadPage" = some (.ref (He.ga K "BadPage"))
  g_BadSize : mg "BadSize" = some (.ref (He.ga K "BadSize"))
  g_BadText : mg "BadText" = some (.ref (He.ga K "BadText"))
  g_BadValue : mg "BadValue" = some (.ref (He.ga K "BadValue"))
  g_Closed : mg "Closed" = some (.ref (He.ga K "Closed"))
  g_Fork : mg "Fork" = some (.ref (He.ga K "Fork"))
  g_Free : mg "Free" = some (.ref (He.ga K "Free"))
  g_Head : mg "Head" = some (.ref (He.ga K "Head"))
  g_InBundle : mg "InBundle" = some (.ref (He.ga K "InBundle"))
  g_Leaf : mg "Leaf" = some (.ref (He.ga K "Leaf"))
  g_NoBundle : mg "NoBundle" = some (.ref (He.ga K "NoBundle"))
  g_NoKey : mg "NoKey" = some (.ref (He.ga K "NoKey"))
  g_PowerGone : mg "PowerGone" = some (.ref (He.ga K "PowerGone"))
  g_Rest : mg "Rest" = some (.ref (He.ga K "Rest"))
  g_TableError : mg "TableError" = some (.ref (He.ga K "TableError"))
  e_BadNumber : ExcOk K mg "BadNumber"
  e_BadSize : ExcOk K mg "BadSize"
  e_BadText : ExcOk K mg "BadText"
  cl_Head : Cls K (He.ga K "Head")
  cl_Leaf : Cls K (He.ga K "Leaf")
  cl_Fork : Cls K (He.ga K "Fork")
  cl_Rest : Cls K (He.ga K "Rest")
  cl_Free : Cls K (He.ga K "Free")
  g_is_whole : mg "is_whole" = some (.ref (He.ga K "is_whole"))
  g_is_text : mg "is_text" = some (.ref (He.ga K "is_text"))
  k_Head : Mk K (He.ga K "Head") (He.ma K (He.ga K "Head") "__init__")
  m_Head_letter : Meth K (He.ga K "Head") "letter" (He.ma K (He.ga K "Head") "letter")
  m_Head_leads : Meth K (He.ga K "Head") "leads" (He.ma K (He.ga K "Head") "leads")
  k_Leaf : Mk K (He.ga K "Leaf") (He.ma K (He.ga K "Leaf") "__init__")
  m_Leaf_letter : Meth K (He.ga K "Leaf") "letter" (He.ma K (He.ga K "Leaf") "letter")
  m_Leaf_leads : Meth K (He.ga K "Leaf") "leads" (He.ma K (He.ga K "Leaf") "leads")
  k_Fork : Mk K (He.ga K "Fork") (He.ma K (He.ga K "Fork") "__init__")
  m_Fork_letter : Meth K (He.ga K "Fork") "letter" (He.ma K (He.ga K "Fork") "letter")
  m_Fork_leads : Meth K (He.ga K "Fork") "leads" (He.ma K (He.ga K "Fork") "leads")
  k_Rest : Mk K (He.ga K "Rest") (He.ma K (He.ga K "Rest") "__init__")
  m_Rest_letter : Meth K (He.ga K "Rest") "letter" (He.ma K (He.ga K "Rest") "letter")
  m_Rest_leads : Meth K (He.ga K "Rest") "leads" (He.ma K (He.ga K "Rest") "leads")
  k_Free : Mk K (He.ga K "Free") (He.ma K (He.ga K "Free") "__init__")
  m_Free_letter : Meth K (He.ga K "Free") "letter" (He.ma K (He.ga K "Free") "letter")
  m_Free_leads : Meth K (He.ga K "Free") "leads" (He.ma K (He.ga K "Free") "leads")
  g_has_word : mg "has_word" = some (.ref (He.ga K "has_word"))
  g__law_cell_at : mg "_law_cell_at" = some (.ref (He.ga K "_law_cell_at"))
  g__law_signs : mg "_law_signs" = some (.ref (He.ga K "_law_signs"))
  g__law_digits : mg "_law_digits" = some (.ref (He.ga K "_law_digits"))
  g__law_number : mg "_law_number" = some (.ref (He.ga K "_law_number"))
  g__law_odd : mg "_law_odd" = some (.ref (He.ga K "_law_odd"))
  g__law_bent : mg "_law_bent" = some (.ref (He.ga K "_law_bent"))
  g_digits : mg "digits" = some (.ref (He.ga K "digits"))
  g_is_number : mg "is_number" = some (.ref (He.ga K "is_number"))
  g_is_key : mg "is_key" = some (.ref (He.ga K "is_key"))
  g_is_value : mg "is_value" = some (.ref (He.ga K "is_value"))
  g_is_size : mg "is_size" = some (.ref (He.ga K "is_size"))
  g__law_next : mg "_law_next" = some (.ref (He.ga K "_law_next"))
  g__law_text : mg "_law_text" = some (.ref (He.ga K "_law_text"))
  g__law_body : mg "_law_body" = some (.ref (He.ga K "_law_body"))
  g__law_good_text : mg "_law_good_text" = some (.ref (He.ga K "_law_good_text"))
  g_check_of : mg "check_of" = some (.ref (He.ga K "check_of"))
  g_are_keys : mg "are_keys" = some (.ref (He.ga K "are_keys"))
  g_is_cell : mg "is_cell" = some (.ref (He.ga K "is_cell"))
  g_cell_body : mg "cell_body" = some (.ref (He.ga K "cell_body"))
  g_key_body : mg "key_body" = some (.ref (He.ga K "key_body"))
  m_Head_body : Meth K (He.ga K "Head") "body" (He.ma K (He.ga K "Head") "body")
  m_Rest_body : Meth K (He.ga K "Rest") "body" (He.ma K (He.ga K "Rest") "body")
  m_Free_body : Meth K (He.ga K "Free") "body" (He.ma K (He.ga K "Free") "body")
  g_need_size : mg "need_size" = some (.ref (He.ga K "need_size"))
  g__law_rising : mg "_law_rising" = some (.ref (He.ga K "_law_rising"))
  g__law_cell : mg "_law_cell" = some (.ref (He.ga K "_law_cell"))
  g__law_rise : mg "_law_rise" = some (.ref (He.ga K "_law_rise"))
  g__law_is_cell : mg "_law_is_cell" = some (.ref (He.ga K "_law_is_cell"))
  g_is_row : mg "is_row" = some (.ref (He.ga K "is_row"))
  m_Leaf_body : Meth K (He.ga K "Leaf") "body" (He.ma K (He.ga K "Leaf") "body")
  m_Fork_body : Meth K (He.ga K "Fork") "body" (He.ma K (He.ga K "Fork") "body")
  g__law_page : mg "_law_page" = some (.ref (He.ga K "_law_page"))
  g__law_is_page : mg "_law_is_page" = some (.ref (He.ga K "_law_is_page"))
  g_made : mg "made" = some (.ref (He.ga K "made"))
  g_is_page : mg "is_page" = some (.ref (He.ga K "is_page"))
  g_need_page : mg "need_page" = some (.ref (He.ga K "need_page"))
  g_body_of : mg "body_of" = some (.ref (He.ga K "body_of"))
  g_leads_to : mg "leads_to" = some (.ref (He.ga K "leads_to"))
  g_page_text : mg "page_text" = some (.ref (He.ga K "page_text"))
  g__law_looks : mg "_law_looks" = some (.ref (He.ga K "_law_looks"))
  g__law_refused : mg "_law_refused" = some (.ref (He.ga K "_law_refused"))
  g__law_many_rows : mg "_law_many_rows" = some (.ref (He.ga K "_law_many_rows"))
  g__law_spoilt : mg "_law_spoilt" = some (.ref (He.ga K "_law_spoilt"))
  g_law : mg "law" = some (.ref (He.ga K "law"))
  d_BadPage___init__ : ∃ fd, FunD K "__init__" "BadPage.__init__" (defArgs s_BadPage___init__) (defBody s_BadPage___init__) (defScope s_BadPage___init__) [.non] [] (He.ma K (He.ga K "BadPage") "__init__") fd
  d_is_whole : ∃ fd, FunD K "is_whole" "is_whole" (defArgs s_is_whole) (defBody s_is_whole) (defScope s_is_whole) [] [] (He.ga K "is_whole") fd
  d_is_text : ∃ fd, FunD K "is_text" "is_text" (defArgs s_is_text) (defBody s_is_text) (defScope s_is_text) [] [] (He.ga K "is_text") fd
  d_Head___init__ : ∃ fd, FunD K "__init__" "Head.__init__" (defArgs s_Head___init__) (defBody s_Head___init__) (defScope s_Head___init__) [] [] (He.ma K (He.ga K "Head") "__init__") fd
  d_Head_letter : ∃ fd, FunD K "letter" "Head.letter" (defArgs s_Head_letter) (defBody s_Head_letter) (defScope s_Head_letter) [] [] (He.ma K (He.ga K "Head") "letter") fd
  d_Head_leads : ∃ fd, FunD K "leads" "Head.leads" (defArgs s_Head_leads) (defBody s_Head_leads) (defScope s_Head_leads) [] [] (He.ma K (He.ga K "Head") "leads") fd
  d_Leaf___init__ : ∃ fd, FunD K "__init__" "Leaf.__init__" (defArgs s_Leaf___init__) (defBody s_Leaf___init__) (defScope s_Leaf___init__) [] [] (He.ma K (He.ga K "Leaf") "__init__") fd
  d_Leaf_letter : ∃ fd, FunD K "letter" "Leaf.letter" (defArgs s_Leaf_letter) (defBody s_Leaf_letter) (defScope s_Leaf_letter) [] [] (He.ma K (He.ga K "Leaf") "letter") fd
  d_Leaf_leads : ∃ fd, FunD K "leads" "Leaf.leads" (defArgs s_Leaf_leads) (defBody s_Leaf_leads) (defScope s_Leaf_leads) [] [] (He.ma K (He.ga K "Leaf") "leads") fd
  d_Fork___init__ : ∃ fd, FunD K "__init__" "Fork.__init__" (defArgs s_Fork___init__) (defBody s_Fork___init__) (defScope s_Fork___init__) [] [] (He.ma K (He.ga K "Fork") "__init__") fd
  d_Fork_letter : ∃ fd, FunD K "letter" "Fork.letter" (defArgs s_Fork_letter) (defBody s_Fork_letter) (defScope s_Fork_letter) [] [] (He.ma K (He.ga K "Fork") "letter") fd
  d_Fork_leads : ∃ fd, FunD K "leads" "Fork.leads" (defArgs s_Fork_leads) (defBody s_Fork_leads) (defScope s_Fork_leads) [] [] (He.ma K (He.ga K "Fork") "leads") fd
  d_Rest___init__ : ∃ fd, FunD K "__init__" "Rest.__init__" (defArgs s_Rest___init__) (defBody s_Rest___init__) (defScope s_Rest___init__) [] [] (He.ma K (He.ga K "Rest") "__init__") fd
  d_Rest_letter : ∃ fd, FunD K "letter" "Rest.letter" (defArgs s_Rest_letter) (defBody s_Rest_letter) (defScope s_Rest_letter) [] [] (He.ma K (He.ga K "Rest") "letter") fd
  d_Rest_leads : ∃ fd, FunD K "leads" "Rest.leads" (defArgs s_Rest_leads) (defBody s_Rest_leads) (defScope s_Rest_leads) [] [] (He.ma K (He.ga K "Rest") "leads") fd
  d_Free___init__ : ∃ fd, FunD K "__init__" "Free.__init__" (defArgs s_Free___init__) (defBody s_Free___init__) (defScope s_Free___init__) [] [] (He.ma K (He.ga K "Free") "__init__") fd
  d_Free_letter : ∃ fd, FunD K "letter" "Free.letter" (defArgs s_Free_letter) (defBody s_Free_letter) (defScope s_Free_letter) [] [] (He.ma K (He.ga K "Free") "letter") fd
  d_Free_leads : ∃ fd, FunD K "leads" "Free.leads" (defArgs s_Free_leads) (defBody s_Free_leads) (defScope s_Free_leads) [] [] (He.ma K (He.ga K "Free") "leads") fd
  d_has_word : ∃ fd, FunD K "has_word" "has_word" (defArgs s_has_word) (defBody s_has_word) (defScope s_has_word) [] [] (He.ga K "has_word") fd
  d__law_cell_at : ∃ fd, FunD K "_law_cell_at" "_law_cell_at" (defArgs s__law_cell_at) (defBody s__law_cell_at) (defScope s__law_cell_at) [] [] (He.ga K "_law_cell_at") fd
  d__law_signs : ∃ fd, FunD K "_law_signs" "_law_signs" (defArgs s__law_signs) (defBody s__law_signs) (defScope s__law_signs) [] [] (He.ga K "_law_signs") fd
  d__law_digits : ∃ fd, FunD K "_law_digits" "_law_digits" (defArgs s__law_digits) (defBody s__law_digits) (defScope s__law_digits) [] [] (He.ga K "_law_digits") fd
  d__law_number : ∃ fd, FunD K "_law_number" "_law_number" (defArgs s__law_number) (defBody s__law_number) (defScope s__law_number) [] [] (He.ga K "_law_number") fd
  d__law_odd : ∃ fd, FunD K "_law_odd" "_law_odd" (defArgs s__law_odd) (defBody s__law_odd) (defScope s__law_odd) [] [] (He.ga K "_law_odd") fd
  d__law_bent : ∃ fd, FunD K "_law_bent" "_law_bent" (defArgs s__law_bent) (defBody s__law_bent) (defScope s__law_bent) [] [] (He.ga K "_law_bent") fd
  d_digits : ∃ fd, FunD K "digits" "digits" (defArgs s_digits) (defBody s_digits) (defScope s_digits) [] [] (He.ga K "digits") fd
  d_is_number : ∃ fd, FunD K "is_number" "is_number" (defArgs s_is_number) (defBody s_is_number) (defScope s_is_number) [.int 0] [] (He.ga K "is_number") fd
  d_is_key : ∃ fd, FunD K "is_key" "is_key" (defArgs s_is_key) (defBody s_is_key) (defScope s_is_key) [] [] (He.ga K "is_key") fd
  d_is_value : ∃ fd, FunD K "is_value" "is_value" (defArgs s_is_value) (defBody s_is_value) (defScope s_is_value) [] [] (He.ga K "is_value") fd
  d_is_size : ∃ fd, FunD K "is_size" "is_size" (defArgs s_is_size) (defBody s_is_size) (defScope s_is_size) [] [] (He.ga K "is_size") fd
  d__law_next : ∃ fd, FunD K "_law_next" "_law_next" (defArgs s__law_next) (defBody s__law_next) (defScope s__law_next) [] [] (He.ga K "_law_next") fd
  d__law_text : ∃ fd, FunD K "_law_text" "_law_text" (defArgs s__law_text) (defBody s__law_text) (defScope s__law_text) [] [] (He.ga K "_law_text") fd
  d__law_body : ∃ fd, FunD K "_law_body" "_law_body" (defArgs s__law_body) (defBody s__law_body) (defScope s__law_body) [] [] (He.ga K "_law_body") fd
  d__law_good_text : ∃ fd, FunD K "_law_good_text" "_law_good_text" (defArgs s__law_good_text) (defBody s__law_good_text) (defScope s__law_good_text) [] [] (He.ga K "_law_good_text") fd
  d_check_of : ∃ fd, FunD K "check_of" "check_of" (defArgs s_check_of) (defBody s_check_of) (defScope s_check_of) [] [] (He.ga K "check_of") fd
  d_are_keys : ∃ fd, FunD K "are_keys" "are_keys" (defArgs s_are_keys) (defBody s_are_keys) (defScope s_are_keys) [] [] (He.ga K "are_keys") fd
  d_is_cell : ∃ fd, FunD K "is_cell" "is_cell" (defArgs s_is_cell) (defBody s_is_cell) (defScope s_is_cell) [] [] (He.ga K "is_cell") fd
  d_cell_body : ∃ fd, FunD K "cell_body" "cell_body" (defArgs s_cell_body) (defBody s_cell_body) (defScope s_cell_body) [] [] (He.ga K "cell_body") fd
  d_key_body : ∃ fd, FunD K "key_body" "key_body" (defArgs s_key_body) (defBody s_key_body) (defScope s_key_body) [] [] (He.ga K "key_body") fd
  d_Head_body : ∃ fd, FunD K "body" "Head.body" (defArgs s_Head_body) (defBody s_Head_body) (defScope s_Head_body) [] [] (He.ma K (He.ga K "Head") "body") fd
  d_Rest_body : ∃ fd, FunD K "body" "Rest.body" (defArgs s_Rest_body) (defBody s_Rest_body) (defScope s_Rest_body) [] [] (He.ma K (He.ga K "Rest") "body") fd
  d_Free_body : ∃ fd, FunD K "body" "Free.body" (defArgs s_Free_body) (defBody s_Free_body) (defScope s_Free_body) [] [] (He.ma K (He.ga K "Free") "body") fd
  d_need_size : ∃ fd, FunD K "need_size" "need_size" (defArgs s_need_size) (defBody s_need_size) (defScope s_need_size) [] [] (He.ga K "need_size") fd
  d__law_rising : ∃ fd, FunD K "_law_rising" "_law_rising" (defArgs s__law_rising) (defBody s__law_rising) (defScope s__law_rising) [] [] (He.ga K "_law_rising") fd
  d__law_cell : ∃ fd, FunD K "_law_cell" "_law_cell" (defArgs s__law_cell) (defBody s__law_cell) (defScope s__law_cell) [] [] (He.ga K "_law_cell") fd
  d__law_rise : ∃ fd, FunD K "_law_rise" "_law_rise" (defArgs s__law_rise) (defBody s__law_rise) (defScope s__law_rise) [] [] (He.ga K "_law_rise") fd
  d__law_is_cell : ∃ fd, FunD K "_law_is_cell" "_law_is_cell" (defArgs s__law_is_cell) (defBody s__law_is_cell) (defScope s__law_is_cell) [] [] (He.ga K "_law_is_cell") fd
  d_is_row : ∃ fd, FunD K "is_row" "is_row" (defArgs s_is_row) (defBody s_is_row) (defScope s_is_row) [] [] (He.ga K "is_row") fd
  d_Leaf_body : ∃ fd, FunD K "body" "Leaf.body" (defArgs s_Leaf_body) (defBody s_Leaf_body) (defScope s_Leaf_body) [] [] (He.ma K (He.ga K "Leaf") "body") fd
  d_Fork_body : ∃ fd, FunD K "body" "Fork.body" (defArgs s_Fork_body) (defBody s_Fork_body) (defScope s_Fork_body) [] [] (He.ma K (He.ga K "Fork") "body") fd
  d__law_page : ∃ fd, FunD K "_law_page" "_law_page" (defArgs s__law_page) (defBody s__law_page) (defScope s__law_page) [] [] (He.ga K "_law_page") fd
  d__law_is_page : ∃ fd, FunD K "_law_is_page" "_law_is_page" (defArgs s__law_is_page) (defBody s__law_is_page) (defScope s__law_is_page) [] [] (He.ga K "_law_is_page") fd
  d_made : ∃ fd, FunD K "made" "made" (defArgs s_made) (defBody s_made) (defScope s_made) [] [] (He.ga K "made") fd
  d_is_page : ∃ fd, FunD K "is_page" "is_page" (defArgs s_is_page) (defBody s_is_page) (defScope s_is_page) [] [] (He.ga K "is_page") fd
  d_need_page : ∃ fd, FunD K "need_page" "need_page" (defArgs s_need_page) (defBody s_need_page) (defScope s_need_page) [] [] (He.ga K "need_page") fd
  d_body_of : ∃ fd, FunD K "body_of" "body_of" (defArgs s_body_of) (defBody s_body_of) (defScope s_body_of) [] [] (He.ga K "body_of") fd
  d_leads_to : ∃ fd, FunD K "leads_to" "leads_to" (defArgs s_leads_to) (defBody s_leads_to) (defScope s_leads_to) [] [] (He.ga K "leads_to") fd
  d_page_text : ∃ fd, FunD K "page_text" "page_text" (defArgs s_page_text) (defBody s_page_text) (defScope s_page_text) [] [] (He.ga K "page_text") fd
  d__law_looks : ∃ fd, FunD K "_law_looks" "_law_looks" (defArgs s__law_looks) (defBody s__law_looks) (defScope s__law_looks) [] [] (He.ga K "_law_looks") fd
  d__law_refused : ∃ fd, FunD K "_law_refused" "_law_refused" (defArgs s__law_refused) (defBody s__law_refused) (defScope s__law_refused) [] [] (He.ga K "_law_refused") fd
  d__law_many_rows : ∃ fd, FunD K "_law_many_rows" "_law_many_rows" (defArgs s__law_many_rows) (defBody s__law_many_rows) (defScope s__law_many_rows) [] [] (He.ga K "_law_many_rows") fd
  d__law_spoilt : ∃ fd, FunD K "_law_spoilt" "_law_spoilt" (defArgs s__law_spoilt) (defBody s__law_spoilt) (defScope s__law_spoilt) [] [] (He.ga K "_law_spoilt") fd
  d_law : ∃ fd, FunD K "law" "law" (defArgs s_law) (defBody s_law) (defScope s_law) [] [] (He.ga K "law") fd
  x : XFacts K xtab xU xV
  i : IFacts K itab
  oe_BadPage : OexC K (He.ga K "BadPage") ∧ PySem.W.findIn K (.ref (He.ga K "BadPage")) "number" = some none
  in_BadPage : PySem.W.findIn K (.ref (He.ga K "BadPage")) "__init__" = some (some (.ref (He.ma K (He.ga K "BadPage") "__init__"))) ∧ PySem.W.typeIn K (.ref (He.ma K (He.ga K "BadPage") "__init__")) = some (.type "function")
  xf_BadPage : XfC K (He.ga K "BadPage")
  ba_TableError : BaseC K (He.ga K "TableError")
section
variable {P : Program} {w : World} {K : Frg} {mg : Str → Option Value} {base : Heap} {md : Md}
def N_BadPage___init__ : List Str := ["self", "number"]
theorem sc_BadPage___init__ : FnScope N_BadPage___init__ ["self", "number"] (defScope s_BadPage___init__) := ⟨rfl, rfl, rfl, by decide +kernel, rfl, by decide +kernel, by decide +kernel⟩
theorem ex_BadPage (T : Top K mg) : ExiOk P w K mg base 1 "BadPage" "number" := by
  obtain ⟨fd, G⟩ := T.d_BadPage___init__
  exact exi_byD (msg := "no page") (N := N_BadPage___init__) T.g_BadPage T.oe_BadPage.1 T.oe_BadPage.2 T.in_BadPage G sc_BadPage___init__ rfl rfl (fun _ _ _ _ _ _ _ us its hu hi => match us, its, hu, hi with | [_, _], [_], _, _ => ⟨_, rfl, rfl⟩) (fun _ _ _ _ _ _ _ us its hu hi => match us, its, hu, hi with | [_], [_], _, _ => ⟨_, rfl, rfl⟩) (fun cdv A outer s H E => pss_cons (ps_expr (pe_ownInit (b := "TableError") T.ba_TableError rfl T.g_TableError (pa_cons (pe_var (i := 0) rfl (.inl rfl)) (pa_cons pe_str pa_nil)))) (pss_one (ps_ost (pe_var (i := 0) rfl (.inl rfl)) (pe_var (i := 1) rfl (.inl rfl)))))
def N_is_whole : List Str := ["thing"]
theorem sc_is_whole : FnScope N_is_whole ["thing"] (defScope s_is_whole) := ⟨rfl, rfl, rfl, by decide +kernel, rfl, by decide +kernel, by decide +kernel⟩
def b_is_whole : DS :=
  (dRet (dAndV (dIsB (fun t => t == "int" || t == "bool") (dVar 0)) (dNotV (dIsB (fun t => t == "bool") (dVar 0)))))
def f_is_whole : FN := runB 1 b_is_whole
theorem ok_is_whole (T : Top K mg) : DefOk md P w K mg base 1 "is_whole" 1 f_is_whole := by
  obtain ⟨fd, G⟩ := T.d_is_whole
  refine def_by T.g_is_whole G sc_is_whole rfl (fun _ _ _ _ _ _ us hl => match us, hl with | [_], _ => rfl) (fun cdv A outer s H E hr tk hp =>
  (db_one (ds_ret (de_and (de_isiB (T := "int") (by decide +kernel) rfl T.g_isinstance rfl T.g_int (by decide +kernel) (de_var (i := 0) rfl (.inl rfl))) (de_one (de_not (de_isiB (T := "bool") (by decide +kernel) rfl T.g_isinstance rfl T.g_bool (by decide +kernel) (de_var (i := 0) rfl (.inl rfl)))))))))
def N_is_text : List Str := ["thing", "sign"]
theorem sc_is_text : FnScope N_is_text ["thing"] (defScope s_is_text) := ⟨rfl, rfl, rfl, by decide +kernel, rfl, by decide +kernel, by decide +kernel⟩
def c1_is_text : DE :=
  (dAndV (dChain fLeX fLeX (dC (.str " ")) (dVar 1) (dC (.str "~"))) (dBin fNe (dCB fOrd (dCons (dVar 1) dNil)) (dC (.int 37))))
def b_is_text : DS :=
  (dSeq (dIf (dNot (dTest (dIsB (fun t => t == "str") (dVar 0))))
   (dRet (dC (.bl false)))
   dNext)
  (dRet (dCB fAll (dCons (dComp (dItS (dVar 0)) (gSlot 1) dYes c1_is_text [1]) dNil))))
def f_is_text : FN := runB 2 b_is_text
theorem ok_is_text (T : Top K mg) : DefOk md P w K mg base 1 "is_text" 1 f_is_text := by
  obtain ⟨fd, G⟩ := T.d_is_text
  refine def_by T.g_is_text G sc_is_text rfl (fun _ _ _ _ _ _ us hl => match us, hl with | [_], _ => rfl) (fun cdv A outer s H E hr tk hp =>
  (db_cons (ds_if (dt_not (dt_val (de_isiB (T := "str") (by decide +kernel) rfl T.g_isinstance rfl T.g_str (by decide +kernel) (de_var (i := 0) rfl (.inl rfl)))))
   (db_one (ds_ret de_bl))
   db_nil)
  (db_one (ds_ret (de_callB (cr_all rfl) o_all rfl T.g_all (by decide +kernel) (da_cons (de_comp (own := [("sign", 1)]) rfl sc_is_text.nd (di_str (de_var (i := 0) rfl (.inl rfl))) (show BlkOk N_is_text (defScope s_is_text) _ _ from blk_of (by decide +kernel)) (fun _ _ _ _ _ => (dc_name sc_is_text.nd rfl (.inl rfl) (by simp))) (fun _ _ _ _ _ => dp_nil) (fun _ _ _ _ _ => (de_and (de_chain opr_leX o_leX opr_leX o_leX de_str (de_var (i := 1) rfl (.inl rfl)) de_str) (de_one (de_cmp (op_neD hr.units) o_ne (de_callB call_ord o_ord rfl T.g_ord (by decide +kernel) (da_cons (de_var (i := 1) rfl (.inl rfl)) da_nil)) (de_gint rfl T.g_PERCENT)))))) da_nil))))))
def N_Head___init__ : List Str := ["self", "top", "depth", "amount", "free"]
theorem sc_Head___init__ : FnScope N_Head___init__ ["self", "top", "depth", "amount", "free"] (defScope s_Head___init__) := ⟨rfl, rfl, rfl, by decide +kernel, rfl, by decide +kernel, by decide +kernel⟩
def b_Head___init__ : DS :=
  (dSeq (dAttrPut (okF itab "top") "top" (dVar 0) (dVar 1))
  (dSeq (dAttrPut (okF itab "depth") "depth" (dVar 0) (dVar 2))
  (dSeq (dAttrPut (okF itab "amount") "amount" (dVar 0) (dVar 3))
  (dAttrPut (okF itab "free") "free" (dVar 0) (dVar 4)))))
def f_Head___init__ : FN := runB 5 b_Head___init__
theorem mk_Head (T : Top K mg) : MakeOk md P w K mg base 1 "Head" 5 f_Head___init__ := by
  obtain ⟨fd, G⟩ := T.d_Head___init__
  refine make_by T.g_Head T.k_Head G sc_Head___init__ rfl (fun _ _ _ _ _ _ us hl => match us, hl with | [_, _, _, _, _], _ => rfl) (fun cdv A outer s H E hr tk hp =>
  (db_cons (ds_attr (fun _ h => T.i.fld h) (de_var (i := 0) rfl (.inl rfl)) (de_var (i := 1) rfl (.inl rfl)))
  (db_cons (ds_attr (fun _ h => T.i.fld h) (de_var (i := 0) rfl (.inl rfl)) (de_var (i := 2) rfl (.inl rfl)))
  (db_cons (ds_attr (fun _ h => T.i.fld h) (de_var (i := 0) rfl (.inl rfl)) (de_var (i := 3) rfl (.inl rfl)))
  (db_one (ds_attr (fun _ h => T.i.fld h) (de_var (i := 0) rfl (.inl rfl)) (de_var (i := 4) rfl (.inl rfl))))))))
def N_Head_letter : List Str := ["self"]
theorem sc_Head_letter : FnScope N_Head_letter ["self"] (defScope s_Head_letter) := ⟨rfl, rfl, rfl, by decide +kernel, rfl, by decide +kernel, by decide +kernel⟩
def b_Head_letter : DS :=
  (dRet (dC (.str "h")))
def f_Head_letter : FN := runB 1 b_Head_letter
theorem ok_Head_letter (T : Top K mg) : MethOk md P w K mg base 1 "Head" "letter" 1 f_Head_letter := by
  obtain ⟨fd, G⟩ := T.d_Head_letter
  refine meth_by T.cl_Head T.m_Head_letter G sc_Head_letter rfl (fun _ _ _ _ _ _ us hl => match us, hl with | [_], _ => rfl) (fun cdv A outer s H E hr tk hp =>
  (db_one (ds_ret de_str)))
def N_Head_leads : List Str := ["self", "number"]
theorem sc_Head_leads : FnScope N_Head_leads ["self"] (defScope s_Head_leads) := ⟨rfl, rfl, rfl, by decide +kernel, rfl, by decide +kernel, by decide +kernel⟩
def c1_Head_leads : DE :=
  (dVar 1)
def t2_Head_leads : DT :=
  (dTest (dBin fNe (dVar 1) (dC (.int 0))))
def b_Head_leads : DS :=
  (dRet (dCompA (dItT (dTup (dCons (dUn (fAttr (okF itab "top") "top") (dVar 0)) (dCons (dUn (fAttr (okF itab "free") "free") (dVar 0)) dNil)))) (gSlot 1) t2_Head_leads c1_Head_leads [1]))
def f_Head_leads : FN := runB 2 b_Head_leads
theorem ok_Head_leads (T : Top K mg) : MethOk md P w K mg base 1 "Head" "leads" 1 f_Head_leads := by
  obtain ⟨fd, G⟩ := T.d_Head_leads
  refine meth_by T.cl_Head T.m_Head_leads G sc_Head_leads rfl (fun _ _ _ _ _ _ us hl => match us, hl with | [_], _ => rfl) (fun cdv A outer s H E hr tk hp =>
  (db_one (ds_ret (de_compA (own := [("number", 1)]) rfl sc_Head_leads.nd (di_tup (de_tup (da_cons (de_attr (fun _ h => T.i.fld h) (de_var (i := 0) rfl (.inl rfl))) (da_cons (de_attr (fun _ h => T.i.fld h) (de_var (i := 0) rfl (.inl rfl))) da_nil)))) (show BlkOk N_Head_leads (defScope s_Head_leads) _ _ from blk_of (by decide +kernel)) (fun _ _ _ _ _ => (dc_name sc_Head_leads.nd rfl (.inl rfl) (by simp))) (fun _ _ _ _ _ => (dp_one (dt_cmp (op_neD hr.units) o_ne (de_var (i := 1) rfl (.inl rfl)) de_int))) (fun _ _ _ _ _ => (de_var (i := 1) rfl (.inl rfl)))))))
def N_Leaf___init__ : List Str := ["self", "entries"]
theorem sc_Leaf___init__ : FnScope N_Leaf___init__ ["self", "entries"] (defScope s_Leaf___init__) := ⟨rfl, rfl, rfl, by decide +kernel, rfl, by decide +kernel, by decide +kernel⟩
def b_Leaf___init__ : DS :=
  (dAttrPut (okF itab "entries") "entries" (dVar 0) (dVar 1))
def f_Leaf___init__ : FN := runB 2 b_Leaf___init__
theorem mk_Leaf (T : Top K mg) : MakeOk md P w K mg base 1 "Leaf" 2 f_Leaf___init__ := by
  obtain ⟨fd, G⟩ := T.d_Leaf___init__
  refine make_by T.g_Leaf T.k_Leaf G sc_Leaf___init__ rfl (fun _ _ _ _ _ _ us hl => match us, hl with | [_, _], _ => rfl) (fun cdv A outer s H E hr tk hp =>
  (db_one (ds_attr (fun _ h => T.i.fld h) (de_var (i := 0) rfl (.inl rfl)) (de_var (i := 1) rfl (.inl rfl)))))
def N_Leaf_letter : List Str := ["self"]
theorem sc_Leaf_letter : FnScope N_Leaf_letter ["self"] (defScope s_Leaf_letter) := ⟨rfl, rfl, rfl, by decide +kernel, rfl, by decide +kernel, by decide +kernel⟩
def b_Leaf_letter : DS :=
  (dRet (dC (.str "l")))
def f_Leaf_letter : FN := runB 1 b_Leaf_letter
theorem ok_Leaf_letter (T : Top K mg) : MethOk md P w K mg base 1 "Leaf" "letter" 1 f_Leaf_letter := by
  obtain ⟨fd, G⟩ := T.d_Leaf_letter
  refine meth_by T.cl_Leaf T.m_Leaf_letter G sc_Leaf_letter rfl (fun _ _ _ _ _ _ us hl => match us, hl with | [_], _ => rfl) (fun cdv A outer s H E hr tk hp =>
  (db_one (ds_ret de_str)))
def N_Leaf_leads : List Str := ["self", "key", "cell"]
theorem sc_Leaf_leads : FnScope N_Leaf_leads ["self"] (defScope s_Leaf_leads) := ⟨rfl, rfl, rfl, by decide +kernel, rfl, by decide +kernel, by decide +kernel⟩
def c1_Leaf_leads : DE :=
  (dBin fIx (dVar 2) (dC (.int 2)))
def t2_Leaf_leads : DT :=
  (dTest (dBin fEq (dBin fIx (dVar 2) (dC (.int 0))) (dC (.str "out"))))
def b_Leaf_leads : DS :=
  (dRet (dCompA (dItT (dUn (fAttr (okF itab "entries") "entries") (dVar 0))) (gTupD 2 (gsCons (gSlot 1) (gsCons (gSlot 2) gsNil))) t2_Leaf_leads c1_Leaf_leads [1, 2]))
def f_Leaf_leads : FN := runB 3 b_Leaf_leads
theorem ok_Leaf_leads (T : Top K mg) : MethOk md P w K mg base 1 "Leaf" "leads" 1 f_Leaf_leads := by
  obtain ⟨fd, G⟩ := T.d_Leaf_leads
  refine meth_by T.cl_Leaf T.m_Leaf_leads G sc_Leaf_leads rfl (fun _ _ _ _ _ _ us hl => match us, hl with | [_], _ => rfl) (fun cdv A outer s H E hr tk hp =>
  (db_one (ds_ret (de_compA (own := [("key", 1), ("cell", 2)]) rfl sc_Leaf_leads.nd (di_tup (de_attr (fun _ h => T.i.fld h) (de_var (i := 0) rfl (.inl rfl)))) (show BlkOk N_Leaf_leads (defScope s_Leaf_leads) _ _ from blk_of (by decide +kernel)) (fun _ _ _ _ _ => (dc_tup rfl (dcs_cons (dc_name sc_Leaf_leads.nd rfl (.inl rfl) (by simp)) (dcs_cons (dc_name sc_Leaf_leads.nd rfl (.inl rfl) (by simp)) dcs_nil)))) (fun _ _ _ _ _ => (dp_one (dt_cmp (op_eqD hr.units) o_eq (de_ix (de_var (i := 2) rfl (.inl rfl)) de_int) de_str))) (fun _ _ _ _ _ => (de_ix (de_var (i := 2) rfl (.inl rfl)) de_int))))))
def N_Fork___init__ : List Str := ["self", "keys", "kids"]
theorem sc_Fork___init__ : FnScope N_Fork___init__ ["self", "keys", "kids"] (defScope s_Fork___init__) := ⟨rfl, rfl, rfl, by decide +kernel, rfl, by decide +kernel, by decide +kernel⟩
def b_Fork___init__ : DS :=
  (dSeq (dAttrPut (okF itab "parting") "parting" (dVar 0) (dVar 1))
  (dAttrPut (okF itab "kids") "kids" (dVar 0) (dVar 2)))
def f_Fork___init__ : FN := runB 3 b_Fork___init__
theorem mk_Fork (T : Top K mg) : MakeOk md P w K mg base 1 "Fork" 3 f_Fork___init__ := by
  obtain ⟨fd, G⟩ := T.d_Fork___init__
  refine make_by T.g_Fork T.k_Fork G sc_Fork___init__ rfl (fun _ _ _ _ _ _ us hl => match us, hl with | [_, _, _], _ => rfl) (fun cdv A outer s H E hr tk hp =>
  (db_cons (ds_attr (fun _ h => T.i.fld h) (de_var (i := 0) rfl (.inl rfl)) (de_var (i := 1) rfl (.inl rfl)))
  (db_one (ds_attr (fun _ h => T.i.fld h) (de_var (i := 0) rfl (.inl rfl)) (de_var (i := 2) rfl (.inl rfl))))))
def N_Fork_letter : List Str := ["self"]
theorem sc_Fork_letter : FnScope N_Fork_letter ["self"] (defScope s_Fork_letter) := ⟨rfl, rfl, rfl, by decide +kernel, rfl, by decide +kernel, by decide +kernel⟩
def b_Fork_letter : DS :=
  (dRet (dC (.str "f")))
def f_Fork_letter : FN := runB 1 b_Fork_letter
theorem ok_Fork_letter (T : Top K mg) : MethOk md P w K mg base 1 "Fork" "letter" 1 f_Fork_letter := by
  obtain ⟨fd, G⟩ := T.d_Fork_letter
  refine meth_by T.cl_Fork T.m_Fork_letter G sc_Fork_letter rfl (fun _ _ _ _ _ _ us hl => match us, hl with | [_], _ => rfl) (fun cdv A outer s H E hr tk hp =>
  (db_one (ds_ret de_str)))
def N_Fork_leads : List Str := ["self"]
theorem sc_Fork_leads : FnScope N_Fork_leads ["self"] (defScope s_Fork_leads) := ⟨rfl, rfl, rfl, by decide +kernel, rfl, by decide +kernel, by decide +kernel⟩
def b_Fork_leads : DS :=
  (dRet (dCB (fListOf true) (dCons (dUn (fAttr (okF itab "kids") "kids") (dVar 0)) dNil)))
def f_Fork_leads : FN := runB 1 b_Fork_leads
theorem ok_Fork_leads (T : Top K mg) : MethOk md P w K mg base 1 "Fork" "leads" 1 f_Fork_leads := by
  obtain ⟨fd, G⟩ := T.d_Fork_leads
  refine meth_by T.cl_Fork T.m_Fork_leads G sc_Fork_leads rfl (fun _ _ _ _ _ _ us hl => match us, hl with | [_], _ => rfl) (fun cdv A outer s H E hr tk hp =>
  (db_one (ds_ret (de_callTy call_list_of o_listOf rfl T.g_list (by decide +kernel) (da_cons (de_attr (fun _ h => T.i.fld h) (de_var (i := 0) rfl (.inl rfl))) da_nil)))))
def N_Rest___init__ : List Str := ["self", "text", "next_one"]
theorem sc_Rest___init__ : FnScope N_Rest___init__ ["self", "text", "next_one"] (defScope s_Rest___init__) := ⟨rfl, rfl, rfl, by decide +kernel, rfl, by decide +kernel, by decide +kernel⟩
def b_Rest___init__ : DS :=
  (dSeq (dAttrPut (okF itab "text") "text" (dVar 0) (dVar 1))
  (dAttrPut (okF itab "behind") "behind" (dVar 0) (dVar 2)))
def f_Rest___init__ : FN := runB 3 b_Rest___init__
theorem mk_Rest (T : Top K mg) : MakeOk md P w K mg base 1 "Rest" 3 f_Rest___init__ := by
  obtain ⟨fd, G⟩ := T.d_Rest___init__
  refine make_by T.g_Rest T.k_Rest G sc_Rest___init__ rfl (fun _ _ _ _ _ _ us hl => match us, hl with | [_, _, _], _ => rfl) (fun cdv A outer s H E hr tk hp =>
  (db_cons (ds_attr (fun _ h => T.i.fld h) (de_var (i := 0) rfl (.inl rfl)) (de_var (i := 1) rfl (.inl rfl)))
  (db_one (ds_attr (fun _ h => T.i.fld h) (de_var (i := 0) rfl (.inl rfl)) (de_var (i := 2) rfl (.inl rfl))))))
def N_Rest_letter : List Str := ["self"]
theorem sc_Rest_letter : FnScope N_Rest_letter ["self"] (defScope s_Rest_letter) := ⟨rfl, rfl, rfl, by decide +kernel, rfl, by decide +kernel, by decide +kernel⟩
def b_Rest_letter : DS :=
  (dRet (dC (.str "r")))
def f_Rest_letter : FN := runB 1 b_Rest_letter
theorem ok_Rest_letter (T : Top K mg) : MethOk md P w K mg base 1 "Rest" "letter" 1 f_Rest_letter := by
  obtain ⟨fd, G⟩ := T.d_Rest_letter
  refine meth_by T.cl_Rest T.m_Rest_letter G sc_Rest_letter rfl (fun _ _ _ _ _ _ us hl => match us, hl with | [_], _ => rfl) (fun cdv A outer s H E hr tk hp =>
  (db_one (ds_ret de_str)))
def N_Rest_leads : List Str := ["self"]
theorem sc_Rest_leads : FnScope N_Rest_leads ["self"] (defScope s_Rest_leads) := ⟨rfl, rfl, rfl, by decide +kernel, rfl, by decide +kernel, by decide +kernel⟩
def b_Rest_leads : DS :=
  (dRet (dIfE (dTest (dBin fNe (dUn (fAttr (okF itab "behind") "behind") (dVar 0)) (dC (.int 0)))) (dLstA (dCons (dUn (fAttr (okF itab "behind") "behind") (dVar 0)) dNil)) (dLstA dNil)))
def f_Rest_leads : FN := runB 1 b_Rest_leads
theorem ok_Rest_leads (T : Top K mg) : MethOk md P w K mg base 1 "Rest" "leads" 1 f_Rest_leads := by
  obtain ⟨fd, G⟩ := T.d_Rest_leads
  refine meth_by T.cl_Rest T.m_Rest_leads G sc_Rest_leads rfl (fun _ _ _ _ _ _ us hl => match us, hl with | [_], _ => rfl) (fun cdv A outer s H E hr tk hp =>
  (db_one (ds_ret (de_ifexp (dt_cmp (op_neD hr.units) o_ne (de_attr (fun _ h => T.i.fld h) (de_var (i := 0) rfl (.inl rfl))) de_int) (de_lstA (da_cons (de_attr (fun _ h => T.i.fld h) (de_var (i := 0) rfl (.inl rfl))) da_nil)) (de_lstA da_nil)))))
def N_Free___init__ : List Str := ["self", "next_one"]
theorem sc_Free___init__ : FnScope N_Free___init__ ["self", "next_one"] (defScope s_Free___init__) := ⟨rfl, rfl, rfl, by decide +kernel, rfl, by decide +kernel, by decide +kernel⟩
def b_Free___init__ : DS :=
  (dAttrPut (okF itab "behind") "behind" (dVar 0) (dVar 1))
def f_Free___init__ : FN := runB 2 b_Free___init__
theorem mk_Free (T : Top K mg) : MakeOk md P w K mg base 1 "Free" 2 f_Free___init__ := by
  obtain ⟨fd, G⟩ := T.d_Free___init__
  refine make_by T.g_Free T.k_Free G sc_Free___init__ rfl (fun _ _ _ _ _ _ us hl => match us, hl with | [_, _], _ => rfl) (fun cdv A outer s H E hr tk hp =>
  (db_one (ds_attr (fun _ h => T.i.fld h) (de_var (i := 0) rfl (.inl rfl)) (de_var (i := 1) rfl (.inl rfl)))))
def N_Free_letter : List Str := ["self"]
theorem sc_Free_letter : FnScope N_Free_letter ["self"] (defScope s_Free_letter) := ⟨rfl, rfl, rfl, by decide +kernel, rfl, by decide +kernel, by decide +kernel⟩
def b_Free_letter : DS :=
  (dRet (dC (.str "e")))
def f_Free_letter : FN := runB 1 b_Free_letter
theorem ok_Free_letter (T : Top K mg) : MethOk md P w K mg base 1 "Free" "letter" 1 f_Free_letter := by
  obtain ⟨fd, G⟩ := T.d_Free_letter
  refine meth_by T.cl_Free T.m_Free_letter G sc_Free_letter rfl (fun _ _ _ _ _ _ us hl => match us, hl with | [_], _ => rfl) (fun cdv A outer s H E hr tk hp =>
  (db_one (ds_ret de_str)))
def mt_letter : MTab := tabOf [("Head", 1, f_Head_letter), ("Leaf", 1, f_Leaf_letter), ("Fork", 1, f_Fork_letter), ("Rest", 1, f_Rest_letter), ("Free", 1, f_Free_letter)]
theorem mt_letter_ok (T : Top K mg) : ∀ c n F, mt_letter c = some (n, F) → MethOk md P w K mg base 1 c "letter" n F := by
  refine tab_all (R := fun c n F => MethOk md P w K mg base 1 c "letter" n F) fun p hp => ?_
  simp only [List.mem_cons, List.mem_nil_iff, or_false] at hp
  rcases hp with rfl | rfl | rfl | rfl | rfl
  · exact (ok_Head_letter T).mono (by decide)
  · exact (ok_Leaf_letter T).mono (by decide)
  · exact (ok_Fork_letter T).mono (by decide)
  · exact (ok_Rest_letter T).mono (by decide)
  · exact (ok_Free_letter T).mono (by decide)
def N_Free_leads : List Str := ["self"]
theorem sc_Free_leads : FnScope N_Free_leads ["self"] (defScope s_Free_leads) := ⟨rfl, rfl, rfl, by decide +kernel, rfl, by decide +kernel, by decide +kernel⟩
def b_Free_leads : DS :=
  (dRet (dIfE (dTest (dBin fNe (dUn (fAttr (okF itab "behind") "behind") (dVar 0)) (dC (.int 0)))) (dLstA (dCons (dUn (fAttr (okF itab "behind") "behind") (dVar 0)) dNil)) (dLstA dNil)))
def f_Free_leads : FN := runB 1 b_Free_leads
theorem ok_Free_leads (T : Top K mg) : MethOk md P w K mg base 1 "Free" "leads" 1 f_Free_leads := by
  obtain ⟨fd, G⟩ := T.d_Free_leads
  refine meth_by T.cl_Free T.m_Free_leads G sc_Free_leads rfl (fun _ _ _ _ _ _ us hl => match us, hl with | [_], _ => rfl) (fun cdv A outer s H E hr tk hp =>
  (db_one (ds_ret (de_ifexp (dt_cmp (op_neD hr.units) o_ne (de_attr (fun _ h => T.i.fld h) (de_var (i := 0) rfl (.inl rfl))) de_int) (de_lstA (da_cons (de_attr (fun _ h => T.i.fld h) (de_var (i := 0) rfl (.inl rfl))) da_nil)) (de_lstA da_nil)))))
def mt_leads : MTab := tabOf [("Head", 1, f_Head_leads), ("Leaf", 1, f_Leaf_leads), ("Fork", 1, f_Fork_leads), ("Rest", 1, f_Rest_leads), ("Free", 1, f_Free_leads)]
theorem mt_leads_ok (T : Top K mg) : ∀ c n F, mt_leads c = some (n, F) → MethOk md P w K mg base 1 c "leads" n F := by
  refine tab_all (R := fun c n F => MethOk md P w K mg base 1 c "leads" n F) fun p hp => ?_
  simp only [List.mem_cons, List.mem_nil_iff, or_false] at hp
  rcases hp with rfl | rfl | rfl | rfl | rfl
  · exact (ok_Head_leads T).mono (by decide)
  · exact (ok_Leaf_leads T).mono (by decide)
  · exact (ok_Fork_leads T).mono (by decide)
  · exact (ok_Rest_leads T).mono (by decide)
  · exact (ok_Free_leads T).mono (by decide)
def N_has_word : List Str := ["thing", "word", "size"]
theorem sc_has_word : FnScope N_has_word ["thing", "word", "size"] (defScope s_has_word) := ⟨rfl, rfl, rfl, by decide +kernel, rfl, by decide +kernel, by decide +kernel⟩
def b_has_word : DS :=
  (dRet (dAndV (dIsB (fun t => t == "tuple") (dVar 0)) (dAndV (dBin fEq (dCB fLen (dCons (dVar 0) dNil)) (dVar 2)) (dAndV (dIsB (fun t => t == "str") (dBin fIx (dVar 0) (dC (.int 0)))) (dBin fEq (dBin fIx (dVar 0) (dC (.int 0))) (dVar 1))))))
def f_has_word : FN := runB 3 b_has_word
theorem ok_has_word (T : Top K mg) : DefOk md P w K mg base 1 "has_word" 3 f_has_word := by
  obtain ⟨fd, G⟩ := T.d_has_word
  refine def_by T.g_has_word G sc_has_word rfl (fun _ _ _ _ _ _ us hl => match us, hl with | [_, _, _], _ => rfl) (fun cdv A outer s H E hr tk hp =>
  (db_one (ds_ret (de_and (de_isiB (T := "tuple") (by decide +kernel) rfl T.g_isinstance rfl T.g_tuple (by decide +kernel) (de_var (i := 0) rfl (.inl rfl))) (de_and (de_cmp (op_eqD hr.units) o_eq (de_callB c_len o_len rfl T.g_len (by decide +kernel) (da_cons (de_var (i := 0) rfl (.inl rfl)) da_nil)) (de_var (i := 2) rfl (.inl rfl))) (de_and (de_isiB (T := "str") (by decide +kernel) rfl T.g_isinstance rfl T.g_str (by decide +kernel) (de_ix (de_var (i := 0) rfl (.inl rfl)) de_int)) (de_one (de_cmp (op_eqD hr.units) o_eq (de_ix (de_var (i := 0) rfl (.inl rfl)) de_int) (de_var (i := 1) rfl (.inl rfl))))))))))
def N__law_cell_at : List Str := ["_law_script", "_law_k"]
theorem sc__law_cell_at : FnScope N__law_cell_at ["_law_script", "_law_k"] (defScope s__law_cell_at) := ⟨rfl, rfl, rfl, by decide +kernel, rfl, by decide +kernel, by decide +kernel⟩
def b__law_cell_at : DS :=
  (dSeq (dIf (dTest (dBin fLtX (dVar 1) (dCB fLen (dCons (dVar 0) dNil))))
   (dRet (dBin fIx (dVar 0) (dVar 1)))
   dNext)
  (dRet (dC (.int 0))))
def f__law_cell_at : FN := runB 2 b__law_cell_at
theorem ok__law_cell_at (T : Top K mg) : DefOk md P w K mg base 1 "_law_cell_at" 2 f__law_cell_at := by
  obtain ⟨fd, G⟩ := T.d__law_cell_at
  refine def_by T.g__law_cell_at G sc__law_cell_at rfl (fun _ _ _ _ _ _ us hl => match us, hl with | [_, _], _ => rfl) (fun cdv A outer s H E hr tk hp =>
  (db_cons (ds_if (dt_cmp opr_ltX o_ltX (de_var (i := 1) rfl (.inl rfl)) (de_callB c_len o_len rfl T.g_len (by decide +kernel) (da_cons (de_var (i := 0) rfl (.inl rfl)) da_nil)))
   (db_one (ds_ret (de_ix (de_var (i := 0) rfl (.inl rfl)) (de_var (i := 1) rfl (.inl rfl)))))
   db_nil)
  (db_one (ds_ret de_int))))
def N__law_signs : List Str := ["_law_some"]
theorem sc__law_signs : FnScope N__law_signs [] (defScope s__law_signs) := ⟨rfl, rfl, rfl, by decide +kernel, rfl, by decide +kernel, by decide +kernel⟩
def b__law_signs : DS :=
  (dSeq (dAsg (dC (.str "0123456789abcdefghijklmnopqrstuvwxyzABCDEFGHIJKLMNOPQRSTUVWXYZ")) (gSlot 0))
  (dRet (dBin fAdd (dC (.str " !\"\x23$&'()*+,-./:;<=>?\x40[\\]^_`{|}~")) (dVar 0))))
def f__law_signs : FN := runB 1 b__law_signs
theorem ok__law_signs (T : Top K mg) : DefOk md P w K mg base 1 "_law_signs" 0 f__law_signs := by
  obtain ⟨fd, G⟩ := T.d__law_signs
  refine def_by T.g__law_signs G sc__law_signs rfl (fun _ _ _ _ _ _ us hl => match us, hl with | [], _ => rfl) (fun cdv A outer s H E hr tk hp =>
  (db_cons (ds_set sc__law_signs.nd (i := 0) rfl (.inl rfl) de_str)
  (db_one (ds_ret (de_bin opr_add o_add de_str (de_var (i := 0) rfl (.inl rfl)))))))
def N__law_digits : List Str := ["_law_number_here", "_law_many", "_law_signs_here", "_law_found", "_law_k"]
theorem sc__law_digits : FnScope N__law_digits ["_law_number_here", "_law_many"] (defScope s__law_digits) := ⟨rfl, rfl, rfl, by decide +kernel, rfl, by decide +kernel, by decide +kernel⟩
def l1__law_digits : DS :=
  (dSeq (dAsg (dBin fAdd (dBin fIx (dVar 2) (dBin fMod (dVar 0) (dC (.int 64)))) (dVar 3)) (gSlot 3))
   (dAsg (dBin fFdiv (dVar 0) (dC (.int 64))) (gSlot 0)))
def b__law_digits : DS :=
  (dSeq (dAsg (dC (.str "0123456789abcdefghijklmnopqrstuvwxyzABCDEFGHIJKLMNOPQRSTUVWXYZ+-")) (gSlot 2))
  (dSeq (dAsg (dC (.str "")) (gSlot 3))
  (dSeq (dFor (dItR1 (dVar 1)) (gSlot 4)
   l1__law_digits)
  (dRet (dVar 3)))))
def f__law_digits : FN := runB 5 b__law_digits
theorem ok__law_digits (T : Top K mg) : DefOk md P w K mg base 1 "_law_digits" 2 f__law_digits := by
  obtain ⟨fd, G⟩ := T.d__law_digits
  refine def_by T.g__law_digits G sc__law_digits rfl (fun _ _ _ _ _ _ us hl => match us, hl with | [_, _], _ => rfl) (fun cdv A outer s H E hr tk hp =>
  (db_cons (ds_set sc__law_digits.nd (i := 2) rfl (.inl rfl) de_str)
  (db_cons (ds_set sc__law_digits.nd (i := 3) rfl (.inl rfl) de_str)
  (db_cons (ds_for hp rfl (di_range1 rfl T.g_range (de_var (i := 1) rfl (.inl rfl))) (dg_name sc__law_digits.nd (i := 4) rfl (.inl rfl))
   (db_cons (ds_set sc__law_digits.nd (i := 3) rfl (.inl rfl) (de_bin opr_add o_add (de_ix (de_var (i := 2) rfl (.inl rfl)) (de_bin op_mod o_mod (de_var (i := 0) rfl (.inl rfl)) de_int)) (de_var (i := 3) rfl (.inl rfl))))
   (db_one (ds_set sc__law_digits.nd (i := 0) rfl (.inl rfl) (de_bin op_fdiv o_fdiv (de_var (i := 0) rfl (.inl rfl)) de_int)))))
  (db_one (ds_ret (de_var (i := 3) rfl (.inl rfl))))))))
def N__law_number : List Str := ["_law_thing", "_law_least", "_law_most"]
theorem sc__law_number : FnScope N__law_number ["_law_thing", "_law_least", "_law_most"] (defScope s__law_number) := ⟨rfl, rfl, rfl, by decide +kernel, rfl, by decide +kernel, by decide +kernel⟩
def b__law_number : DS :=
  (dRet (dAndV (dIsB (fun t => t == "int" || t == "bool") (dVar 0)) (dAndV (dNotV (dIsB (fun t => t == "bool") (dVar 0))) (dChain fLeX fLeX (dVar 1) (dVar 0) (dVar 2)))))
def f__law_number : FN := runB 3 b__law_number
theorem ok__law_number (T : Top K mg) : DefOk md P w K mg base 1 "_law_number" 3 f__law_number := by
  obtain ⟨fd, G⟩ := T.d__law_number
  refine def_by T.g__law_number G sc__law_number rfl (fun _ _ _ _ _ _ us hl => match us, hl with | [_, _, _], _ => rfl) (fun cdv A outer s H E hr tk hp =>
  (db_one (ds_ret (de_and (de_isiB (T := "int") (by decide +kernel) rfl T.g_isinstance rfl T.g_int (by decide +kernel) (de_var (i := 0) rfl (.inl rfl))) (de_and (de_not (de_isiB (T := "bool") (by decide +kernel) rfl T.g_isinstance rfl T.g_bool (by decide +kernel) (de_var (i := 0) rfl (.inl rfl)))) (de_one (de_chain opr_leX o_leX opr_leX o_leX (de_var (i := 1) rfl (.inl rfl)) (de_var (i := 0) rfl (.inl rfl)) (de_var (i := 2) rfl (.inl rfl)))))))))
def N__law_odd : List Str := ["_law_number_here", "_law_thing", "_law_some"]
theorem sc__law_odd : FnScope N__law_odd ["_law_number_here", "_law_thing"] (defScope s__law_odd) := ⟨rfl, rfl, rfl, by decide +kernel, rfl, by decide +kernel, by decide +kernel⟩
def b__law_odd : DS :=
  (dSeq (dAsg (dLst (dCons (dC .non) (dCons (dC (.bl true)) (dCons (dC (.int 5)) (dCons (dUn fNeg (dC (.int 1))) (dCons (dC (.int 4096)) (dCons (dC (.str "")) (dCons (dC (.str "a\tb")) (dCons (dC (.str "abcdefghijklm")) (dCons (dTup dNil) (dCons (dLst dNil) (dCons (dTup (dCons (dC (.str "in")) (dCons (dC (.str "x")) dNil))) (dCons (dTup (dCons (dC (.str "in")) (dCons (dC (.int 5)) dNil))) (dCons (dTup (dCons (dC (.str "out")) (dCons (dC (.int 0)) (dCons (dC (.int 1)) dNil)))) dNil)))))))))))))) (gSlot 2))
  (dSeq (dAsg (dBin (fCatL true) (dVar 2) (dLst (dCons (dTup (dCons (dC (.str "out")) (dCons (dC (.int 401)) (dCons (dC (.int 1)) dNil)))) (dCons (dTup (dCons (dC (.str "out")) (dCons (dC (.int 1)) (dCons (dC (.int 0)) dNil)))) (dCons (dTup (dCons (dC (.str "out")) (dCons (dC (.int 5)) (dCons (dC (.bl true)) dNil)))) (dCons (dTup (dCons (dC (.str "on")) (dCons (dC (.str "x")) dNil))) (dCons (dBin (fRep false) (dC (.str "x")) (dC (.int 401))) (dCons (dBin (fRep false) (dC (.str "x")) (dC (.int 64))) (dCons (dC (.str "leaf")) dNil))))))))) (gSlot 2))
  (dSeq (dExpr (dAppend (dVar 2) (dTup (dCons (dC (.str "in")) dNil))))
  (dSeq (dIf (dTest (dIsB (fun t => t == "tuple") (dVar 1)))
   (dAsg (dBin (fCatL false) (dVar 2) (dBin (fRep false) (dLstA (dCons (dCB (fListOf false) (dCons (dVar 1) dNil)) (dCons (dBin (fCat false) (dVar 1) (dSl (dVar 1) (dPart (dUn fNeg (dC (.int 1)))) dNoPart)) (dCons (dSl (dVar 1) dNoPart (dPart (dUn fNeg (dC (.int 1))))) (dCons (dUn fRevT (dVar 1)) dNil))))) (dC (.int 2)))) (gSlot 2))
   dNext)
  (dRet (dBin fIx (dVar 2) (dBin fMod (dVar 0) (dCB fLen (dCons (dVar 2) dNil)))))))))
def f__law_odd : FN := runB 3 b__law_odd
theorem ok__law_odd (T : Top K mg) : DefOk md P w K mg base 1 "_law_odd" 2 f__law_odd := by
  obtain ⟨fd, G⟩ := T.d__law_odd
  refine def_by T.g__law_odd G sc__law_odd rfl (fun _ _ _ _ _ _ us hl => match us, hl with | [_, _], _ => rfl) (fun cdv A outer s H E hr tk hp =>
  (db_cons (ds_set sc__law_odd.nd (i := 2) rfl (.inl rfl) (de_lst (da_cons de_non (da_cons de_bl (da_cons de_int (da_cons (de_un un_neg o_neg de_int) (da_cons de_int (da_cons de_str (da_cons de_str (da_cons de_str (da_cons (de_tup da_nil) (da_cons (de_lst da_nil) (da_cons (de_tup (da_cons de_str (da_cons de_str da_nil))) (da_cons (de_tup (da_cons de_str (da_cons de_int da_nil))) (da_cons (de_tup (da_cons de_str (da_cons de_int (da_cons de_int da_nil)))) da_nil)))))))))))))))
  (db_cons (ds_set sc__law_odd.nd (i := 2) rfl (.inl rfl) (de_bin op_catL o_catL (de_var (i := 2) rfl (.inl rfl)) (de_lst (da_cons (de_tup (da_cons de_str (da_cons de_int (da_cons de_int da_nil)))) (da_cons (de_tup (da_cons de_str (da_cons de_int (da_cons de_int da_nil)))) (da_cons (de_tup (da_cons de_str (da_cons de_int (da_cons de_bl da_nil)))) (da_cons (de_tup (da_cons de_str (da_cons de_str da_nil))) (da_cons (de_bin opr_rep o_rep de_str de_int) (da_cons (de_bin opr_rep o_rep de_str de_int) (da_cons de_str da_nil))))))))))
  (db_cons (ds_expr (de_append (de_var (i := 2) rfl (.inl rfl)) (de_tup (da_cons de_str da_nil))))
  (db_cons (ds_if (dt_val (de_isiB (T := "tuple") (by decide +kernel) rfl T.g_isinstance rfl T.g_tuple (by decide +kernel) (de_var (i := 1) rfl (.inl rfl))))
   (db_one (ds_set sc__law_odd.nd (i := 2) rfl (.inl rfl) (de_bin op_catL o_catL (de_var (i := 2) rfl (.inl rfl)) (de_bin opr_rep o_rep (de_lstA (da_cons (de_callTy call_list_of o_listOf rfl T.g_list (by decide +kernel) (da_cons (de_var (i := 1) rfl (.inl rfl)) da_nil)) (da_cons (de_bin opr_cat o_cat (de_var (i := 1) rfl (.inl rfl)) (de_sl (de_var (i := 1) rfl (.inl rfl)) (do_some (de_un un_neg o_neg de_int)) do_none)) (da_cons (de_sl (de_var (i := 1) rfl (.inl rfl)) do_none (do_some (de_un un_neg o_neg de_int))) (da_cons (de_revT (de_var (i := 1) rfl (.inl rfl))) da_nil))))) de_int))))
   db_nil)
  (db_one (ds_ret (de_ix (de_var (i := 2) rfl (.inl rfl)) (de_bin op_mod o_mod (de_var (i := 0) rfl (.inl rfl)) (de_callB c_len o_len rfl T.g_len (by decide +kernel) (da_cons (de_var (i := 2) rfl (.inl rfl)) da_nil)))))))))))
def N__law_bent : List Str := ["_law_page_here", "_law_number_here", "_law_at", "_law_rows", "_law_some", "_law_word", "_law_one", "_law_found", "_law_row"]
theorem sc__law_bent : FnScope N__law_bent ["_law_page_here", "_law_number_here"] (defScope s__law_bent) := ⟨rfl, rfl, rfl, by decide +kernel, rfl, by decide +kernel, by decide +kernel⟩
def l1__law_bent : DS :=
  (dSeq (dAsg (dIfE (dTest (dBin fEq (dBin fIx (dVar 0) (dC (.int 0))) (dC (.str "fork")))) (dVar 5) (dTup (dCons (dVar 5) (dCons (dTup (dCons (dC (.str "in")) (dCons (dC (.str "")) dNil))) dNil)))) (gSlot 6))
   (dExpr (dAppend (dVar 4) (dBin (fCat false) (dBin (fCat false) (dSl (dVar 3) dNoPart (dPart (dVar 2))) (dTup (dCons (dVar 6) dNil))) (dSl (dVar 3) (dPart (dBin fAdd (dVar 2) (dC (.int 1)))) dNoPart)))))
def c2__law_bent : DE :=
  (dTup (dCons (dC (.str "leaf")) (dCons (dVar 8) dNil)))
def c3__law_bent : DE :=
  (dTup (dCons (dC (.str "fork")) (dCons (dVar 8) (dCons (dSl (dBin (fCat false) (dBin fIx (dVar 0) (dC (.int 2))) (dTup (dCons (dC (.int 7)) dNil))) dNoPart (dPart (dBin fAdd (dCB fLen (dCons (dVar 8) dNil)) (dC (.int 1))))) dNil))))
def b__law_bent : DS :=
  (dSeq (dAsg (dBin fMod (dBin fFdiv (dVar 1) (dC (.int 11))) (dCB fLen (dCons (dBin fIx (dVar 0) (dC (.int 1))) dNil))) (gSlot 2))
  (dSeq (dAsg (dBin fIx (dVar 0) (dC (.int 1))) (gSlot 3))
  (dSeq (dAsg (dLstA (dCons (dBin (fCat false) (dBin (fCat false) (dSl (dVar 3) dNoPart (dPart (dVar 2))) (dSl (dVar 3) (dPart (dVar 2)) (dPart (dBin fAdd (dVar 2) (dC (.int 1)))))) (dSl (dVar 3) (dPart (dVar 2)) dNoPart)) (dCons (dBin (fCat false) (dBin (fCat false) (dSl (dVar 3) dNoPart (dPart (dVar 2))) (dSl (dVar 3) (dPart (dBin fAdd (dVar 2) (dC (.int 1)))) dNoPart)) (dSl (dVar 3) (dPart (dVar 2)) (dPart (dBin fAdd (dVar 2) (dC (.int 1)))))) dNil))) (gSlot 4))
  (dSeq (dFor (dItL (dLst (dCons (dC (.str "")) (dCons (dC (.str "abcdefghijklm")) dNil)))) (gSlot 5)
   l1__law_bent)
  (dSeq (dIf (dTest (dBin fEq (dBin fIx (dVar 0) (dC (.int 0))) (dC (.str "leaf"))))
   (dRet (dComp (dItL (dVar 4)) (gSlot 8) dYes c2__law_bent [8]))
   dNext)
  (dSeq (dAsg (dComp (dItL (dVar 4)) (gSlot 8) dYes c3__law_bent [8]) (gSlot 7))
  (dRet (dBin (fCatL false) (dVar 7) (dLst (dCons (dTup (dCons (dC (.str "fork")) (dCons (dVar 3) (dCons (dBin (fCat false) (dBin fIx (dVar 0) (dC (.int 2))) (dTup (dCons (dC (.int 7)) dNil))) dNil)))) (dCons (dTup (dCons (dC (.str "fork")) (dCons (dVar 3) (dCons (dSl (dBin fIx (dVar 0) (dC (.int 2))) (dPart (dC (.int 1))) dNoPart) dNil)))) (dCons (dTup (dCons (dC (.str "fork")) (dCons (dVar 3) (dCons (dBin (fCat false) (dTup (dCons (dC (.int 0)) dNil)) (dSl (dBin fIx (dVar 0) (dC (.int 2))) (dPart (dC (.int 1))) dNoPart)) dNil)))) dNil))))))))))))
def f__law_bent : FN := runB 9 b__law_bent
theorem ok__law_bent (T : Top K mg) : DefOk md P w K mg base 1 "_law_bent" 2 f__law_bent := by
  obtain ⟨fd, G⟩ := T.d__law_bent
  refine def_by T.g__law_bent G sc__law_bent rfl (fun _ _ _ _ _ _ us hl => match us, hl with | [_, _], _ => rfl) (fun cdv A outer s H E hr tk hp =>
  (db_cons (ds_set sc__law_bent.nd (i := 2) rfl (.inl rfl) (de_bin op_mod o_mod (de_bin op_fdiv o_fdiv (de_var (i := 1) rfl (.inl rfl)) de_int) (de_callB c_len o_len rfl T.g_len (by decide +kernel) (da_cons (de_ix (de_var (i := 0) rfl (.inr (.inl rfl))) de_int) da_nil))))
  (db_cons (ds_set sc__law_bent.nd (i := 3) rfl (.inl rfl) (de_ix (de_var (i := 0) rfl (.inr (.inl rfl))) de_int))
  (db_cons (ds_set sc__law_bent.nd (i := 4) rfl (.inl rfl) (de_lstA (da_cons (de_bin opr_cat o_cat (de_bin opr_cat o_cat (de_sl (de_var (i := 3) rfl (.inl rfl)) do_none (do_some (de_var (i := 2) rfl (.inl rfl)))) (de_sl (de_var (i := 3) rfl (.inl rfl)) (do_some (de_var (i := 2) rfl (.inl rfl))) (do_some (de_bin opr_add o_add (de_var (i := 2) rfl (.inl rfl)) de_int)))) (de_sl (de_var (i := 3) rfl (.inl rfl)) (do_some (de_var (i := 2) rfl (.inl rfl))) do_none)) (da_cons (de_bin opr_cat o_cat (de_bin opr_cat o_cat (de_sl (de_var (i := 3) rfl (.inl rfl)) do_none (do_some (de_var (i := 2) rfl (.inl rfl)))) (de_sl (de_var (i := 3) rfl (.inl rfl)) (do_some (de_bin opr_add o_add (de_var (i := 2) rfl (.inl rfl)) de_int)) do_none)) (de_sl (de_var (i := 3) rfl (.inl rfl)) (do_some (de_var (i := 2) rfl (.inl rfl))) (do_some (de_bin opr_add o_add (de_var (i := 2) rfl (.inl rfl)) de_int)))) da_nil))))
  (db_cons (ds_for hp rfl (di_list (de_lst (da_cons de_str (da_cons de_str da_nil)))) (dg_name sc__law_bent.nd (i := 5) rfl (.inl rfl))
   (db_cons (ds_set sc__law_bent.nd (i := 6) rfl (.inl rfl) (de_ifexp (dt_cmp (op_eqD hr.units) o_eq (de_ix (de_var (i := 0) rfl (.inr (.inl rfl))) de_int) de_str) (de_var (i := 5) rfl (.inl rfl)) (de_tup (da_cons (de_var (i := 5) rfl (.inl rfl)) (da_cons (de_tup (da_cons de_str (da_cons de_str da_nil))) da_nil)))))
   (db_one (ds_expr (de_append (de_var (i := 4) rfl (.inl rfl)) (de_bin opr_cat o_cat (de_bin opr_cat o_cat (de_sl (de_var (i := 3) rfl (.inl rfl)) do_none (do_some (de_var (i := 2) rfl (.inl rfl)))) (de_tup (da_cons (de_var (i := 6) rfl (.inl rfl)) da_nil))) (de_sl (de_var (i := 3) rfl (.inl rfl)) (do_some (de_bin opr_add o_add (de_var (i := 2) rfl (.inl rfl)) de_int)) do_none)))))))
  (db_cons (ds_if (dt_cmp (op_eqD hr.units) o_eq (de_ix (de_var (i := 0) rfl (.inr (.inl rfl))) de_int) de_str)
   (db_one (ds_ret (de_comp (own := [("_law_row", 8)]) rfl sc__law_bent.nd (di_list (de_var (i := 4) rfl (.inl rfl))) (show BlkOk N__law_bent (defScope s__law_bent) _ _ from blk_of (by decide +kernel)) (fun _ _ _ _ _ => (dc_name sc__law_bent.nd rfl (.inl rfl) (by simp))) (fun _ _ _ _ _ => dp_nil) (fun _ _ _ _ _ => (de_tup (da_cons de_str (da_cons (de_var (i := 8) rfl (.inl rfl)) da_nil)))))))
   db_nil)
  (db_cons (ds_setComp (own := [("_law_row", 8)]) rfl sc__law_bent.nd (i := 7) rfl rfl rfl (di_list (de_var (i := 4) rfl (.inl rfl))) (show BlkOk N__law_bent (defScope s__law_bent) _ _ from blk_of (by decide +kernel)) (fun _ _ _ _ _ => (dc_name sc__law_bent.nd rfl (.inl rfl) (by simp))) (fun _ _ _ _ _ => dp_nil) (fun _ _ _ _ _ => (de_tup (da_cons de_str (da_cons (de_var (i := 8) rfl (.inl rfl)) (da_cons (de_sl (de_bin opr_cat o_cat (de_ix (de_var (i := 0) rfl (.inr (.inl rfl))) de_int) (de_tup (da_cons de_int da_nil))) do_none (do_some (de_bin opr_add o_add (de_callB c_len o_len rfl T.g_len (by decide +kernel) (da_cons (de_var (i := 8) rfl (.inl rfl)) da_nil)) de_int))) da_nil))))))
  (db_one (ds_ret (de_bin op_catL o_catL (de_var (i := 7) rfl (.inl rfl)) (de_lst (da_cons (de_tup (da_cons de_str (da_cons (de_var (i := 3) rfl (.inl rfl)) (da_cons (de_bin opr_cat o_cat (de_ix (de_var (i := 0) rfl (.inr (.inl rfl))) de_int) (de_tup (da_cons de_int da_nil))) da_nil)))) (da_cons (de_tup (da_cons de_str (da_cons (de_var (i := 3) rfl (.inl rfl)) (da_cons (de_sl (de_ix (de_var (i := 0) rfl (.inr (.inl rfl))) de_int) (do_some de_int) do_none) da_nil)))) (da_cons (de_tup (da_cons de_str (da_cons (de_var (i := 3) rfl (.inl rfl)) (da_cons (de_bin opr_cat o_cat (de_tup (da_cons de_int da_nil)) (de_sl (de_ix (de_var (i := 0) rfl (.inr (.inl rfl))) de_int) (do_some de_int) do_none)) da_nil)))) da_nil))))))))))))))
def N_digits : List Str := ["number", "many", "place"]
theorem sc_digits : FnScope N_digits ["number", "many"] (defScope s_digits) := ⟨rfl, rfl, rfl, by decide +kernel, rfl, by decide +kernel, by decide +kernel⟩
def c1_digits : DE :=
  (dBin fIx (dC (.str c_SIGNS)) (dBin fBitAnd (dBin fShr (dVar 0) (dBin fMulX (dC (.int 6)) (dVar 2))) (dC (.int 63))))
def b_digits : DS :=
  (dSeq (dIf (dOr (dNot (dTest (dCall 1 f_is_whole (dCons (dVar 1) dNil)))) (dOr (dNot (dTest (dChain fLeX fLeX (dC (.int 1)) (dVar 1) (dC (.int 3))))) (dNot (dTest (dCall 1 f_is_whole (dCons (dVar 0) dNil))))))
   (dRaise "BadNumber")
   dNext)
  (dSeq (dIf (dOr (dTest (dBin fLtX (dVar 0) (dC (.int 0)))) (dTest (dBin fNe (dBin fShr (dVar 0) (dBin fMulX (dC (.int 6)) (dVar 1))) (dC (.int 0)))))
   (dRaise "BadNumber")
   dNext)
  (dRet (dM1 mJoin (dC (.str "")) (dComp (dItRR1 (dVar 1)) (gSlot 2) dYes c1_digits [2])))))
def f_digits : FN := runB 3 b_digits
theorem ok_digits (T : Top K mg) : DefOk md P w K mg base 2 "digits" 2 f_digits := by
  obtain ⟨fd, G⟩ := T.d_digits
  refine def_by T.g_digits G sc_digits rfl (fun _ _ _ _ _ _ us hl => match us, hl with | [_, _], _ => rfl) (fun cdv A outer s H E hr tk hp =>
  (db_cons (ds_if (dt_w (dw_or (dt_not (dt_val (de_call (ok_is_whole T) (hr.mono (by decide)) tk rfl (da_cons (de_var (i := 1) rfl (.inl rfl)) da_nil)))) (dw_or (dt_not (dt_chain opr_leX o_leX opr_leX o_leX de_int (de_var (i := 1) rfl (.inl rfl)) (de_gint rfl T.g_MOST_MANY))) (dw_or1 (dt_not (dt_val (de_call (ok_is_whole T) (hr.mono (by decide)) tk rfl (da_cons (de_var (i := 0) rfl (.inr (.inl rfl))) da_nil))))))))
   (db_one (ds_raise T.e_BadNumber rfl tk rfl))
   db_nil)
  (db_cons (ds_if (dt_w (dw_or (dt_cmp opr_ltX o_ltX (de_var (i := 0) rfl (.inr (.inl rfl))) de_int) (dw_or1 (dt_cmp (op_neD hr.units) o_ne (de_bin op_shr o_shr (de_var (i := 0) rfl (.inr (.inl rfl))) (de_bin opr_mul o_mulX de_int (de_var (i := 1) rfl (.inl rfl)))) de_int))))
   (db_one (ds_raise T.e_BadNumber rfl tk rfl))
   db_nil)
  (db_one (ds_ret (de_join de_str (de_comp (own := [("place", 2)]) rfl sc_digits.nd (di_rrange1 rfl T.g_reversed rfl T.g_range (de_var (i := 1) rfl (.inl rfl))) (show BlkOk N_digits (defScope s_digits) _ _ from blk_of (by decide +kernel)) (fun _ _ _ _ _ => (dc_name sc_digits.nd rfl (.inl rfl) (by simp))) (fun _ _ _ _ _ => dp_nil) (fun _ _ _ _ _ => (de_ix (de_gstr (z := c_SIGNS) rfl T.g_SIGNS) (de_bin op_and o_and (de_bin op_shr o_shr (de_var (i := 0) rfl (.inr (.inl rfl))) (de_bin opr_mul o_mulX de_int (de_var (i := 2) rfl (.inl rfl)))) de_int))))))))))
def N_is_number : List Str := ["thing", "least"]
theorem sc_is_number : FnScope N_is_number ["thing", "least"] (defScope s_is_number) := ⟨rfl, rfl, rfl, by decide +kernel, rfl, by decide +kernel, by decide +kernel⟩
def b_is_number : DS :=
  (dRet (dAndV (dCall 1 f_is_whole (dCons (dVar 0) dNil)) (dChain fLeX fLeX (dVar 1) (dVar 0) (dC (.int 4095)))))
def f_is_number : FN := runB 2 b_is_number
theorem bd_is_number (T : Top K mg) : BodyOk md P w K mg base "is_number" (defScope s_is_number) (He.ga K "is_number") N_is_number 1 (defBody s_is_number) b_is_number := fun cdv A outer s H E hr tk hp =>
  (db_one (ds_ret (de_and (de_call (ok_is_whole T) (hr.mono (by decide)) tk rfl (da_cons (de_var (i := 0) rfl (.inl rfl)) da_nil)) (de_one (de_chain opr_leX o_leX opr_leX o_leX (de_var (i := 1) rfl (.inl rfl)) (de_var (i := 0) rfl (.inl rfl)) (de_gint rfl T.g_MOST_NUMBER))))))
theorem ok_is_number (T : Top K mg) : DefOk md P w K mg base 2 "is_number" 2 f_is_number := by
  obtain ⟨fd, G⟩ := T.d_is_number
  exact def_byA T.g_is_number G sc_is_number rfl (by simp) (fun _ _ _ _ _ _ _ us its hu hi => match us, its, hu, hi with | [_, _], [_], _, _ => ⟨_, rfl, rfl⟩) (bd_is_number T)
theorem okD_is_number (T : Top K mg) : DefOkD md P w K mg base 2 "is_number" 1 [.int 0] f_is_number := by
  obtain ⟨fd, G⟩ := T.d_is_number
  exact def_byD T.g_is_number G sc_is_number rfl (by simp) rfl (fun _ _ => (RepL.cons rep_int RepL.nil)) (fun _ _ _ _ _ _ _ us its hu hi => match us, its, hu, hi with | [_], [_], _, _ => ⟨_, rfl, rfl⟩) (bd_is_number T)
def N_is_key : List Str := ["thing"]
theorem sc_is_key : FnScope N_is_key ["thing"] (defScope s_is_key) := ⟨rfl, rfl, rfl, by decide +kernel, rfl, by decide +kernel, by decide +kernel⟩
def b_is_key : DS :=
  (dRet (dAndV (dCall 1 f_is_text (dCons (dVar 0) dNil)) (dChain fLeX fLeX (dC (.int 1)) (dCB fLen (dCons (dVar 0) dNil)) (dC (.int 12)))))
def f_is_key : FN := runB 1 b_is_key
theorem ok_is_key (T : Top K mg) : DefOk md P w K mg base 2 "is_key" 1 f_is_key := by
  obtain ⟨fd, G⟩ := T.d_is_key
  refine def_by T.g_is_key G sc_is_key rfl (fun _ _ _ _ _ _ us hl => match us, hl with | [_], _ => rfl) (fun cdv A outer s H E hr tk hp =>
  (db_one (ds_ret (de_and (de_call (ok_is_text T) (hr.mono (by decide)) tk rfl (da_cons (de_var (i := 0) rfl (.inl rfl)) da_nil)) (de_one (de_chain opr_leX o_leX opr_leX o_leX de_int (de_callB c_len o_len rfl T.g_len (by decide +kernel) (da_cons (de_var (i := 0) rfl (.inl rfl)) da_nil)) (de_gint rfl T.g_MOST_KEY)))))))
def N_is_value : List Str := ["thing"]
theorem sc_is_value : FnScope N_is_value ["thing"] (defScope s_is_value) := ⟨rfl, rfl, rfl, by decide +kernel, rfl, by decide +kernel, by decide +kernel⟩
def b_is_value : DS :=
  (dRet (dAndV (dCall 1 f_is_text (dCons (dVar 0) dNil)) (dBin fLeX (dCB fLen (dCons (dVar 0) dNil)) (dC (.int 400)))))
def f_is_value : FN := runB 1 b_is_value
theorem ok_is_value (T : Top K mg) : DefOk md P w K mg base 2 "is_value" 1 f_is_value := by
  obtain ⟨fd, G⟩ := T.d_is_value
  refine def_by T.g_is_value G sc_is_value rfl (fun _ _ _ _ _ _ us hl => match us, hl with | [_], _ => rfl) (fun cdv A outer s H E hr tk hp =>
  (db_one (ds_ret (de_and (de_call (ok_is_text T) (hr.mono (by decide)) tk rfl (da_cons (de_var (i := 0) rfl (.inl rfl)) da_nil)) (de_one (de_cmp opr_leX o_leX (de_callB c_len o_len rfl T.g_len (by decide +kernel) (da_cons (de_var (i := 0) rfl (.inl rfl)) da_nil)) (de_gint rfl T.g_MOST_VALUE)))))))
def N_is_size : List Str := ["thing"]
theorem sc_is_size : FnScope N_is_size ["thing"] (defScope s_is_size) := ⟨rfl, rfl, rfl, by decide +kernel, rfl, by decide +kernel, by decide +kernel⟩
def b_is_size : DS :=
  (dRet (dAndV (dCall 1 f_is_whole (dCons (dVar 0) dNil)) (dChain fLeX fLeX (dC (.int 64)) (dVar 0) (dC (.int 200)))))
def f_is_size : FN := runB 1 b_is_size
theorem ok_is_size (T : Top K mg) : DefOk md P w K mg base 2 "is_size" 1 f_is_size := by
  obtain ⟨fd, G⟩ := T.d_is_size
  refine def_by T.g_is_size G sc_is_size rfl (fun _ _ _ _ _ _ us hl => match us, hl with | [_], _ => rfl) (fun cdv A outer s H E hr tk hp =>
  (db_one (ds_ret (de_and (de_call (ok_is_whole T) (hr.mono (by decide)) tk rfl (da_cons (de_var (i := 0) rfl (.inl rfl)) da_nil)) (de_one (de_chain opr_leX o_leX opr_leX o_leX (de_gint rfl T.g_LEAST_SIZE) (de_var (i := 0) rfl (.inl rfl)) (de_gint rfl T.g_MOST_SIZE)))))))
def N__law_next : List Str := ["_law_state", "_law_k", "_law_cell_here"]
theorem sc__law_next : FnScope N__law_next ["_law_state"] (defScope s__law_next) := ⟨rfl, rfl, rfl, by decide +kernel, rfl, by decide +kernel, by decide +kernel⟩
def b__law_next : DS :=
  (dSeq (dDPut (dVar 0) (dC (.str "at")) (dBin fAdd (dBin fDGet (dVar 0) (dC (.str "at"))) (dC (.int 1))))
  (dSeq (dAsg (dBin fDGet (dVar 0) (dC (.str "at"))) (gSlot 1))
  (dSeq (dAsg (dCall 2 f__law_cell_at (dCons (dBin fDGet (dVar 0) (dC (.str "cells"))) (dCons (dBin fMod (dVar 1) (dCB fMax2 (dCons (dC (.int 1)) (dCons (dCB fLen (dCons (dBin fDGet (dVar 0) (dC (.str "cells"))) dNil)) dNil)))) dNil))) (gSlot 2))
  (dRet (dBin fFdiv (dBin fMod (dBin fAdd (dBin fMulX (dVar 2) (dC (.int 48271))) (dBin fMulX (dBin fMulX (dVar 1) (dVar 1)) (dC (.int 69621)))) (dC (.int 2147483647))) (dC (.int 8)))))))
def f__law_next : FN := runB 3 b__law_next
theorem ok__law_next (T : Top K mg) : DefOk md P w K mg base 2 "_law_next" 1 f__law_next := by
  obtain ⟨fd, G⟩ := T.d__law_next
  refine def_by T.g__law_next G sc__law_next rfl (fun _ _ _ _ _ _ us hl => match us, hl with | [_], _ => rfl) (fun cdv A outer s H E hr tk hp =>
  (db_cons (ds_dput (room1 hr) (de_var (i := 0) rfl (.inl rfl)) de_str (de_bin opr_add o_add (de_dget (room1 hr) (de_var (i := 0) rfl (.inl rfl)) de_str) de_int))
  (db_cons (ds_set sc__law_next.nd (i := 1) rfl (.inl rfl) (de_dget (room1 hr) (de_var (i := 0) rfl (.inl rfl)) de_str))
  (db_cons (ds_set sc__law_next.nd (i := 2) rfl (.inl rfl) (de_call (ok__law_cell_at T) (hr.mono (by decide)) tk rfl (da_cons (de_dget (room1 hr) (de_var (i := 0) rfl (.inl rfl)) de_str) (da_cons (de_bin op_mod o_mod (de_var (i := 1) rfl (.inl rfl)) (de_callB (call_max2 rfl) o_max2 rfl T.g_max (by decide +kernel) (da_cons de_int (da_cons (de_callB c_len o_len rfl T.g_len (by decide +kernel) (da_cons (de_dget (room1 hr) (de_var (i := 0) rfl (.inl rfl)) de_str) da_nil)) da_nil)))) da_nil))))
  (db_one (ds_ret (de_bin op_fdiv o_fdiv (de_bin op_mod o_mod (de_bin opr_add o_add (de_bin opr_mul o_mulX (de_var (i := 2) rfl (.inl rfl)) de_int) (de_bin opr_mul o_mulX (de_bin opr_mul o_mulX (de_var (i := 1) rfl (.inl rfl)) (de_var (i := 1) rfl (.inl rfl))) de_int)) de_int) de_int)))))))
def N__law_text : List Str := ["_law_number_here", "_law_size", "_law_signs_here", "_law_many", "_law_k"]
theorem sc__law_text : FnScope N__law_text ["_law_number_here", "_law_size"] (defScope s__law_text) := ⟨rfl, rfl, rfl, by decide +kernel, rfl, by decide +kernel, by decide +kernel⟩
def c1__law_text : DE :=
  (dBin fIx (dVar 2) (dBin fMod (dBin fAdd (dBin fAdd (dBin fFdiv (dVar 0) (dC (.int 7))) (dBin fMulX (dBin fMulX (dC (.int 13)) (dVar 4)) (dVar 4))) (dBin fMulX (dC (.int 5)) (dVar 4))) (dVar 3)))
def b__law_text : DS :=
  (dSeq (dAsg (dCall 0 f__law_signs dNil) (gSlot 2))
  (dSeq (dAsg (dCB fLen (dCons (dVar 2) dNil)) (gSlot 3))
  (dRet (dM1 mJoin (dC (.str "")) (dComp (dItR1 (dVar 1)) (gSlot 4) dYes c1__law_text [4])))))
def f__law_text : FN := runB 5 b__law_text
theorem ok__law_text (T : Top K mg) : DefOk md P w K mg base 2 "_law_text" 2 f__law_text := by
  obtain ⟨fd, G⟩ := T.d__law_text
  refine def_by T.g__law_text G sc__law_text rfl (fun _ _ _ _ _ _ us hl => match us, hl with | [_, _], _ => rfl) (fun cdv A outer s H E hr tk hp =>
  (db_cons (ds_set sc__law_text.nd (i := 2) rfl (.inr rfl) (de_call0 (ok__law_signs T) (hr.mono (by decide)) tk rfl))
  (db_cons (ds_set sc__law_text.nd (i := 3) rfl (.inr rfl) (de_callB c_len o_len rfl T.g_len (by decide +kernel) (da_cons (de_var (i := 2) rfl (.inr (.inl rfl))) da_nil)))
  (db_one (ds_ret (de_join de_str (de_comp (own := [("_law_k", 4)]) rfl sc__law_text.nd (di_range1 rfl T.g_range (de_var (i := 1) rfl (.inl rfl))) (show BlkOk N__law_text (defScope s__law_text) _ _ from blk_of (by decide +kernel)) (fun _ _ _ _ _ => (dc_name sc__law_text.nd rfl (.inl rfl) (by simp))) (fun _ _ _ _ _ => dp_nil) (fun _ _ _ _ _ => (de_ix (de_var (i := 2) rfl (.inr (.inl rfl))) (de_bin op_mod o_mod (de_bin opr_add o_add (de_bin opr_add o_add (de_bin op_fdiv o_fdiv (de_var (i := 0) rfl (.inr (.inl rfl))) de_int) (de_bin opr_mul o_mulX (de_bin opr_mul o_mulX de_int (de_var (i := 4) rfl (.inl rfl))) (de_var (i := 4) rfl (.inl rfl)))) (de_bin opr_mul o_mulX de_int (de_var (i := 4) rfl (.inl rfl)))) (de_var (i := 3) rfl (.inr (.inl rfl)))))))))))))
def N__law_body : List Str := ["_law_page_here", "_law_found", "_law_key", "_law_cell_here", "_law_number_here", "_law_kid"]
theorem sc__law_body : FnScope N__law_body ["_law_page_here"] (defScope s__law_body) := ⟨rfl, rfl, rfl, by decide +kernel, rfl, by decide +kernel, by decide +kernel⟩
def c1__law_body : DE :=
  (dCall 2 f__law_digits (dCons (dVar 4) (dCons (dC (.int 2)) dNil)))
def l2__law_body : DS :=
  (dAsg (dBin fAdd (dBin fAdd (dVar 1) (dCall 2 f__law_digits (dCons (dCB fLen (dCons (dVar 2) dNil)) (dCons (dC (.int 1)) dNil)))) (dVar 2)) (gSlot 1))
def c3__law_body : DE :=
  (dCall 2 f__law_digits (dCons (dVar 5) (dCons (dC (.int 2)) dNil)))
def l4__law_body : DS :=
  (dSeq (dAsg (dBin fAdd (dBin fAdd (dVar 1) (dCall 2 f__law_digits (dCons (dCB fLen (dCons (dVar 2) dNil)) (dCons (dC (.int 1)) dNil)))) (dVar 2)) (gSlot 1))
   (dIf (dTest (dBin fEq (dBin fIx (dVar 3) (dC (.int 0))) (dC (.str "in"))))
    (dAsg (dBin fAdd (dBin fAdd (dBin fAdd (dVar 1) (dC (.str "i"))) (dCall 2 f__law_digits (dCons (dCB fLen (dCons (dBin fIx (dVar 3) (dC (.int 1))) dNil)) (dCons (dC (.int 1)) dNil)))) (dBin fIx (dVar 3) (dC (.int 1)))) (gSlot 1))
    (dAsg (dBin fAdd (dBin fAdd (dBin fAdd (dVar 1) (dC (.str "o"))) (dCall 2 f__law_digits (dCons (dBin fIx (dVar 3) (dC (.int 1))) (dCons (dC (.int 2)) dNil)))) (dCall 2 f__law_digits (dCons (dBin fIx (dVar 3) (dC (.int 2))) (dCons (dC (.int 2)) dNil)))) (gSlot 1))))
def b__law_body : DS :=
  (dSeq (dIf (dTest (dBin fEq (dBin fIx (dVar 0) (dC (.int 0))) (dC (.str "rest"))))
   (dRet (dBin fAdd (dCall 2 f__law_digits (dCons (dBin fIx (dVar 0) (dC (.int 2))) (dCons (dC (.int 2)) dNil))) (dBin fIx (dVar 0) (dC (.int 1)))))
   dNext)
  (dSeq (dIf (dOr (dTest (dBin fEq (dBin fIx (dVar 0) (dC (.int 0))) (dC (.str "head")))) (dTest (dBin fEq (dBin fIx (dVar 0) (dC (.int 0))) (dC (.str "free")))))
   (dRet (dM1 mJoin (dC (.str "")) (dComp (dItT (dSl (dVar 0) (dPart (dC (.int 1))) dNoPart)) (gSlot 4) dYes c1__law_body [4])))
   dNext)
  (dSeq (dAsg (dCall 2 f__law_digits (dCons (dCB fLen (dCons (dBin fIx (dVar 0) (dC (.int 1))) dNil)) (dCons (dC (.int 1)) dNil))) (gSlot 1))
  (dSeq (dIf (dTest (dBin fEq (dBin fIx (dVar 0) (dC (.int 0))) (dC (.str "fork"))))
   (dSeq (dFor (dItT (dBin fIx (dVar 0) (dC (.int 1)))) (gSlot 2)
    l2__law_body)
   (dRet (dBin fAdd (dVar 1) (dM1 mJoin (dC (.str "")) (dComp (dItT (dBin fIx (dVar 0) (dC (.int 2)))) (gSlot 5) dYes c3__law_body [5])))))
   dNext)
  (dSeq (dFor (dItT (dBin fIx (dVar 0) (dC (.int 1)))) (gTupD 2 (gsCons (gSlot 2) (gsCons (gSlot 3) gsNil)))
   l4__law_body)
  (dRet (dVar 1)))))))
def f__law_body : FN := runB 6 b__law_body
theorem ok__law_body (T : Top K mg) : DefOk md P w K mg base 2 "_law_body" 1 f__law_body := by
  obtain ⟨fd, G⟩ := T.d__law_body
  refine def_by T.g__law_body G sc__law_body rfl (fun _ _ _ _ _ _ us hl => match us, hl with | [_], _ => rfl) (fun cdv A outer s H E hr tk hp =>
  (db_cons (ds_if (dt_cmp (op_eqD hr.units) o_eq (de_ix (de_var (i := 0) rfl (.inl rfl)) de_int) de_str)
   (db_one (ds_ret (de_bin opr_add o_add (de_call (ok__law_digits T) (hr.mono (by decide)) tk rfl (da_cons (de_ix (de_var (i := 0) rfl (.inl rfl)) de_int) (da_cons de_int da_nil))) (de_ix (de_var (i := 0) rfl (.inl rfl)) de_int))))
   db_nil)
  (db_cons (ds_if (dt_w (dw_or (dt_cmp (op_eqD hr.units) o_eq (de_ix (de_var (i := 0) rfl (.inl rfl)) de_int) de_str) (dw_or1 (dt_cmp (op_eqD hr.units) o_eq (de_ix (de_var (i := 0) rfl (.inl rfl)) de_int) de_str))))
   (db_one (ds_ret (de_join de_str (de_comp (own := [("_law_number_here", 4)]) rfl sc__law_body.nd (di_tup (de_sl (de_var (i := 0) rfl (.inl rfl)) (do_some de_int) do_none)) (show BlkOk N__law_body (defScope s__law_body) _ _ from blk_of (by decide +kernel)) (fun _ _ _ _ _ => (dc_name sc__law_body.nd rfl (.inl rfl) (by simp))) (fun _ _ _ _ _ => dp_nil) (fun _ _ _ _ _ => (de_call (ok__law_digits T) (hr.mono (by decide)) (takes_f (m := .a)) rfl (da_cons (de_var (i := 4) rfl (.inl rfl)) (da_cons de_int da_nil))))))))
   db_nil)
  (db_cons (ds_set sc__law_body.nd (i := 1) rfl (.inl rfl) (de_call (ok__law_digits T) (hr.mono (by decide)) tk rfl (da_cons (de_callB c_len o_len rfl T.g_len (by decide +kernel) (da_cons (de_ix (de_var (i := 0) rfl (.inl rfl)) de_int) da_nil)) (da_cons de_int da_nil))))
  (db_cons (ds_if (dt_cmp (op_eqD hr.units) o_eq (de_ix (de_var (i := 0) rfl (.inl rfl)) de_int) de_str)
   (db_cons (ds_for hp rfl (di_tup (de_ix (de_var (i := 0) rfl (.inl rfl)) de_int)) (dg_name sc__law_body.nd (i := 2) rfl (.inl rfl))
    (db_one (ds_set sc__law_body.nd (i := 1) rfl (.inl rfl) (de_bin opr_add o_add (de_bin opr_add o_add (de_var (i := 1) rfl (.inl rfl)) (de_call (ok__law_digits T) (hr.mono (by decide)) tk rfl (da_cons (de_callB c_len o_len rfl T.g_len (by decide +kernel) (da_cons (de_var (i := 2) rfl (.inl rfl)) da_nil)) (da_cons de_int da_nil)))) (de_var (i := 2) rfl (.inl rfl))))))
   (db_one (ds_ret (de_bin opr_add o_add (de_var (i := 1) rfl (.inl rfl)) (de_join de_str (de_comp (own := [("_law_kid", 5)]) rfl sc__law_body.nd (di_tup (de_ix (de_var (i := 0) rfl (.inl rfl)) de_int)) (show BlkOk N__law_body (defScope s__law_body) _ _ from blk_of (by decide +kernel)) (fun _ _ _ _ _ => (dc_name sc__law_body.nd rfl (.inl rfl) (by simp))) (fun _ _ _ _ _ => dp_nil) (fun _ _ _ _ _ => (de_call (ok__law_digits T) (hr.mono (by decide)) (takes_f (m := .a)) rfl (da_cons (de_var (i := 5) rfl (.inl rfl)) (da_cons de_int da_nil))))))))))
   db_nil)
  (db_cons (ds_for hp rfl (di_tup (de_ix (de_var (i := 0) rfl (.inl rfl)) de_int)) (dg_tup rfl (dgs_cons (dg_name sc__law_body.nd (i := 2) rfl (.inl rfl)) (dgs_cons (dg_name sc__law_body.nd (i := 3) rfl (.inl rfl)) dgs_nil)))
   (db_cons (ds_set sc__law_body.nd (i := 1) rfl (.inl rfl) (de_bin opr_add o_add (de_bin opr_add o_add (de_var (i := 1) rfl (.inl rfl)) (de_call (ok__law_digits T) (hr.mono (by decide)) tk rfl (da_cons (de_callB c_len o_len rfl T.g_len (by decide +kernel) (da_cons (de_var (i := 2) rfl (.inl rfl)) da_nil)) (da_cons de_int da_nil)))) (de_var (i := 2) rfl (.inl rfl))))
   (db_one (ds_if (dt_cmp (op_eqD hr.units) o_eq (de_ix (de_var (i := 3) rfl (.inl rfl)) de_int) de_str)
    (db_one (ds_set sc__law_body.nd (i := 1) rfl (.inl rfl) (de_bin opr_add o_add (de_bin opr_add o_add (de_bin opr_add o_add (de_var (i := 1) rfl (.inl rfl)) de_str) (de_call (ok__law_digits T) (hr.mono (by decide)) tk rfl (da_cons (de_callB c_len o_len rfl T.g_len (by decide +kernel) (da_cons (de_ix (de_var (i := 3) rfl (.inl rfl)) de_int) da_nil)) (da_cons de_int da_nil)))) (de_ix (de_var (i := 3) rfl (.inl rfl)) de_int))))
    (db_one (ds_set sc__law_body.nd (i := 1) rfl (.inl rfl) (de_bin opr_add o_add (de_bin opr_add o_add (de_bin opr_add o_add (de_var (i := 1) rfl (.inl rfl)) de_str) (de_call (ok__law_digits T) (hr.mono (by decide)) tk rfl (da_cons (de_ix (de_var (i := 3) rfl (.inl rfl)) de_int) (da_cons de_int da_nil)))) (de_call (ok__law_digits T) (hr.mono (by decide)) tk rfl (da_cons (de_ix (de_var (i := 3) rfl (.inl rfl)) de_int) (da_cons de_int da_nil))))))))))
  (db_one (ds_ret (de_var (i := 1) rfl (.inl rfl))))))))))
def N__law_good_text : List Str := ["_law_thing", "_law_least", "_law_most", "_law_sign"]
theorem sc__law_good_text : FnScope N__law_good_text ["_law_thing", "_law_least", "_law_most"] (defScope s__law_good_text) := ⟨rfl, rfl, rfl, by decide +kernel, rfl, by decide +kernel, by decide +kernel⟩
def c1__law_good_text : DE :=
  (dVar 3)
def t2__law_good_text : DT :=
  (dTest (dBin (fInS true) (dVar 3) (dCall 0 f__law_signs dNil)))
def b__law_good_text : DS :=
  (dSeq (dIf (dOr (dNot (dTest (dIsB (fun t => t == "str") (dVar 0)))) (dNot (dTest (dChain fLeX fLeX (dVar 1) (dCB fLen (dCons (dVar 0) dNil)) (dVar 2)))))
   (dRet (dC (.bl false)))
   dNext)
  (dRet (dBin fEq (dComp (dItS (dVar 0)) (gSlot 3) t2__law_good_text c1__law_good_text [3]) (dLst dNil))))
def f__law_good_text : FN := runB 4 b__law_good_text
theorem ok__law_good_text (T : Top K mg) : DefOk md P w K mg base 2 "_law_good_text" 3 f__law_good_text := by
  obtain ⟨fd, G⟩ := T.d__law_good_text
  refine def_by T.g__law_good_text G sc__law_good_text rfl (fun _ _ _ _ _ _ us hl => match us, hl with | [_, _, _], _ => rfl) (fun cdv A outer s H E hr tk hp =>
  (db_cons (ds_if (dt_w (dw_or (dt_not (dt_val (de_isiB (T := "str") (by decide +kernel) rfl T.g_isinstance rfl T.g_str (by decide +kernel) (de_var (i := 0) rfl (.inl rfl))))) (dw_or1 (dt_not (dt_chain opr_leX o_leX opr_leX o_leX (de_var (i := 1) rfl (.inl rfl)) (de_callB c_len o_len rfl T.g_len (by decide +kernel) (da_cons (de_var (i := 0) rfl (.inl rfl)) da_nil)) (de_var (i := 2) rfl (.inl rfl)))))))
   (db_one (ds_ret de_bl))
   db_nil)
  (db_one (ds_ret (de_cmp (op_eqD hr.units) o_eq (de_comp (own := [("_law_sign", 3)]) rfl sc__law_good_text.nd (di_str (de_var (i := 0) rfl (.inl rfl))) (show BlkOk N__law_good_text (defScope s__law_good_text) _ _ from blk_of (by decide +kernel)) (fun _ _ _ _ _ => (dc_name sc__law_good_text.nd rfl (.inl rfl) (by simp))) (fun _ _ _ _ _ => (dp_one (dt_cmp opr_notin o_notin (de_var (i := 3) rfl (.inl rfl)) (de_call0 (ok__law_signs T) (hr.mono (by decide)) (takes_f (m := .a)) rfl)))) (fun _ _ _ _ _ => (de_var (i := 3) rfl (.inl rfl)))) (de_lst da_nil))))))
def N_check_of : List Str := ["text", "found", "place", "sign"]
theorem sc_check_of : FnScope N_check_of ["text"] (defScope s_check_of) := ⟨rfl, rfl, rfl, by decide +kernel, rfl, by decide +kernel, by decide +kernel⟩
def l1_check_of : DS :=
  (dAug 1 fAddI (dBin fMulX (dBin fSub (dCB fOrd (dCons (dVar 3) dNil)) (dC (.int 31))) (dBin fAdd (dVar 2) (dC (.int 1)))))
def b_check_of : DS :=
  (dSeq (dIf (dNot (dTest (dCall 1 f_is_text (dCons (dVar 0) dNil))))
   (dRaise "BadText")
   dNext)
  (dSeq (dAsg (dC (.int 0)) (gSlot 1))
  (dSeq (dFor (dItES (dVar 0)) (gTupD 2 (gsCons (gSlot 2) (gsCons (gSlot 3) gsNil)))
   l1_check_of)
  (dRet (dCall 2 f_digits (dCons (dBin fMod (dVar 1) (dC (.int 4093))) (dCons (dC (.int 2)) dNil)))))))
def f_check_of : FN := runB 4 b_check_of
theorem ok_check_of (T : Top K mg) : DefOk md P w K mg base 3 "check_of" 1 f_check_of := by
  obtain ⟨fd, G⟩ := T.d_check_of
  refine def_by T.g_check_of G sc_check_of rfl (fun _ _ _ _ _ _ us hl => match us, hl with | [_], _ => rfl) (fun cdv A outer s H E hr tk hp =>
  (db_cons (ds_if (dt_not (dt_val (de_call (ok_is_text T) (hr.mono (by decide)) tk rfl (da_cons (de_var (i := 0) rfl (.inl rfl)) da_nil))))
   (db_one (ds_raise T.e_BadText rfl tk rfl))
   db_nil)
  (db_cons (ds_set sc_check_of.nd (i := 1) rfl (.inl rfl) de_int)
  (db_cons (ds_for hp rfl (di_enumS rfl T.g_enumerate (de_var (i := 0) rfl (.inl rfl))) (dg_tup rfl (dgs_cons (dg_name sc_check_of.nd (i := 2) rfl (.inl rfl)) (dgs_cons (dg_name sc_check_of.nd (i := 3) rfl (.inl rfl)) dgs_nil)))
   (db_one (ds_aug sc_check_of.nd (i := 1) rfl (.inl rfl) (de_bin opr_mul o_mulX (de_bin op_sub o_sub (de_callB call_ord o_ord rfl T.g_ord (by decide +kernel) (da_cons (de_var (i := 3) rfl (.inl rfl)) da_nil)) (de_gint rfl T.g_AHEAD)) (de_bin opr_add o_add (de_var (i := 2) rfl (.inl rfl)) de_int)) ip_add o_ip)))
  (db_one (ds_ret (de_call (ok_digits T) (hr.mono (by decide)) tk rfl (da_cons (de_bin op_mod o_mod (de_var (i := 1) rfl (.inl rfl)) (de_gint rfl T.g_CHECK)) (da_cons de_int da_nil)))))))))
def N_are_keys : List Str := ["things", "thing", "at"]
theorem sc_are_keys : FnScope N_are_keys ["things"] (defScope s_are_keys) := ⟨rfl, rfl, rfl, by decide +kernel, rfl, by decide +kernel, by decide +kernel⟩
def c1_are_keys : DE :=
  (dCall 1 f_is_key (dCons (dVar 1) dNil))
def c2_are_keys : DE :=
  (dBin fLtX (dBin fIx (dVar 0) (dVar 2)) (dBin fIx (dVar 0) (dBin fAdd (dVar 2) (dC (.int 1)))))
def b_are_keys : DS :=
  (dSeq (dIf (dOr (dTest (dBin fGtX (dCB fLen (dCons (dVar 0) dNil)) (dC (.int 63)))) (dNot (dTest (dCB fAll (dCons (dComp (dItL (dVar 0)) (gSlot 1) dYes c1_are_keys [1]) dNil)))))
   (dRet (dC (.bl false)))
   dNext)
  (dRet (dCB fAll (dCons (dComp (dItR1 (dBin fSub (dCB fLen (dCons (dVar 0) dNil)) (dC (.int 1)))) (gSlot 2) dYes c2_are_keys [2]) dNil))))
def f_are_keys : FN := runB 3 b_are_keys
theorem ok_are_keys (T : Top K mg) : DefOk md P w K mg base 3 "are_keys" 1 f_are_keys := by
  obtain ⟨fd, G⟩ := T.d_are_keys
  refine def_by T.g_are_keys G sc_are_keys rfl (fun _ _ _ _ _ _ us hl => match us, hl with | [_], _ => rfl) (fun cdv A outer s H E hr tk hp =>
  (db_cons (ds_if (dt_w (dw_or (dt_cmp opr_gtX o_gtX (de_callB c_len o_len rfl T.g_len (by decide +kernel) (da_cons (de_var (i := 0) rfl (.inr (.inl rfl))) da_nil)) (de_gint rfl T.g_MOST_ROWS)) (dw_or1 (dt_not (dt_val (de_callB (cr_all rfl) o_all rfl T.g_all (by decide +kernel) (da_cons (de_comp (own := [("thing", 1)]) rfl sc_are_keys.nd (di_list (de_var (i := 0) rfl (.inr (.inl rfl)))) (show BlkOk N_are_keys (defScope s_are_keys) _ _ from blk_of (by decide +kernel)) (fun _ _ _ _ _ => (dc_name sc_are_keys.nd rfl (.inl rfl) (by simp))) (fun _ _ _ _ _ => dp_nil) (fun _ _ _ _ _ => (de_call (ok_is_key T) (hr.mono (by decide)) (takes_f (m := .a)) rfl (da_cons (de_var (i := 1) rfl (.inl rfl)) da_nil)))) da_nil)))))))
   (db_one (ds_ret de_bl))
   db_nil)
  (db_one (ds_ret (de_callB (cr_all rfl) o_all rfl T.g_all (by decide +kernel) (da_cons (de_comp (own := [("at", 2)]) rfl sc_are_keys.nd (di_range1 rfl T.g_range (de_bin op_sub o_sub (de_callB c_len o_len rfl T.g_len (by decide +kernel) (da_cons (de_var (i := 0) rfl (.inr (.inl rfl))) da_nil)) de_int)) (show BlkOk N_are_keys (defScope s_are_keys) _ _ from blk_of (by decide +kernel)) (fun _ _ _ _ _ => (dc_name sc_are_keys.nd rfl (.inl rfl) (by simp))) (fun _ _ _ _ _ => dp_nil) (fun _ _ _ _ _ => (de_cmp opr_ltX o_ltX (de_ix (de_var (i := 0) rfl (.inr (.inl rfl))) (de_var (i := 2) rfl (.inl rfl))) (de_ix (de_var (i := 0) rfl (.inr (.inl rfl))) (de_bin opr_add o_add (de_var (i := 2) rfl (.inl rfl)) de_int))))) da_nil))))))
def N_is_cell : List Str := ["thing"]
theorem sc_is_cell : FnScope N_is_cell ["thing"] (defScope s_is_cell) := ⟨rfl, rfl, rfl, by decide +kernel, rfl, by decide +kernel, by decide +kernel⟩
def b_is_cell : DS :=
  (dSeq (dIf (dOr (dNot (dTest (dIsB (fun t => t == "tuple") (dVar 0)))) (dOr (dTest (dBin fLtX (dCB fLen (dCons (dVar 0) dNil)) (dC (.int 2)))) (dNot (dTest (dIsB (fun t => t == "str") (dBin fIx (dVar 0) (dC (.int 0))))))))
   (dRet (dC (.bl false)))
   dNext)
  (dSeq (dIf (dTest (dBin fEq (dBin fIx (dVar 0) (dC (.int 0))) (dC (.str "in"))))
   (dRet (dAndV (dBin fEq (dCB fLen (dCons (dVar 0) dNil)) (dC (.int 2))) (dAndV (dCall 1 f_is_text (dCons (dBin fIx (dVar 0) (dC (.int 1))) dNil)) (dBin fLeX (dCB fLen (dCons (dBin fIx (dVar 0) (dC (.int 1))) dNil)) (dC (.int 63))))))
   dNext)
  (dSeq (dIf (dOr (dTest (dBin fNe (dBin fIx (dVar 0) (dC (.int 0))) (dC (.str "out")))) (dTest (dBin fNe (dCB fLen (dCons (dVar 0) dNil)) (dC (.int 3)))))
   (dRet (dC (.bl false)))
   dNext)
  (dRet (dAndV (dCall 1 f_is_whole (dCons (dBin fIx (dVar 0) (dC (.int 1))) dNil)) (dAndV (dChain fLeX fLeX (dC (.int 1)) (dBin fIx (dVar 0) (dC (.int 1))) (dC (.int 400))) (dCall 2 f_is_number (dCons (dBin fIx (dVar 0) (dC (.int 2))) (dCons (dC (.int 1)) dNil)))))))))
def f_is_cell : FN := runB 1 b_is_cell
theorem ok_is_cell (T : Top K mg) : DefOk md P w K mg base 3 "is_cell" 1 f_is_cell := by
  obtain ⟨fd, G⟩ := T.d_is_cell
  refine def_by T.g_is_cell G sc_is_cell rfl (fun _ _ _ _ _ _ us hl => match us, hl with | [_], _ => rfl) (fun cdv A outer s H E hr tk hp =>
  (db_cons (ds_if (dt_w (dw_or (dt_not (dt_val (de_isiB (T := "tuple") (by decide +kernel) rfl T.g_isinstance rfl T.g_tuple (by decide +kernel) (de_var (i := 0) rfl (.inl rfl))))) (dw_or (dt_cmp opr_ltX o_ltX (de_callB c_len o_len rfl T.g_len (by decide +kernel) (da_cons (de_var (i := 0) rfl (.inl rfl)) da_nil)) de_int) (dw_or1 (dt_not (dt_val (de_isiB (T := "str") (by decide +kernel) rfl T.g_isinstance rfl T.g_str (by decide +kernel) (de_ix (de_var (i := 0) rfl (.inl rfl)) de_int))))))))
   (db_one (ds_ret de_bl))
   db_nil)
  (db_cons (ds_if (dt_cmp (op_eqD hr.units) o_eq (de_ix (de_var (i := 0) rfl (.inl rfl)) de_int) de_str)
   (db_one (ds_ret (de_and (de_cmp (op_eqD hr.units) o_eq (de_callB c_len o_len rfl T.g_len (by decide +kernel) (da_cons (de_var (i := 0) rfl (.inl rfl)) da_nil)) de_int) (de_and (de_call (ok_is_text T) (hr.mono (by decide)) tk rfl (da_cons (de_ix (de_var (i := 0) rfl (.inl rfl)) de_int) da_nil)) (de_one (de_cmp opr_leX o_leX (de_callB c_len o_len rfl T.g_len (by decide +kernel) (da_cons (de_ix (de_var (i := 0) rfl (.inl rfl)) de_int) da_nil)) (de_gint rfl T.g_MOST_ROWS)))))))
   db_nil)
  (db_cons (ds_if (dt_w (dw_or (dt_cmp (op_neD hr.units) o_ne (de_ix (de_var (i := 0) rfl (.inl rfl)) de_int) de_str) (dw_or1 (dt_cmp (op_neD hr.units) o_ne (de_callB c_len o_len rfl T.g_len (by decide +kernel) (da_cons (de_var (i := 0) rfl (.inl rfl)) da_nil)) de_int))))
   (db_one (ds_ret de_bl))
   db_nil)
  (db_one (ds_ret (de_and (de_call (ok_is_whole T) (hr.mono (by decide)) tk rfl (da_cons (de_ix (de_var (i := 0) rfl (.inl rfl)) de_int) da_nil)) (de_and (de_chain opr_leX o_leX opr_leX o_leX de_int (de_ix (de_var (i := 0) rfl (.inl rfl)) de_int) (de_gint rfl T.g_MOST_VALUE)) (de_one (de_call (ok_is_number T) (hr.mono (by decide)) tk rfl (da_cons (de_ix (de_var (i := 0) rfl (.inl rfl)) de_int) (da_cons de_int da_nil))))))))))))
def N_cell_body : List Str := ["cell"]
theorem sc_cell_body : FnScope N_cell_body ["cell"] (defScope s_cell_body) := ⟨rfl, rfl, rfl, by decide +kernel, rfl, by decide +kernel, by decide +kernel⟩
def b_cell_body : DS :=
  (dSeq (dIf (dTest (dBin fEq (dBin fIx (dVar 0) (dC (.int 0))) (dC (.str "in"))))
   (dRet (dBin fAdd (dBin fAdd (dC (.str "i")) (dCall 2 f_digits (dCons (dCB fLen (dCons (dBin fIx (dVar 0) (dC (.int 1))) dNil)) (dCons (dC (.int 1)) dNil)))) (dBin fIx (dVar 0) (dC (.int 1)))))
   dNext)
  (dRet (dBin fAdd (dBin fAdd (dC (.str "o")) (dCall 2 f_digits (dCons (dBin fIx (dVar 0) (dC (.int 1))) (dCons (dC (.int 2)) dNil)))) (dCall 2 f_digits (dCons (dBin fIx (dVar 0) (dC (.int 2))) (dCons (dC (.int 2)) dNil))))))
def f_cell_body : FN := runB 1 b_cell_body
theorem ok_cell_body (T : Top K mg) : DefOk md P w K mg base 3 "cell_body" 1 f_cell_body := by
  obtain ⟨fd, G⟩ := T.d_cell_body
  refine def_by T.g_cell_body G sc_cell_body rfl (fun _ _ _ _ _ _ us hl => match us, hl with | [_], _ => rfl) (fun cdv A outer s H E hr tk hp =>
  (db_cons (ds_if (dt_cmp (op_eqD hr.units) o_eq (de_ix (de_var (i := 0) rfl (.inl rfl)) de_int) de_str)
   (db_one (ds_ret (de_bin opr_add o_add (de_bin opr_add o_add de_str (de_call (ok_digits T) (hr.mono (by decide)) tk rfl (da_cons (de_callB c_len o_len rfl T.g_len (by decide +kernel) (da_cons (de_ix (de_var (i := 0) rfl (.inl rfl)) de_int) da_nil)) (da_cons de_int da_nil)))) (de_ix (de_var (i := 0) rfl (.inl rfl)) de_int))))
   db_nil)
  (db_one (ds_ret (de_bin opr_add o_add (de_bin opr_add o_add de_str (de_call (ok_digits T) (hr.mono (by decide)) tk rfl (da_cons (de_ix (de_var (i := 0) rfl (.inl rfl)) de_int) (da_cons de_int da_nil)))) (de_call (ok_digits T) (hr.mono (by decide)) tk rfl (da_cons (de_ix (de_var (i := 0) rfl (.inl rfl)) de_int) (da_cons de_int da_nil))))))))
def N_key_body : List Str := ["key"]
theorem sc_key_body : FnScope N_key_body ["key"] (defScope s_key_body) := ⟨rfl, rfl, rfl, by decide +kernel, rfl, by decide +kernel, by decide +kernel⟩
def b_key_body : DS :=
  (dRet (dBin fAdd (dCall 2 f_digits (dCons (dCB fLen (dCons (dVar 0) dNil)) (dCons (dC (.int 1)) dNil))) (dVar 0)))
def f_key_body : FN := runB 1 b_key_body
theorem ok_key_body (T : Top K mg) : DefOk md P w K mg base 3 "key_body" 1 f_key_body := by
  obtain ⟨fd, G⟩ := T.d_key_body
  refine def_by T.g_key_body G sc_key_body rfl (fun _ _ _ _ _ _ us hl => match us, hl with | [_], _ => rfl) (fun cdv A outer s H E hr tk hp =>
  (db_one (ds_ret (de_bin opr_add o_add (de_call (ok_digits T) (hr.mono (by decide)) tk rfl (da_cons (de_callB c_len o_len rfl T.g_len (by decide +kernel) (da_cons (de_var (i := 0) rfl (.inl rfl)) da_nil)) (da_cons de_int da_nil))) (de_var (i := 0) rfl (.inl rfl))))))
def N_Head_body : List Str := ["self", "number"]
theorem sc_Head_body : FnScope N_Head_body ["self"] (defScope s_Head_body) := ⟨rfl, rfl, rfl, by decide +kernel, rfl, by decide +kernel, by decide +kernel⟩
def c1_Head_body : DE :=
  (dCall 2 f_digits (dCons (dVar 1) (dCons (dC (.int 2)) dNil)))
def b_Head_body : DS :=
  (dRet (dM1 mJoin (dC (.str "")) (dComp (dItT (dTup (dCons (dUn (fAttr (okF itab "top") "top") (dVar 0)) (dCons (dUn (fAttr (okF itab "depth") "depth") (dVar 0)) (dCons (dUn (fAttr (okF itab "amount") "amount") (dVar 0)) (dCons (dUn (fAttr (okF itab "free") "free") (dVar 0)) dNil)))))) (gSlot 1) dYes c1_Head_body [1])))
def f_Head_body : FN := runB 2 b_Head_body
theorem ok_Head_body (T : Top K mg) : MethOk md P w K mg base 3 "Head" "body" 1 f_Head_body := by
  obtain ⟨fd, G⟩ := T.d_Head_body
  refine meth_by T.cl_Head T.m_Head_body G sc_Head_body rfl (fun _ _ _ _ _ _ us hl => match us, hl with | [_], _ => rfl) (fun cdv A outer s H E hr tk hp =>
  (db_one (ds_ret (de_join de_str (de_comp (own := [("number", 1)]) rfl sc_Head_body.nd (di_tup (de_tup (da_cons (de_attr (fun _ h => T.i.fld h) (de_var (i := 0) rfl (.inl rfl))) (da_cons (de_attr (fun _ h => T.i.fld h) (de_var (i := 0) rfl (.inl rfl))) (da_cons (de_attr (fun _ h => T.i.fld h) (de_var (i := 0) rfl (.inl rfl))) (da_cons (de_attr (fun _ h => T.i.fld h) (de_var (i := 0) rfl (.inl rfl))) da_nil)))))) (show BlkOk N_Head_body (defScope s_Head_body) _ _ from blk_of (by decide +kernel)) (fun _ _ _ _ _ => (dc_name sc_Head_body.nd rfl (.inl rfl) (by simp))) (fun _ _ _ _ _ => dp_nil) (fun _ _ _ _ _ => (de_call (ok_digits T) (hr.mono (by decide)) (takes_f (m := .a)) rfl (da_cons (de_var (i := 1) rfl (.inl rfl)) (da_cons de_int da_nil)))))))))
def N_Rest_body : List Str := ["self"]
theorem sc_Rest_body : FnScope N_Rest_body ["self"] (defScope s_Rest_body) := ⟨rfl, rfl, rfl, by decide +kernel, rfl, by decide +kernel, by decide +kernel⟩
def b_Rest_body : DS :=
  (dRet (dBin fAdd (dCall 2 f_digits (dCons (dUn (fAttr (okF itab "behind") "behind") (dVar 0)) (dCons (dC (.int 2)) dNil))) (dUn (fAttr (okF itab "text") "text") (dVar 0))))
def f_Rest_body : FN := runB 1 b_Rest_body
theorem ok_Rest_body (T : Top K mg) : MethOk md P w K mg base 3 "Rest" "body" 1 f_Rest_body := by
  obtain ⟨fd, G⟩ := T.d_Rest_body
  refine meth_by T.cl_Rest T.m_Rest_body G sc_Rest_body rfl (fun _ _ _ _ _ _ us hl => match us, hl with | [_], _ => rfl) (fun cdv A outer s H E hr tk hp =>
  (db_one (ds_ret (de_bin opr_add o_add (de_call (ok_digits T) (hr.mono (by decide)) tk rfl (da_cons (de_attr (fun _ h => T.i.fld h) (de_var (i := 0) rfl (.inl rfl))) (da_cons de_int da_nil))) (de_attr (fun _ h => T.i.fld h) (de_var (i := 0) rfl (.inl rfl)))))))
def N_Free_body : List Str := ["self"]
theorem sc_Free_body : FnScope N_Free_body ["self"] (defScope s_Free_body) := ⟨rfl, rfl, rfl, by decide +kernel, rfl, by decide +kernel, by decide +kernel⟩
def b_Free_body : DS :=
  (dRet (dCall 2 f_digits (dCons (dUn (fAttr (okF itab "behind") "behind") (dVar 0)) (dCons (dC (.int 2)) dNil))))
def f_Free_body : FN := runB 1 b_Free_body
theorem ok_Free_body (T : Top K mg) : MethOk md P w K mg base 3 "Free" "body" 1 f_Free_body := by
  obtain ⟨fd, G⟩ := T.d_Free_body
  refine meth_by T.cl_Free T.m_Free_body G sc_Free_body rfl (fun _ _ _ _ _ _ us hl => match us, hl with | [_], _ => rfl) (fun cdv A outer s H E hr tk hp =>
  (db_one (ds_ret (de_call (ok_digits T) (hr.mono (by decide)) tk rfl (da_cons (de_attr (fun _ h => T.i.fld h) (de_var (i := 0) rfl (.inl rfl))) (da_cons de_int da_nil))))))
def N_need_size : List Str := ["size"]
theorem sc_need_size : FnScope N_need_size ["size"] (defScope s_need_size) := ⟨rfl, rfl, rfl, by decide +kernel, rfl, by decide +kernel, by decide +kernel⟩
def b_need_size : DS :=
  (dIf (dNot (dTest (dCall 1 f_is_size (dCons (dVar 0) dNil))))
   (dRaise "BadSize")
   dNext)
def f_need_size : FN := runB 1 b_need_size
theorem ok_need_size (T : Top K mg) : DefOk md P w K mg base 3 "need_size" 1 f_need_size := by
  obtain ⟨fd, G⟩ := T.d_need_size
  refine def_by T.g_need_size G sc_need_size rfl (fun _ _ _ _ _ _ us hl => match us, hl with | [_], _ => rfl) (fun cdv A outer s H E hr tk hp =>
  (db_one (ds_if (dt_not (dt_val (de_call (ok_is_size T) (hr.mono (by decide)) tk rfl (da_cons (de_var (i := 0) rfl (.inl rfl)) da_nil))))
   (db_one (ds_raise T.e_BadSize rfl tk rfl))
   db_nil)))
def N__law_rising : List Str := ["_law_state", "_law_many", "_law_base", "_law_found", "_law_turn", "_law_number_here", "_law_size", "_law_at", "_law_signs_here", "_law_sign"]
theorem sc__law_rising : FnScope N__law_rising ["_law_state", "_law_many"] (defScope s__law_rising) := ⟨rfl, rfl, rfl, by decide +kernel, rfl, by decide +kernel, by decide +kernel⟩
def l1__law_rising : DS :=
  (dSeq (dAsg (dCall 1 f__law_next (dCons (dVar 0) dNil)) (gSlot 5))
   (dSeq (dAsg (dBin fIx (dLst (dCons (dC (.int 1)) (dCons (dC (.int 12)) (dCons (dBin fAdd (dC (.int 1)) (dBin fMod (dBin fFdiv (dVar 5) (dC (.int 5))) (dC (.int 12)))) (dCons (dC (.int 3)) (dCons (dBin fAdd (dC (.int 2)) (dBin fMod (dBin fFdiv (dVar 5) (dC (.int 5))) (dC (.int 3)))) dNil)))))) (dBin fMod (dVar 5) (dC (.int 5)))) (gSlot 6))
   (dSeq (dAsg (dBin fMod (dBin fFdiv (dVar 5) (dC (.int 60))) (dVar 6)) (gSlot 7))
   (dSeq (dAsg (dCall 0 f__law_signs dNil) (gSlot 8))
   (dSeq (dAsg (dBin fIx (dVar 8) (dBin fMod (dBin fFdiv (dVar 5) (dC (.int 720))) (dCB fLen (dCons (dVar 8) dNil)))) (gSlot 9))
   (dDPut (dVar 3) (dBin fAdd (dBin fAdd (dSl (dVar 2) dNoPart (dPart (dVar 7))) (dVar 9)) (dSl (dVar 2) (dPart (dBin fAdd (dVar 7) (dC (.int 1)))) (dPart (dVar 6)))) (dC (.bl true))))))))
def b__law_rising : DS :=
  (dSeq (dAsg (dCall 2 f__law_text (dCons (dCall 1 f__law_next (dCons (dVar 0) dNil)) (dCons (dC (.int 12)) dNil))) (gSlot 2))
  (dSeq (dAsg dNewDic (gSlot 3))
  (dSeq (dFor (dItR1 (dVar 1)) (gSlot 4)
   l1__law_rising)
  (dRet (dCB (fSorted true) (dCons (dVar 3) dNil))))))
def f__law_rising : FN := runB 10 b__law_rising
theorem ok__law_rising (T : Top K mg) : DefOk md P w K mg base 3 "_law_rising" 2 f__law_rising := by
  obtain ⟨fd, G⟩ := T.d__law_rising
  refine def_by T.g__law_rising G sc__law_rising rfl (fun _ _ _ _ _ _ us hl => match us, hl with | [_, _], _ => rfl) (fun cdv A outer s H E hr tk hp =>
  (db_cons (ds_set sc__law_rising.nd (i := 2) rfl (.inl rfl) (de_call (ok__law_text T) (hr.mono (by decide)) tk rfl (da_cons (de_call (ok__law_next T) (hr.mono (by decide)) tk rfl (da_cons (de_var (i := 0) rfl (.inl rfl)) da_nil)) (da_cons de_int da_nil))))
  (db_cons (ds_set sc__law_rising.nd (i := 3) rfl (.inl rfl) de_dnewA)
  (db_cons (ds_for hp rfl (di_range1 rfl T.g_range (de_var (i := 1) rfl (.inl rfl))) (dg_name sc__law_rising.nd (i := 4) rfl (.inl rfl))
   (db_cons (ds_set sc__law_rising.nd (i := 5) rfl (.inl rfl) (de_call (ok__law_next T) (hr.mono (by decide)) tk rfl (da_cons (de_var (i := 0) rfl (.inl rfl)) da_nil)))
   (db_cons (ds_set sc__law_rising.nd (i := 6) rfl (.inl rfl) (de_ix (de_lst (da_cons de_int (da_cons de_int (da_cons (de_bin opr_add o_add de_int (de_bin op_mod o_mod (de_bin op_fdiv o_fdiv (de_var (i := 5) rfl (.inl rfl)) de_int) de_int)) (da_cons de_int (da_cons (de_bin opr_add o_add de_int (de_bin op_mod o_mod (de_bin op_fdiv o_fdiv (de_var (i := 5) rfl (.inl rfl)) de_int) de_int)) da_nil)))))) (de_bin op_mod o_mod (de_var (i := 5) rfl (.inl rfl)) de_int)))
   (db_cons (ds_set sc__law_rising.nd (i := 7) rfl (.inl rfl) (de_bin op_mod o_mod (de_bin op_fdiv o_fdiv (de_var (i := 5) rfl (.inl rfl)) de_int) (de_var (i := 6) rfl (.inl rfl))))
   (db_cons (ds_set sc__law_rising.nd (i := 8) rfl (.inl rfl) (de_call0 (ok__law_signs T) (hr.mono (by decide)) tk rfl))
   (db_cons (ds_set sc__law_rising.nd (i := 9) rfl (.inl rfl) (de_ix (de_var (i := 8) rfl (.inl rfl)) (de_bin op_mod o_mod (de_bin op_fdiv o_fdiv (de_var (i := 5) rfl (.inl rfl)) de_int) (de_callB c_len o_len rfl T.g_len (by decide +kernel) (da_cons (de_var (i := 8) rfl (.inl rfl)) da_nil)))))
   (db_one (ds_dput (room1 hr) (de_var (i := 3) rfl (.inl rfl)) (de_bin opr_add o_add (de_bin opr_add o_add (de_sl (de_var (i := 2) rfl (.inl rfl)) do_none (do_some (de_var (i := 7) rfl (.inl rfl)))) (de_var (i := 9) rfl (.inl rfl))) (de_sl (de_var (i := 2) rfl (.inl rfl)) (do_some (de_bin opr_add o_add (de_var (i := 7) rfl (.inl rfl)) de_int)) (do_some (de_var (i := 6) rfl (.inl rfl))))) de_bl))))))))
  (db_one (ds_ret (de_callB (c_sorted rfl) o_sorted rfl T.g_sorted (by decide +kernel) (da_cons (de_var (i := 3) rfl (.inl rfl)) da_nil))))))))
def N__law_cell : List Str := ["_law_state", "_law_size", "_law_number_here"]
theorem sc__law_cell : FnScope N__law_cell ["_law_state", "_law_size"] (defScope s__law_cell) := ⟨rfl, rfl, rfl, by decide +kernel, rfl, by decide +kernel, by decide +kernel⟩
def b__law_cell : DS :=
  (dSeq (dAsg (dCall 1 f__law_next (dCons (dVar 0) dNil)) (gSlot 2))
  (dSeq (dIf (dTest (dBin fEq (dBin fMod (dVar 2) (dC (.int 3))) (dC (.int 0))))
   (dRet (dTup (dCons (dC (.str "out")) (dCons (dBin fAdd (dC (.int 1)) (dBin fMod (dBin fFdiv (dVar 2) (dC (.int 3))) (dC (.int 400)))) (dCons (dBin fAdd (dC (.int 1)) (dBin fMod (dBin fFdiv (dVar 2) (dC (.int 1200))) (dC (.int 4095)))) dNil)))))
   dNext)
  (dRet (dTup (dCons (dC (.str "in")) (dCons (dCall 2 f__law_text (dCons (dVar 2) (dCons (dBin fIx (dLst (dCons (dC (.int 0)) (dCons (dC (.int 1)) (dCons (dBin fFdiv (dVar 1) (dC (.int 8))) (dCons (dBin fMod (dBin fFdiv (dVar 2) (dC (.int 30))) (dBin fAdd (dBin fFdiv (dVar 1) (dC (.int 8))) (dC (.int 1)))) dNil))))) (dBin fMod (dBin fFdiv (dVar 2) (dC (.int 3))) (dC (.int 4)))) dNil))) dNil))))))
def f__law_cell : FN := runB 3 b__law_cell
theorem ok__law_cell (T : Top K mg) : DefOk md P w K mg base 3 "_law_cell" 2 f__law_cell := by
  obtain ⟨fd, G⟩ := T.d__law_cell
  refine def_by T.g__law_cell G sc__law_cell rfl (fun _ _ _ _ _ _ us hl => match us, hl with | [_, _], _ => rfl) (fun cdv A outer s H E hr tk hp =>
  (db_cons (ds_set sc__law_cell.nd (i := 2) rfl (.inl rfl) (de_call (ok__law_next T) (hr.mono (by decide)) tk rfl (da_cons (de_var (i := 0) rfl (.inl rfl)) da_nil)))
  (db_cons (ds_if (dt_cmp (op_eqD hr.units) o_eq (de_bin op_mod o_mod (de_var (i := 2) rfl (.inl rfl)) de_int) de_int)
   (db_one (ds_ret (de_tup (da_cons de_str (da_cons (de_bin opr_add o_add de_int (de_bin op_mod o_mod (de_bin op_fdiv o_fdiv (de_var (i := 2) rfl (.inl rfl)) de_int) de_int)) (da_cons (de_bin opr_add o_add de_int (de_bin op_mod o_mod (de_bin op_fdiv o_fdiv (de_var (i := 2) rfl (.inl rfl)) de_int) de_int)) da_nil))))))
   db_nil)
  (db_one (ds_ret (de_tup (da_cons de_str (da_cons (de_call (ok__law_text T) (hr.mono (by decide)) tk rfl (da_cons (de_var (i := 2) rfl (.inl rfl)) (da_cons (de_ix (de_lst (da_cons de_int (da_cons de_int (da_cons (de_bin op_fdiv o_fdiv (de_var (i := 1) rfl (.inl rfl)) de_int) (da_cons (de_bin op_mod o_mod (de_bin op_fdiv o_fdiv (de_var (i := 2) rfl (.inl rfl)) de_int) (de_bin opr_add o_add (de_bin op_fdiv o_fdiv (de_var (i := 1) rfl (.inl rfl)) de_int) de_int)) da_nil))))) (de_bin op_mod o_mod (de_bin op_fdiv o_fdiv (de_var (i := 2) rfl (.inl rfl)) de_int) de_int)) da_nil))) da_nil))))))))
def N__law_rise : List Str := ["_law_keys", "_law_key", "_law_k"]
theorem sc__law_rise : FnScope N__law_rise ["_law_keys"] (defScope s__law_rise) := ⟨rfl, rfl, rfl, by decide +kernel, rfl, by decide +kernel, by decide +kernel⟩
def c1__law_rise : DE :=
  (dCall 3 f__law_good_text (dCons (dVar 1) (dCons (dC (.int 1)) (dCons (dC (.int 12)) dNil))))
def c2__law_rise : DE :=
  (dBin fLtX (dBin fIx (dVar 0) (dVar 2)) (dBin fIx (dVar 0) (dBin fAdd (dVar 2) (dC (.int 1)))))
def b__law_rise : DS :=
  (dSeq (dIf (dOr (dTest (dBin fGtX (dCB fLen (dCons (dVar 0) dNil)) (dC (.int 63)))) (dNot (dTest (dCB fAll (dCons (dComp (dItU (dVar 0)) (gSlot 1) dYes c1__law_rise [1]) dNil)))))
   (dRet (dC (.bl false)))
   dNext)
  (dRet (dCB fAll (dCons (dComp (dItR1 (dBin fSub (dCB fLen (dCons (dVar 0) dNil)) (dC (.int 1)))) (gSlot 2) dYes c2__law_rise [2]) dNil))))
def f__law_rise : FN := runB 3 b__law_rise
theorem ok__law_rise (T : Top K mg) : DefOk md P w K mg base 3 "_law_rise" 1 f__law_rise := by
  obtain ⟨fd, G⟩ := T.d__law_rise
  refine def_by T.g__law_rise G sc__law_rise rfl (fun _ _ _ _ _ _ us hl => match us, hl with | [_], _ => rfl) (fun cdv A outer s H E hr tk hp =>
  (db_cons (ds_if (dt_w (dw_or (dt_cmp opr_gtX o_gtX (de_callB c_len o_len rfl T.g_len (by decide +kernel) (da_cons (de_var (i := 0) rfl (.inr (.inl rfl))) da_nil)) de_int) (dw_or1 (dt_not (dt_val (de_callB (cr_all rfl) o_all rfl T.g_all (by decide +kernel) (da_cons (de_comp (own := [("_law_key", 1)]) rfl sc__law_rise.nd (di_tl (de_var (i := 0) rfl (.inr (.inl rfl)))) (show BlkOk N__law_rise (defScope s__law_rise) _ _ from blk_of (by decide +kernel)) (fun _ _ _ _ _ => (dc_name sc__law_rise.nd rfl (.inl rfl) (by simp))) (fun _ _ _ _ _ => dp_nil) (fun _ _ _ _ _ => (de_call (ok__law_good_text T) (hr.mono (by decide)) (takes_f (m := .a)) rfl (da_cons (de_var (i := 1) rfl (.inl rfl)) (da_cons de_int (da_cons de_int da_nil)))))) da_nil)))))))
   (db_one (ds_ret de_bl))
   db_nil)
  (db_one (ds_ret (de_callB (cr_all rfl) o_all rfl T.g_all (by decide +kernel) (da_cons (de_comp (own := [("_law_k", 2)]) rfl sc__law_rise.nd (di_range1 rfl T.g_range (de_bin op_sub o_sub (de_callB c_len o_len rfl T.g_len (by decide +kernel) (da_cons (de_var (i := 0) rfl (.inr (.inl rfl))) da_nil)) de_int)) (show BlkOk N__law_rise (defScope s__law_rise) _ _ from blk_of (by decide +kernel)) (fun _ _ _ _ _ => (dc_name sc__law_rise.nd rfl (.inl rfl) (by simp))) (fun _ _ _ _ _ => dp_nil) (fun _ _ _ _ _ => (de_cmp opr_ltX o_ltX (de_ix (de_var (i := 0) rfl (.inr (.inl rfl))) (de_var (i := 2) rfl (.inl rfl))) (de_ix (de_var (i := 0) rfl (.inr (.inl rfl))) (de_bin opr_add o_add (de_var (i := 2) rfl (.inl rfl)) de_int))))) da_nil))))))
def N__law_is_cell : List Str := ["_law_thing"]
theorem sc__law_is_cell : FnScope N__law_is_cell ["_law_thing"] (defScope s__law_is_cell) := ⟨rfl, rfl, rfl, by decide +kernel, rfl, by decide +kernel, by decide +kernel⟩
def b__law_is_cell : DS :=
  (dSeq (dIf (dOr (dNot (dTest (dIsB (fun t => t == "tuple") (dVar 0)))) (dOr (dTest (dBin fLtX (dCB fLen (dCons (dVar 0) dNil)) (dC (.int 2)))) (dNot (dTest (dIsB (fun t => t == "str") (dBin fIx (dVar 0) (dC (.int 0))))))))
   (dRet (dC (.bl false)))
   dNext)
  (dSeq (dIf (dTest (dBin fEq (dBin fIx (dVar 0) (dC (.int 0))) (dC (.str "in"))))
   (dRet (dAndV (dBin fEq (dCB fLen (dCons (dVar 0) dNil)) (dC (.int 2))) (dCall 3 f__law_good_text (dCons (dBin fIx (dVar 0) (dC (.int 1))) (dCons (dC (.int 0)) (dCons (dC (.int 63)) dNil))))))
   dNext)
  (dSeq (dIf (dOr (dTest (dBin fNe (dBin fIx (dVar 0) (dC (.int 0))) (dC (.str "out")))) (dTest (dBin fNe (dCB fLen (dCons (dVar 0) dNil)) (dC (.int 3)))))
   (dRet (dC (.bl false)))
   dNext)
  (dRet (dAndV (dCall 3 f__law_number (dCons (dBin fIx (dVar 0) (dC (.int 1))) (dCons (dC (.int 1)) (dCons (dC (.int 400)) dNil)))) (dCall 3 f__law_number (dCons (dBin fIx (dVar 0) (dC (.int 2))) (dCons (dC (.int 1)) (dCons (dC (.int 4095)) dNil)))))))))
def f__law_is_cell : FN := runB 1 b__law_is_cell
theorem ok__law_is_cell (T : Top K mg) : DefOk md P w K mg base 3 "_law_is_cell" 1 f__law_is_cell := by
  obtain ⟨fd, G⟩ := T.d__law_is_cell
  refine def_by T.g__law_is_cell G sc__law_is_cell rfl (fun _ _ _ _ _ _ us hl => match us, hl with | [_], _ => rfl) (fun cdv A outer s H E hr tk hp =>
  (db_cons (ds_if (dt_w (dw_or (dt_not (dt_val (de_isiB (T := "tuple") (by decide +kernel) rfl T.g_isinstance rfl T.g_tuple (by decide +kernel) (de_var (i := 0) rfl (.inl rfl))))) (dw_or (dt_cmp opr_ltX o_ltX (de_callB c_len o_len rfl T.g_len (by decide +kernel) (da_cons (de_var (i := 0) rfl (.inl rfl)) da_nil)) de_int) (dw_or1 (dt_not (dt_val (de_isiB (T := "str") (by decide +kernel) rfl T.g_isinstance rfl T.g_str (by decide +kernel) (de_ix (de_var (i := 0) rfl (.inl rfl)) de_int))))))))
   (db_one (ds_ret de_bl))
   db_nil)
  (db_cons (ds_if (dt_cmp (op_eqD hr.units) o_eq (de_ix (de_var (i := 0) rfl (.inl rfl)) de_int) de_str)
   (db_one (ds_ret (de_and (de_cmp (op_eqD hr.units) o_eq (de_callB c_len o_len rfl T.g_len (by decide +kernel) (da_cons (de_var (i := 0) rfl (.inl rfl)) da_nil)) de_int) (de_one (de_call (ok__law_good_text T) (hr.mono (by decide)) tk rfl (da_cons (de_ix (de_var (i := 0) rfl (.inl rfl)) de_int) (da_cons de_int (da_cons de_int da_nil))))))))
   db_nil)
  (db_cons (ds_if (dt_w (dw_or (dt_cmp (op_neD hr.units) o_ne (de_ix (de_var (i := 0) rfl (.inl rfl)) de_int) de_str) (dw_or1 (dt_cmp (op_neD hr.units) o_ne (de_callB c_len o_len rfl T.g_len (by decide +kernel) (da_cons (de_var (i := 0) rfl (.inl rfl)) da_nil)) de_int))))
   (db_one (ds_ret de_bl))
   db_nil)
  (db_one (ds_ret (de_and (de_call (ok__law_number T) (hr.mono (by decide)) tk rfl (da_cons (de_ix (de_var (i := 0) rfl (.inl rfl)) de_int) (da_cons de_int (da_cons de_int da_nil)))) (de_one (de_call (ok__law_number T) (hr.mono (by decide)) tk rfl (da_cons (de_ix (de_var (i := 0) rfl (.inl rfl)) de_int) (da_cons de_int (da_cons de_int da_nil))))))))))))
def N_is_row : List Str := ["thing"]
theorem sc_is_row : FnScope N_is_row ["thing"] (defScope s_is_row) := ⟨rfl, rfl, rfl, by decide +kernel, rfl, by decide +kernel, by decide +kernel⟩
def b_is_row : DS :=
  (dRet (dAndV (dIsB (fun t => t == "tuple") (dVar 0)) (dAndV (dBin fEq (dCB fLen (dCons (dVar 0) dNil)) (dC (.int 2))) (dAndV (dCall 1 f_is_key (dCons (dBin fIx (dVar 0) (dC (.int 0))) dNil)) (dCall 1 f_is_cell (dCons (dBin fIx (dVar 0) (dC (.int 1))) dNil))))))
def f_is_row : FN := runB 1 b_is_row
theorem ok_is_row (T : Top K mg) : DefOk md P w K mg base 4 "is_row" 1 f_is_row := by
  obtain ⟨fd, G⟩ := T.d_is_row
  refine def_by T.g_is_row G sc_is_row rfl (fun _ _ _ _ _ _ us hl => match us, hl with | [_], _ => rfl) (fun cdv A outer s H E hr tk hp =>
  (db_one (ds_ret (de_and (de_isiB (T := "tuple") (by decide +kernel) rfl T.g_isinstance rfl T.g_tuple (by decide +kernel) (de_var (i := 0) rfl (.inl rfl))) (de_and (de_cmp (op_eqD hr.units) o_eq (de_callB c_len o_len rfl T.g_len (by decide +kernel) (da_cons (de_var (i := 0) rfl (.inl rfl)) da_nil)) de_int) (de_and (de_call (ok_is_key T) (hr.mono (by decide)) tk rfl (da_cons (de_ix (de_var (i := 0) rfl (.inl rfl)) de_int) da_nil)) (de_one (de_call (ok_is_cell T) (hr.mono (by decide)) tk rfl (da_cons (de_ix (de_var (i := 0) rfl (.inl rfl)) de_int) da_nil)))))))))
def N_Leaf_body : List Str := ["self", "key", "cell"]
theorem sc_Leaf_body : FnScope N_Leaf_body ["self"] (defScope s_Leaf_body) := ⟨rfl, rfl, rfl, by decide +kernel, rfl, by decide +kernel, by decide +kernel⟩
def c1_Leaf_body : DE :=
  (dBin fAdd (dCall 1 f_key_body (dCons (dVar 1) dNil)) (dCall 1 f_cell_body (dCons (dVar 2) dNil)))
def b_Leaf_body : DS :=
  (dRet (dBin fAdd (dCall 2 f_digits (dCons (dCB fLen (dCons (dUn (fAttr (okF itab "entries") "entries") (dVar 0)) dNil)) (dCons (dC (.int 1)) dNil))) (dM1 mJoin (dC (.str "")) (dComp (dItT (dUn (fAttr (okF itab "entries") "entries") (dVar 0))) (gTupD 2 (gsCons (gSlot 1) (gsCons (gSlot 2) gsNil))) dYes c1_Leaf_body [1, 2]))))
def f_Leaf_body : FN := runB 3 b_Leaf_body
theorem ok_Leaf_body (T : Top K mg) : MethOk md P w K mg base 4 "Leaf" "body" 1 f_Leaf_body := by
  obtain ⟨fd, G⟩ := T.d_Leaf_body
  refine meth_by T.cl_Leaf T.m_Leaf_body G sc_Leaf_body rfl (fun _ _ _ _ _ _ us hl => match us, hl with | [_], _ => rfl) (fun cdv A outer s H E hr tk hp =>
  (db_one (ds_ret (de_bin opr_add o_add (de_call (ok_digits T) (hr.mono (by decide)) tk rfl (da_cons (de_callB c_len o_len rfl T.g_len (by decide +kernel) (da_cons (de_attr (fun _ h => T.i.fld h) (de_var (i := 0) rfl (.inl rfl))) da_nil)) (da_cons de_int da_nil))) (de_join de_str (de_comp (own := [("key", 1), ("cell", 2)]) rfl sc_Leaf_body.nd (di_tup (de_attr (fun _ h => T.i.fld h) (de_var (i := 0) rfl (.inl rfl)))) (show BlkOk N_Leaf_body (defScope s_Leaf_body) _ _ from blk_of (by decide +kernel)) (fun _ _ _ _ _ => (dc_tup rfl (dcs_cons (dc_name sc_Leaf_body.nd rfl (.inl rfl) (by simp)) (dcs_cons (dc_name sc_Leaf_body.nd rfl (.inl rfl) (by simp)) dcs_nil)))) (fun _ _ _ _ _ => dp_nil) (fun _ _ _ _ _ => (de_bin opr_add o_add (de_call (ok_key_body T) (hr.mono (by decide)) (takes_f (m := .a)) rfl (da_cons (de_var (i := 1) rfl (.inl rfl)) da_nil)) (de_call (ok_cell_body T) (hr.mono (by decide)) (takes_f (m := .a)) rfl (da_cons (de_var (i := 2) rfl (.inl rfl)) da_nil))))))))))
def N_Fork_body : List Str := ["self", "found", "key", "kid"]
theorem sc_Fork_body : FnScope N_Fork_body ["self"] (defScope s_Fork_body) := ⟨rfl, rfl, rfl, by decide +kernel, rfl, by decide +kernel, by decide +kernel⟩
def c1_Fork_body : DE :=
  (dCall 1 f_key_body (dCons (dVar 2) dNil))
def c2_Fork_body : DE :=
  (dCall 2 f_digits (dCons (dVar 3) (dCons (dC (.int 2)) dNil)))
def b_Fork_body : DS :=
  (dSeq (dAsg (dBin fAdd (dCall 2 f_digits (dCons (dCB fLen (dCons (dUn (fAttr (okF itab "parting") "parting") (dVar 0)) dNil)) (dCons (dC (.int 1)) dNil))) (dM1 mJoin (dC (.str "")) (dComp (dItT (dUn (fAttr (okF itab "parting") "parting") (dVar 0))) (gSlot 2) dYes c1_Fork_body [2]))) (gSlot 1))
  (dRet (dBin fAdd (dVar 1) (dM1 mJoin (dC (.str "")) (dComp (dItT (dUn (fAttr (okF itab "kids") "kids") (dVar 0))) (gSlot 3) dYes c2_Fork_body [3])))))
def f_Fork_body : FN := runB 4 b_Fork_body
theorem ok_Fork_body (T : Top K mg) : MethOk md P w K mg base 4 "Fork" "body" 1 f_Fork_body := by
  obtain ⟨fd, G⟩ := T.d_Fork_body
  refine meth_by T.cl_Fork T.m_Fork_body G sc_Fork_body rfl (fun _ _ _ _ _ _ us hl => match us, hl with | [_], _ => rfl) (fun cdv A outer s H E hr tk hp =>
  (db_cons (ds_set sc_Fork_body.nd (i := 1) rfl (.inl rfl) (de_bin opr_add o_add (de_call (ok_digits T) (hr.mono (by decide)) tk rfl (da_cons (de_callB c_len o_len rfl T.g_len (by decide +kernel) (da_cons (de_attr (fun _ h => T.i.fld h) (de_var (i := 0) rfl (.inl rfl))) da_nil)) (da_cons de_int da_nil))) (de_join de_str (de_comp (own := [("key", 2)]) rfl sc_Fork_body.nd (di_tup (de_attr (fun _ h => T.i.fld h) (de_var (i := 0) rfl (.inl rfl)))) (show BlkOk N_Fork_body (defScope s_Fork_body) _ _ from blk_of (by decide +kernel)) (fun _ _ _ _ _ => (dc_name sc_Fork_body.nd rfl (.inl rfl) (by simp))) (fun _ _ _ _ _ => dp_nil) (fun _ _ _ _ _ => (de_call (ok_key_body T) (hr.mono (by decide)) (takes_f (m := .a)) rfl (da_cons (de_var (i := 2) rfl (.inl rfl)) da_nil)))))))
  (db_one (ds_ret (de_bin opr_add o_add (de_var (i := 1) rfl (.inl rfl)) (de_join de_str (de_comp (own := [("kid", 3)]) rfl sc_Fork_body.nd (di_tup (de_attr (fun _ h => T.i.fld h) (de_var (i := 0) rfl (.inl rfl)))) (show BlkOk N_Fork_body (defScope s_Fork_body) _ _ from blk_of (by decide +kernel)) (fun _ _ _ _ _ => (dc_name sc_Fork_body.nd rfl (.inl rfl) (by simp))) (fun _ _ _ _ _ => dp_nil) (fun _ _ _ _ _ => (de_call (ok_digits T) (hr.mono (by decide)) (takes_f (m := .a)) rfl (da_cons (de_var (i := 3) rfl (.inl rfl)) (da_cons de_int da_nil)))))))))))
def mt_body : MTab := tabOf [("Head", 1, f_Head_body), ("Leaf", 1, f_Leaf_body), ("Fork", 1, f_Fork_body), ("Rest", 1, f_Rest_body), ("Free", 1, f_Free_body)]
theorem mt_body_ok (T : Top K mg) : ∀ c n F, mt_body c = some (n, F) → MethOk md P w K mg base 4 c "body" n F := by
  refine tab_all (R := fun c n F => MethOk md P w K mg base 4 c "body" n F) fun p hp => ?_
  simp only [List.mem_cons, List.mem_nil_iff, or_false] at hp
  rcases hp with rfl | rfl | rfl | rfl | rfl
  · exact (ok_Head_body T).mono (by decide)
  · exact (ok_Leaf_body T).mono (by decide)
  · exact (ok_Fork_body T).mono (by decide)
  · exact (ok_Rest_body T).mono (by decide)
  · exact (ok_Free_body T).mono (by decide)
def N__law_page : List Str := ["_law_state", "_law_size", "_law_number_here", "_law_kind", "_law_some", "_law_many", "_law_keys", "_law_rows", "_law_turn", "_law_key", "_law_k"]
theorem sc__law_page : FnScope N__law_page ["_law_state", "_law_size"] (defScope s__law_page) := ⟨rfl, rfl, rfl, by decide +kernel, rfl, by decide +kernel, by decide +kernel⟩
def c1__law_page : DE :=
  (dBin fIx (dLst (dCons (dC (.int 4095)) (dCons (dC (.int 0)) (dCons (dC (.int 63)) (dCons (dC (.int 64)) (dCons (dBin fMod (dCall 1 f__law_next (dCons (dVar 0) dNil)) (dC (.int 4096))) dNil)))))) (dBin fMod (dCall 1 f__law_next (dCons (dVar 0) dNil)) (dC (.int 5))))
def c2__law_page : DE :=
  (dTup (dCons (dVar 9) (dCons (dCall 2 f__law_cell (dCons (dVar 0) (dCons (dVar 1) dNil))) dNil)))
def l3__law_page : DS :=
  (dExpr (dPopAt (dVar 7) (dBin fMod (dVar 2) (dCB fLen (dCons (dVar 7) dNil)))))
def t4__law_page : DT :=
  (dTest (dBin fGtX (dCB fLen (dCons (dCall 1 f__law_body (dCons (dTup (dCons (dC (.str "leaf")) (dCons (dCB fTupOf (dCons (dVar 7) dNil)) dNil))) dNil)) dNil)) (dBin fSub (dVar 1) (dC (.int 5)))))
def c5__law_page : DE :=
  (dBin fAdd (dC (.int 1)) (dCB fLen (dCons (dVar 9) dNil)))
def l6__law_page : DS :=
  (dExpr (dPopAt (dVar 6) (dBin fMod (dVar 2) (dCB fLen (dCons (dVar 6) dNil)))))
def t7__law_page : DT :=
  (dTest (dBin fGtX (dBin fAdd (dBin fAdd (dBin fAdd (dC (.int 1)) (dCB fSum (dCons (dComp (dItL (dVar 6)) (gSlot 9) dYes c5__law_page [9]) dNil))) (dBin fMulX (dC (.int 2)) (dCB fLen (dCons (dVar 6) dNil)))) (dC (.int 2))) (dBin fSub (dVar 1) (dC (.int 5)))))
def c8__law_page : DE :=
  (dBin fAdd (dC (.int 1)) (dBin fMod (dCall 1 f__law_next (dCons (dVar 0) dNil)) (dC (.int 4095))))
def b__law_page : DS :=
  (dSeq (dAsg (dCall 1 f__law_next (dCons (dVar 0) dNil)) (gSlot 2))
  (dSeq (dAsg (dBin fMod (dVar 2) (dC (.int 7))) (gSlot 3))
  (dSeq (dIf (dTest (dBin fEq (dVar 3) (dC (.int 0))))
   (dSeq (dAsg (dComp (dItR1 (dC (.int 4))) (gSlot 8) dYes c1__law_page [8]) (gSlot 4))
   (dRet (dBin (fCat false) (dTup (dCons (dC (.str "head")) dNil)) (dCB fTupOf (dCons (dVar 4) dNil)))))
   dNext)
  (dSeq (dIf (dTest (dBin fEq (dVar 3) (dC (.int 1))))
   (dRet (dTup (dCons (dC (.str "free")) (dCons (dBin fIx (dLst (dCons (dC (.int 0)) (dCons (dC (.int 1)) (dCons (dC (.int 4095)) (dCons (dBin fMod (dBin fFdiv (dVar 2) (dC (.int 7))) (dC (.int 4096))) dNil))))) (dBin fMod (dBin fFdiv (dVar 2) (dC (.int 7))) (dC (.int 4)))) dNil))))
   dNext)
  (dSeq (dIf (dTest (dBin fEq (dVar 3) (dC (.int 2))))
   (dSeq (dAsg (dBin fIx (dLst (dCons (dC (.int 1)) (dCons (dBin fSub (dVar 1) (dC (.int 7))) (dCons (dBin fAdd (dC (.int 1)) (dBin fMod (dBin fFdiv (dVar 2) (dC (.int 7))) (dBin fSub (dVar 1) (dC (.int 7))))) dNil)))) (dBin fMod (dBin fFdiv (dVar 2) (dC (.int 7))) (dC (.int 3)))) (gSlot 5))
   (dRet (dTup (dCons (dC (.str "rest")) (dCons (dCall 2 f__law_text (dCons (dVar 2) (dCons (dVar 5) dNil))) (dCons (dBin fIx (dLst (dCons (dC (.int 0)) (dCons (dBin fMod (dBin fFdiv (dVar 2) (dC (.int 21))) (dC (.int 4096))) dNil))) (dBin fMod (dBin fFdiv (dVar 2) (dC (.int 7))) (dC (.int 2)))) dNil))))))
   dNext)
  (dSeq (dAsg (dCall 2 f__law_rising (dCons (dVar 0) (dCons (dBin fMod (dBin fFdiv (dVar 2) (dC (.int 7))) (dC (.int 14))) dNil))) (gSlot 6))
  (dSeq (dIf (dTest (dBin fLtX (dVar 3) (dC (.int 5))))
   (dSeq (dAsg (dCompA (dItL (dVar 6)) (gSlot 9) dYes c2__law_page [9]) (gSlot 7))
   (dSeq (dWhile 300 t4__law_page l3__law_page)
   (dRet (dTup (dCons (dC (.str "leaf")) (dCons (dCB fTupOf (dCons (dVar 7) dNil)) dNil))))))
   dNext)
  (dSeq (dWhile 300 t7__law_page l6__law_page)
  (dRet (dTup (dCons (dC (.str "fork")) (dCons (dCB fTupOf (dCons (dVar 6) dNil)) (dCons (dCB fTupOf (dCons (dComp (dItR1 (dBin fAdd (dCB fLen (dCons (dVar 6) dNil)) (dC (.int 1)))) (gSlot 10) dYes c8__law_page [10]) dNil)) dNil)))))))))))))
def f__law_page : FN := runB 11 b__law_page
theorem ok__law_page (T : Top K mg) : DefOk md P w K mg base 4 "_law_page" 2 f__law_page := by
  obtain ⟨fd, G⟩ := T.d__law_page
  refine def_by T.g__law_page G sc__law_page rfl (fun _ _ _ _ _ _ us hl => match us, hl with | [_, _], _ => rfl) (fun cdv A outer s H E hr tk hp =>
  (db_cons (ds_set sc__law_page.nd (i := 2) rfl (.inl rfl) (de_call (ok__law_next T) (hr.mono (by decide)) tk rfl (da_cons (de_var (i := 0) rfl (.inr (.inl rfl))) da_nil)))
  (db_cons (ds_set sc__law_page.nd (i := 3) rfl (.inl rfl) (de_bin op_mod o_mod (de_var (i := 2) rfl (.inl rfl)) de_int))
  (db_cons (ds_if (dt_cmp (op_eqD hr.units) o_eq (de_var (i := 3) rfl (.inl rfl)) de_int)
   (db_cons (ds_setComp (own := [("_law_turn", 8)]) rfl sc__law_page.nd (i := 4) rfl rfl rfl (di_range1 rfl T.g_range de_int) (show BlkOk N__law_page (defScope s__law_page) _ _ from blk_of (by decide +kernel)) (fun _ _ _ _ _ => (dc_name sc__law_page.nd rfl (.inl rfl) (by simp))) (fun _ _ _ _ _ => dp_nil) (fun _ _ _ _ _ => (de_ix (de_lst (da_cons de_int (da_cons de_int (da_cons de_int (da_cons de_int (da_cons (de_bin op_mod o_mod (de_call (ok__law_next T) (hr.mono (by decide)) (takes_f (m := .a)) rfl (da_cons (de_var (i := 0) rfl (.inr (.inl rfl))) da_nil)) de_int) da_nil)))))) (de_bin op_mod o_mod (de_call (ok__law_next T) (hr.mono (by decide)) (takes_f (m := .a)) rfl (da_cons (de_var (i := 0) rfl (.inr (.inl rfl))) da_nil)) de_int))))
   (db_one (ds_ret (de_bin opr_cat o_cat (de_tup (da_cons de_str da_nil)) (de_callTy call_tuple_of o_tupOf rfl T.g_tuple (by decide +kernel) (da_cons (de_var (i := 4) rfl (.inl rfl)) da_nil))))))
   db_nil)
  (db_cons (ds_if (dt_cmp (op_eqD hr.units) o_eq (de_var (i := 3) rfl (.inl rfl)) de_int)
   (db_one (ds_ret (de_tup (da_cons de_str (da_cons (de_ix (de_lst (da_cons de_int (da_cons de_int (da_cons de_int (da_cons (de_bin op_mod o_mod (de_bin op_fdiv o_fdiv (de_var (i := 2) rfl (.inl rfl)) de_int) de_int) da_nil))))) (de_bin op_mod o_mod (de_bin op_fdiv o_fdiv (de_var (i := 2) rfl (.inl rfl)) de_int) de_int)) da_nil)))))
   db_nil)
  (db_cons (ds_if (dt_cmp (op_eqD hr.units) o_eq (de_var (i := 3) rfl (.inl rfl)) de_int)
   (db_cons (ds_set sc__law_page.nd (i := 5) rfl (.inl rfl) (de_ix (de_lst (da_cons de_int (da_cons (de_bin op_sub o_sub (de_var (i := 1) rfl (.inr (.inl rfl))) de_int) (da_cons (de_bin opr_add o_add de_int (de_bin op_mod o_mod (de_bin op_fdiv o_fdiv (de_var (i := 2) rfl (.inl rfl)) de_int) (de_bin op_sub o_sub (de_var (i := 1) rfl (.inr (.inl rfl))) de_int))) da_nil)))) (de_bin op_mod o_mod (de_bin op_fdiv o_fdiv (de_var (i := 2) rfl (.inl rfl)) de_int) de_int)))
   (db_one (ds_ret (de_tup (da_cons de_str (da_cons (de_call (ok__law_text T) (hr.mono (by decide)) tk rfl (da_cons (de_var (i := 2) rfl (.inl rfl)) (da_cons (de_var (i := 5) rfl (.inl rfl)) da_nil))) (da_cons (de_ix (de_lst (da_cons de_int (da_cons (de_bin op_mod o_mod (de_bin op_fdiv o_fdiv (de_var (i := 2) rfl (.inl rfl)) de_int) de_int) da_nil))) (de_bin op_mod o_mod (de_bin op_fdiv o_fdiv (de_var (i := 2) rfl (.inl rfl)) de_int) de_int)) da_nil)))))))
   db_nil)
  (db_cons (ds_set sc__law_page.nd (i := 6) rfl (.inl rfl) (de_call (ok__law_rising T) (hr.mono (by decide)) tk rfl (da_cons (de_var (i := 0) rfl (.inr (.inl rfl))) (da_cons (de_bin op_mod o_mod (de_bin op_fdiv o_fdiv (de_var (i := 2) rfl (.inl rfl)) de_int) de_int) da_nil))))
  (db_cons (ds_if (dt_cmp opr_ltX o_ltX (de_var (i := 3) rfl (.inl rfl)) de_int)
   (db_cons (ds_setCompA (own := [("_law_key", 9)]) rfl sc__law_page.nd (i := 7) rfl rfl rfl (di_list (de_var (i := 6) rfl (.inl rfl))) (show BlkOk N__law_page (defScope s__law_page) _ _ from blk_of (by decide +kernel)) (fun _ _ _ _ _ => (dc_name sc__law_page.nd rfl (.inl rfl) (by simp))) (fun _ _ _ _ _ => dp_nil) (fun _ _ _ _ _ => (de_tup (da_cons (de_var (i := 9) rfl (.inl rfl)) (da_cons (de_call (ok__law_cell T) (hr.mono (by decide)) (takes_f (m := .a)) rfl (da_cons (de_var (i := 0) rfl (.inr (.inl rfl))) (da_cons (de_var (i := 1) rfl (.inr (.inl rfl))) da_nil))) da_nil)))))
   (db_cons (ds_while 300 hp (dt_cmp opr_gtX o_gtX (de_callB c_len o_len rfl T.g_len (by decide +kernel) (da_cons (de_call (ok__law_body T) (hr.mono (by decide)) tk rfl (da_cons (de_tup (da_cons de_str (da_cons (de_callTy call_tuple_of o_tupOf rfl T.g_tuple (by decide +kernel) (da_cons (de_var (i := 7) rfl (.inl rfl)) da_nil)) da_nil))) da_nil)) da_nil)) (de_bin op_sub o_sub (de_var (i := 1) rfl (.inr (.inl rfl))) de_int))
    (db_one (ds_expr (de_popAt (de_var (i := 7) rfl (.inl rfl)) (de_bin op_mod o_mod (de_var (i := 2) rfl (.inl rfl)) (de_callB c_len o_len rfl T.g_len (by decide +kernel) (da_cons (de_var (i := 7) rfl (.inl rfl)) da_nil)))))))
   (db_one (ds_ret (de_tup (da_cons de_str (da_cons (de_callTy call_tuple_of o_tupOf rfl T.g_tuple (by decide +kernel) (da_cons (de_var (i := 7) rfl (.inl rfl)) da_nil)) da_nil)))))))
   db_nil)
  (db_cons (ds_while 300 hp (dt_cmp opr_gtX o_gtX (de_bin opr_add o_add (de_bin opr_add o_add (de_bin opr_add o_add de_int (de_callB (cr_sum rfl) o_sum rfl T.g_sum (by decide +kernel) (da_cons (de_comp (own := [("_law_key", 9)]) rfl sc__law_page.nd (di_list (de_var (i := 6) rfl (.inl rfl))) (show BlkOk N__law_page (defScope s__law_page) _ _ from blk_of (by decide +kernel)) (fun _ _ _ _ _ => (dc_name sc__law_page.nd rfl (.inl rfl) (by simp))) (fun _ _ _ _ _ => dp_nil) (fun _ _ _ _ _ => (de_bin opr_add o_add de_int (de_callB c_len o_len rfl T.g_len (by decide +kernel) (da_cons (de_var (i := 9) rfl (.inl rfl)) da_nil))))) da_nil))) (de_bin opr_mul o_mulX de_int (de_callB c_len o_len rfl T.g_len (by decide +kernel) (da_cons (de_var (i := 6) rfl (.inl rfl)) da_nil)))) de_int) (de_bin op_sub o_sub (de_var (i := 1) rfl (.inr (.inl rfl))) de_int))
   (db_one (ds_expr (de_popAt (de_var (i := 6) rfl (.inl rfl)) (de_bin op_mod o_mod (de_var (i := 2) rfl (.inl rfl)) (de_callB c_len o_len rfl T.g_len (by decide +kernel) (da_cons (de_var (i := 6) rfl (.inl rfl)) da_nil)))))))
  (db_one (ds_ret (de_tup (da_cons de_str (da_cons (de_callTy call_tuple_of o_tupOf rfl T.g_tuple (by decide +kernel) (da_cons (de_var (i := 6) rfl (.inl rfl)) da_nil)) (da_cons (de_callTy call_tuple_of o_tupOf rfl T.g_tuple (by decide +kernel) (da_cons (de_comp (own := [("_law_k", 10)]) rfl sc__law_page.nd (di_range1 rfl T.g_range (de_bin opr_add o_add (de_callB c_len o_len rfl T.g_len (by decide +kernel) (da_cons (de_var (i := 6) rfl (.inl rfl)) da_nil)) de_int)) (show BlkOk N__law_page (defScope s__law_page) _ _ from blk_of (by decide +kernel)) (fun _ _ _ _ _ => (dc_name sc__law_page.nd rfl (.inl rfl) (by simp))) (fun _ _ _ _ _ => dp_nil) (fun _ _ _ _ _ => (de_bin opr_add o_add de_int (de_bin op_mod o_mod (de_call (ok__law_next T) (hr.mono (by decide)) (takes_f (m := .a)) rfl (da_cons (de_var (i := 0) rfl (.inr (.inl rfl))) da_nil)) de_int)))) da_nil)) da_nil)))))))))))))))
def N__law_is_page : List Str := ["_law_thing", "_law_size", "_law_row", "_law_number_here", "_law_kid"]
theorem sc__law_is_page : FnScope N__law_is_page ["_law_thing"] (defScope s__law_is_page) := ⟨rfl, rfl, rfl, by decide +kernel, rfl, by decide +kernel, by decide +kernel⟩
def c1__law_is_page : DE :=
  (dCall 3 f__law_number (dCons (dVar 3) (dCons (dC (.int 0)) (dCons (dC (.int 4095)) dNil))))
def c2__law_is_page : DE :=
  (dCall 3 f__law_number (dCons (dVar 4) (dCons (dC (.int 1)) (dCons (dC (.int 4095)) dNil))))
def l3__law_is_page : DS :=
  (dIf (dOr (dNot (dTest (dIsB (fun t => t == "tuple") (dVar 2)))) (dOr (dTest (dBin fNe (dCB fLen (dCons (dVar 2) dNil)) (dC (.int 2)))) (dNot (dTest (dCall 1 f__law_is_cell (dCons (dBin fIx (dVar 2) (dC (.int 1))) dNil))))))
    (dRet (dC (.bl false)))
    dNext)
def c4__law_is_page : DE :=
  (dBin fIx (dVar 2) (dC (.int 0)))
def b__law_is_page : DS :=
  (dSeq (dIf (dOr (dNot (dTest (dIsB (fun t => t == "tuple") (dVar 0)))) (dOr (dTest (dBin fEq (dVar 0) (dTup dNil))) (dNot (dTest (dIsB (fun t => t == "str") (dBin fIx (dVar 0) (dC (.int 0))))))))
   (dRet (dC (.bl false)))
   dNext)
  (dSeq (dIf (dOr (dTest (dBin fEq (dBin fIx (dVar 0) (dC (.int 0))) (dC (.str "head")))) (dTest (dBin fEq (dBin fIx (dVar 0) (dC (.int 0))) (dC (.str "free")))))
   (dSeq (dAsg (dBin fDGet (dDisp [(.inr "head", (dC (.int 5))), (.inr "free", (dC (.int 2)))]) (dBin fIx (dVar 0) (dC (.int 0)))) (gSlot 1))
   (dRet (dAndV (dBin fEq (dCB fLen (dCons (dVar 0) dNil)) (dVar 1)) (dCB fAll (dCons (dComp (dItT (dSl (dVar 0) (dPart (dC (.int 1))) dNoPart)) (gSlot 3) dYes c1__law_is_page [3]) dNil)))))
   dNext)
  (dSeq (dIf (dTest (dBin fEq (dBin fIx (dVar 0) (dC (.int 0))) (dC (.str "rest"))))
   (dRet (dAndV (dBin fEq (dCB fLen (dCons (dVar 0) dNil)) (dC (.int 3))) (dAndV (dCall 3 f__law_good_text (dCons (dBin fIx (dVar 0) (dC (.int 1))) (dCons (dC (.int 1)) (dCons (dC (.int 400)) dNil)))) (dCall 3 f__law_number (dCons (dBin fIx (dVar 0) (dC (.int 2))) (dCons (dC (.int 0)) (dCons (dC (.int 4095)) dNil)))))))
   dNext)
  (dSeq (dIf (dOr (dTest (dBin fLtX (dCB fLen (dCons (dVar 0) dNil)) (dC (.int 2)))) (dNot (dTest (dIsB (fun t => t == "tuple") (dBin fIx (dVar 0) (dC (.int 1)))))))
   (dRet (dC (.bl false)))
   dNext)
  (dSeq (dIf (dTest (dBin fEq (dBin fIx (dVar 0) (dC (.int 0))) (dC (.str "fork"))))
   (dSeq (dIf (dOr (dTest (dBin fNe (dCB fLen (dCons (dVar 0) dNil)) (dC (.int 3)))) (dOr (dNot (dTest (dIsB (fun t => t == "tuple") (dBin fIx (dVar 0) (dC (.int 2)))))) (dNot (dTest (dCall 1 f__law_rise (dCons (dBin fIx (dVar 0) (dC (.int 1))) dNil))))))
    (dRet (dC (.bl false)))
    dNext)
   (dRet (dAndV (dBin fEq (dCB fLen (dCons (dBin fIx (dVar 0) (dC (.int 2))) dNil)) (dBin fAdd (dCB fLen (dCons (dBin fIx (dVar 0) (dC (.int 1))) dNil)) (dC (.int 1)))) (dCB fAll (dCons (dComp (dItT (dBin fIx (dVar 0) (dC (.int 2)))) (gSlot 4) dYes c2__law_is_page [4]) dNil)))))
   dNext)
  (dSeq (dIf (dOr (dTest (dBin fNe (dBin fIx (dVar 0) (dC (.int 0))) (dC (.str "leaf")))) (dTest (dBin fNe (dCB fLen (dCons (dVar 0) dNil)) (dC (.int 2)))))
   (dRet (dC (.bl false)))
   dNext)
  (dSeq (dFor (dItT (dBin fIx (dVar 0) (dC (.int 1)))) (gSlot 2)
   l3__law_is_page)
  (dRet (dCall 1 f__law_rise (dCons (dComp (dItT (dBin fIx (dVar 0) (dC (.int 1)))) (gSlot 2) dYes c4__law_is_page [2]) dNil))))))))))
def f__law_is_page : FN := runB 5 b__law_is_page
theorem ok__law_is_page (T : Top K mg) : DefOk md P w K mg base 4 "_law_is_page" 1 f__law_is_page := by
  obtain ⟨fd, G⟩ := T.d__law_is_page
  refine def_by T.g__law_is_page G sc__law_is_page rfl (fun _ _ _ _ _ _ us hl => match us, hl with | [_], _ => rfl) (fun cdv A outer s H E hr tk hp =>
  (db_cons (ds_if (dt_w (dw_or (dt_not (dt_val (de_isiB (T := "tuple") (by decide +kernel) rfl T.g_isinstance rfl T.g_tuple (by decide +kernel) (de_var (i := 0) rfl (.inl rfl))))) (dw_or (dt_cmp (op_eqD hr.units) o_eq (de_var (i := 0) rfl (.inl rfl)) (de_tup da_nil)) (dw_or1 (dt_not (dt_val (de_isiB (T := "str") (by decide +kernel) rfl T.g_isinstance rfl T.g_str (by decide +kernel) (de_ix (de_var (i := 0) rfl (.inl rfl)) de_int))))))))
   (db_one (ds_ret de_bl))
   db_nil)
  (db_cons (ds_if (dt_w (dw_or (dt_cmp (op_eqD hr.units) o_eq (de_ix (de_var (i := 0) rfl (.inl rfl)) de_int) de_str) (dw_or1 (dt_cmp (op_eqD hr.units) o_eq (de_ix (de_var (i := 0) rfl (.inl rfl)) de_int) de_str))))
   (db_cons (ds_set sc__law_is_page.nd (i := 1) rfl (.inl rfl) (de_dget (room1 hr) (de_disp (dpp_str de_int (dpp_str de_int dpp_nil)) rfl rfl (by simp) (by decide)) (de_ix (de_var (i := 0) rfl (.inl rfl)) de_int)))
   (db_one (ds_ret (de_and (de_cmp (op_eqD hr.units) o_eq (de_callB c_len o_len rfl T.g_len (by decide +kernel) (da_cons (de_var (i := 0) rfl (.inl rfl)) da_nil)) (de_var (i := 1) rfl (.inl rfl))) (de_one (de_callB (cr_all rfl) o_all rfl T.g_all (by decide +kernel) (da_cons (de_comp (own := [("_law_number_here", 3)]) rfl sc__law_is_page.nd (di_tup (de_sl (de_var (i := 0) rfl (.inl rfl)) (do_some de_int) do_none)) (show BlkOk N__law_is_page (defScope s__law_is_page) _ _ from blk_of (by decide +kernel)) (fun _ _ _ _ _ => (dc_name sc__law_is_page.nd rfl (.inl rfl) (by simp))) (fun _ _ _ _ _ => dp_nil) (fun _ _ _ _ _ => (de_call (ok__law_number T) (hr.mono (by decide)) (takes_f (m := .a)) rfl (da_cons (de_var (i := 3) rfl (.inl rfl)) (da_cons de_int (da_cons de_int da_nil)))))) da_nil)))))))
   db_nil)
  (db_cons (ds_if (dt_cmp (op_eqD hr.units) o_eq (de_ix (de_var (i := 0) rfl (.inl rfl)) de_int) de_str)
   (db_one (ds_ret (de_and (de_cmp (op_eqD hr.units) o_eq (de_callB c_len o_len rfl T.g_len (by decide +kernel) (da_cons (de_var (i := 0) rfl (.inl rfl)) da_nil)) de_int) (de_and (de_call (ok__law_good_text T) (hr.mono (by decide)) tk rfl (da_cons (de_ix (de_var (i := 0) rfl (.inl rfl)) de_int) (da_cons de_int (da_cons de_int da_nil)))) (de_one (de_call (ok__law_number T) (hr.mono (by decide)) tk rfl (da_cons (de_ix (de_var (i := 0) rfl (.inl rfl)) de_int) (da_cons de_int (da_cons de_int da_nil)))))))))
   db_nil)
  (db_cons (ds_if (dt_w (dw_or (dt_cmp opr_ltX o_ltX (de_callB c_len o_len rfl T.g_len (by decide +kernel) (da_cons (de_var (i := 0) rfl (.inl rfl)) da_nil)) de_int) (dw_or1 (dt_not (dt_val (de_isiB (T := "tuple") (by decide +kernel) rfl T.g_isinstance rfl T.g_tuple (by decide +kernel) (de_ix (de_var (i := 0) rfl (.inl rfl)) de_int)))))))
   (db_one (ds_ret de_bl))
   db_nil)
  (db_cons (ds_if (dt_cmp (op_eqD hr.units) o_eq (de_ix (de_var (i := 0) rfl (.inl rfl)) de_int) de_str)
   (db_cons (ds_if (dt_w (dw_or (dt_cmp (op_neD hr.units) o_ne (de_callB c_len o_len rfl T.g_len (by decide +kernel) (da_cons (de_var (i := 0) rfl (.inl rfl)) da_nil)) de_int) (dw_or (dt_not (dt_val (de_isiB (T := "tuple") (by decide +kernel) rfl T.g_isinstance rfl T.g_tuple (by decide +kernel) (de_ix (de_var (i := 0) rfl (.inl rfl)) de_int)))) (dw_or1 (dt_not (dt_val (de_call (ok__law_rise T) (hr.mono (by decide)) tk rfl (da_cons (de_ix (de_var (i := 0) rfl (.inl rfl)) de_int) da_nil))))))))
    (db_one (ds_ret de_bl))
    db_nil)
   (db_one (ds_ret (de_and (de_cmp (op_eqD hr.units) o_eq (de_callB c_len o_len rfl T.g_len (by decide +kernel) (da_cons (de_ix (de_var (i := 0) rfl (.inl rfl)) de_int) da_nil)) (de_bin opr_add o_add (de_callB c_len o_len rfl T.g_len (by decide +kernel) (da_cons (de_ix (de_var (i := 0) rfl (.inl rfl)) de_int) da_nil)) de_int)) (de_one (de_callB (cr_all rfl) o_all rfl T.g_all (by decide +kernel) (da_cons (de_comp (own := [("_law_kid", 4)]) rfl sc__law_is_page.nd (di_tup (de_ix (de_var (i := 0) rfl (.inl rfl)) de_int)) (show BlkOk N__law_is_page (defScope s__law_is_page) _ _ from blk_of (by decide +kernel)) (fun _ _ _ _ _ => (dc_name sc__law_is_page.nd rfl (.inl rfl) (by simp))) (fun _ _ _ _ _ => dp_nil) (fun _ _ _ _ _ => (de_call (ok__law_number T) (hr.mono (by decide)) (takes_f (m := .a)) rfl (da_cons (de_var (i := 4) rfl (.inl rfl)) (da_cons de_int (da_cons de_int da_nil)))))) da_nil)))))))
   db_nil)
  (db_cons (ds_if (dt_w (dw_or (dt_cmp (op_neD hr.units) o_ne (de_ix (de_var (i := 0) rfl (.inl rfl)) de_int) de_str) (dw_or1 (dt_cmp (op_neD hr.units) o_ne (de_callB c_len o_len rfl T.g_len (by decide +kernel) (da_cons (de_var (i := 0) rfl (.inl rfl)) da_nil)) de_int))))
   (db_one (ds_ret de_bl))
   db_nil)
  (db_cons (ds_for hp rfl (di_tup (de_ix (de_var (i := 0) rfl (.inl rfl)) de_int)) (dg_name sc__law_is_page.nd (i := 2) rfl (.inl rfl))
   (db_one (ds_if (dt_w (dw_or (dt_not (dt_val (de_isiB (T := "tuple") (by decide +kernel) rfl T.g_isinstance rfl T.g_tuple (by decide +kernel) (de_var (i := 2) rfl (.inl rfl))))) (dw_or (dt_cmp (op_neD hr.units) o_ne (de_callB c_len o_len rfl T.g_len (by decide +kernel) (da_cons (de_var (i := 2) rfl (.inl rfl)) da_nil)) de_int) (dw_or1 (dt_not (dt_val (de_call (ok__law_is_cell T) (hr.mono (by decide)) tk rfl (da_cons (de_ix (de_var (i := 2) rfl (.inl rfl)) de_int) da_nil))))))))
    (db_one (ds_ret de_bl))
    db_nil)))
  (db_one (ds_ret (de_call (ok__law_rise T) (hr.mono (by decide)) tk rfl (da_cons (de_comp (own := [("_law_row", 2)]) rfl sc__law_is_page.nd (di_tup (de_ix (de_var (i := 0) rfl (.inl rfl)) de_int)) (show BlkOk N__law_is_page (defScope s__law_is_page) _ _ from blk_of (by decide +kernel)) (fun _ _ _ _ _ => (dc_name sc__law_is_page.nd rfl (.inl rfl) (by simp))) (fun _ _ _ _ _ => dp_nil) (fun _ _ _ _ _ => (de_ix (de_var (i := 2) rfl (.inl rfl)) de_int))) da_nil))))))))))))
def N_made : List Str := ["thing", "number", "row", "kid"]
theorem sc_made : FnScope N_made ["thing"] (defScope s_made) := ⟨rfl, rfl, rfl, by decide +kernel, rfl, by decide +kernel, by decide +kernel⟩
def c1_made : DE :=
  (dCallD 1 [.int 0] f_is_number (dCons (dVar 1) dNil))
def c2_made : DE :=
  (dCall 1 f_is_row (dCons (dVar 2) dNil))
def c3_made : DE :=
  (dBin fIx (dVar 2) (dC (.int 0)))
def c4_made : DE :=
  (dCall 2 f_is_number (dCons (dVar 3) (dCons (dC (.int 1)) dNil)))
def b_made : DS :=
  (dSeq (dIf (dAnd (dTest (dCall 3 f_has_word (dCons (dVar 0) (dCons (dC (.str "head")) (dCons (dC (.int 5)) dNil))))) (dTest (dCB fAll (dCons (dComp (dItT (dSl (dVar 0) (dPart (dC (.int 1))) dNoPart)) (gSlot 1) dYes c1_made [1]) dNil))))
   (dRet (dMake "Head" 5 f_Head___init__ (dCons (dBin fIx (dVar 0) (dC (.int 1))) (dCons (dBin fIx (dVar 0) (dC (.int 2))) (dCons (dBin fIx (dVar 0) (dC (.int 3))) (dCons (dBin fIx (dVar 0) (dC (.int 4))) dNil))))))
   dNext)
  (dSeq (dIf (dAnd (dTest (dCall 3 f_has_word (dCons (dVar 0) (dCons (dC (.str "leaf")) (dCons (dC (.int 2)) dNil))))) (dAnd (dTest (dIsB (fun t => t == "tuple") (dBin fIx (dVar 0) (dC (.int 1))))) (dTest (dCB fAll (dCons (dComp (dItT (dBin fIx (dVar 0) (dC (.int 1)))) (gSlot 2) dYes c2_made [2]) dNil)))))
   (dIf (dTest (dCall 1 f_are_keys (dCons (dComp (dItT (dBin fIx (dVar 0) (dC (.int 1)))) (gSlot 2) dYes c3_made [2]) dNil)))
    (dRet (dMake "Leaf" 2 f_Leaf___init__ (dCons (dBin fIx (dVar 0) (dC (.int 1))) dNil)))
    dNext)
   dNext)
  (dSeq (dIf (dAnd (dTest (dCall 3 f_has_word (dCons (dVar 0) (dCons (dC (.str "fork")) (dCons (dC (.int 3)) dNil))))) (dAnd (dTest (dIsB (fun t => t == "tuple") (dBin fIx (dVar 0) (dC (.int 1))))) (dTest (dIsB (fun t => t == "tuple") (dBin fIx (dVar 0) (dC (.int 2)))))))
   (dIf (dAnd (dTest (dCall 1 f_are_keys (dCons (dCB (fListOf false) (dCons (dBin fIx (dVar 0) (dC (.int 1))) dNil)) dNil))) (dTest (dCB fAll (dCons (dComp (dItT (dBin fIx (dVar 0) (dC (.int 2)))) (gSlot 3) dYes c4_made [3]) dNil))))
    (dIf (dTest (dBin fEq (dCB fLen (dCons (dBin fIx (dVar 0) (dC (.int 2))) dNil)) (dBin fAdd (dCB fLen (dCons (dBin fIx (dVar 0) (dC (.int 1))) dNil)) (dC (.int 1)))))
     (dRet (dMake "Fork" 3 f_Fork___init__ (dCons (dBin fIx (dVar 0) (dC (.int 1))) (dCons (dBin fIx (dVar 0) (dC (.int 2))) dNil))))
     dNext)
    dNext)
   dNext)
  (dSeq (dIf (dAnd (dTest (dCall 3 f_has_word (dCons (dVar 0) (dCons (dC (.str "rest")) (dCons (dC (.int 3)) dNil))))) (dAnd (dTest (dCall 1 f_is_value (dCons (dBin fIx (dVar 0) (dC (.int 1))) dNil))) (dAnd (dTest (dBin fNe (dBin fIx (dVar 0) (dC (.int 1))) (dC (.str "")))) (dTest (dCallD 1 [.int 0] f_is_number (dCons (dBin fIx (dVar 0) (dC (.int 2))) dNil))))))
   (dRet (dMake "Rest" 3 f_Rest___init__ (dCons (dBin fIx (dVar 0) (dC (.int 1))) (dCons (dBin fIx (dVar 0) (dC (.int 2))) dNil))))
   dNext)
  (dSeq (dIf (dAnd (dTest (dCall 3 f_has_word (dCons (dVar 0) (dCons (dC (.str "free")) (dCons (dC (.int 2)) dNil))))) (dTest (dCallD 1 [.int 0] f_is_number (dCons (dBin fIx (dVar 0) (dC (.int 1))) dNil))))
   (dRet (dMake "Free" 2 f_Free___init__ (dCons (dBin fIx (dVar 0) (dC (.int 1))) dNil)))
   dNext)
  (dRet (dC .non)))))))
def f_made : FN := runB 4 b_made
theorem ok_made (T : Top K mg) : DefOk md P w K mg base 5 "made" 1 f_made := by
  obtain ⟨fd, G⟩ := T.d_made
  refine def_by T.g_made G sc_made rfl (fun _ _ _ _ _ _ us hl => match us, hl with | [_], _ => rfl) (fun cdv A outer s H E hr tk hp =>
  (db_cons (ds_if (dt_w (dw_and (dt_val (de_call (ok_has_word T) (hr.mono (by decide)) tk rfl (da_cons (de_var (i := 0) rfl (.inl rfl)) (da_cons de_str (da_cons de_int da_nil))))) (dw_and1 (dt_val (de_callB (cr_all rfl) o_all rfl T.g_all (by decide +kernel) (da_cons (de_comp (own := [("number", 1)]) rfl sc_made.nd (di_tup (de_sl (de_var (i := 0) rfl (.inl rfl)) (do_some de_int) do_none)) (show BlkOk N_made (defScope s_made) _ _ from blk_of (by decide +kernel)) (fun _ _ _ _ _ => (dc_name sc_made.nd rfl (.inl rfl) (by simp))) (fun _ _ _ _ _ => dp_nil) (fun _ _ _ _ _ => (de_callD (okD_is_number T) (hr.mono (by decide)) (takes_f (m := .a)) rfl (da_cons (de_var (i := 1) rfl (.inl rfl)) da_nil)))) da_nil))))))
   (db_one (ds_ret (de_make (mk_Head T) (hr.mono (by decide)) tk rfl (da_cons (de_ix (de_var (i := 0) rfl (.inl rfl)) de_int) (da_cons (de_ix (de_var (i := 0) rfl (.inl rfl)) de_int) (da_cons (de_ix (de_var (i := 0) rfl (.inl rfl)) de_int) (da_cons (de_ix (de_var (i := 0) rfl (.inl rfl)) de_int) da_nil)))))))
   db_nil)
  (db_cons (ds_if (dt_w (dw_and (dt_val (de_call (ok_has_word T) (hr.mono (by decide)) tk rfl (da_cons (de_var (i := 0) rfl (.inl rfl)) (da_cons de_str (da_cons de_int da_nil))))) (dw_and (dt_val (de_isiB (T := "tuple") (by decide +kernel) rfl T.g_isinstance rfl T.g_tuple (by decide +kernel) (de_ix (de_var (i := 0) rfl (.inl rfl)) de_int))) (dw_and1 (dt_val (de_callB (cr_all rfl) o_all rfl T.g_all (by decide +kernel) (da_cons (de_comp (own := [("row", 2)]) rfl sc_made.nd (di_tup (de_ix (de_var (i := 0) rfl (.inl rfl)) de_int)) (show BlkOk N_made (defScope s_made) _ _ from blk_of (by decide +kernel)) (fun _ _ _ _ _ => (dc_name sc_made.nd rfl (.inl rfl) (by simp))) (fun _ _ _ _ _ => dp_nil) (fun _ _ _ _ _ => (de_call (ok_is_row T) (hr.mono (by decide)) (takes_f (m := .a)) rfl (da_cons (de_var (i := 2) rfl (.inl rfl)) da_nil)))) da_nil)))))))
   (db_one (ds_if (dt_val (de_call (ok_are_keys T) (hr.mono (by decide)) tk rfl (da_cons (de_comp (own := [("row", 2)]) rfl sc_made.nd (di_tup (de_ix (de_var (i := 0) rfl (.inl rfl)) de_int)) (show BlkOk N_made (defScope s_made) _ _ from blk_of (by decide +kernel)) (fun _ _ _ _ _ => (dc_name sc_made.nd rfl (.inl rfl) (by simp))) (fun _ _ _ _ _ => dp_nil) (fun _ _ _ _ _ => (de_ix (de_var (i := 2) rfl (.inl rfl)) de_int))) da_nil)))
    (db_one (ds_ret (de_make (mk_Leaf T) (hr.mono (by decide)) tk rfl (da_cons (de_ix (de_var (i := 0) rfl (.inl rfl)) de_int) da_nil))))
    db_nil))
   db_nil)
  (db_cons (ds_if (dt_w (dw_and (dt_val (de_call (ok_has_word T) (hr.mono (by decide)) tk rfl (da_cons (de_var (i := 0) rfl (.inl rfl)) (da_cons de_str (da_cons de_int da_nil))))) (dw_and (dt_val (de_isiB (T := "tuple") (by decide +kernel) rfl T.g_isinstance rfl T.g_tuple (by decide +kernel) (de_ix (de_var (i := 0) rfl (.inl rfl)) de_int))) (dw_and1 (dt_val (de_isiB (T := "tuple") (by decide +kernel) rfl T.g_isinstance rfl T.g_tuple (by decide +kernel) (de_ix (de_var (i := 0) rfl (.inl rfl)) de_int)))))))
   (db_one (ds_if (dt_w (dw_and (dt_val (de_call (ok_are_keys T) (hr.mono (by decide)) tk rfl (da_cons (de_callTy call_list_of o_listOf rfl T.g_list (by decide +kernel) (da_cons (de_ix (de_var (i := 0) rfl (.inl rfl)) de_int) da_nil)) da_nil))) (dw_and1 (dt_val (de_callB (cr_all rfl) o_all rfl T.g_all (by decide +kernel) (da_cons (de_comp (own := [("kid", 3)]) rfl sc_made.nd (di_tup (de_ix (de_var (i := 0) rfl (.inl rfl)) de_int)) (show BlkOk N_made (defScope s_made) _ _ from blk_of (by decide +kernel)) (fun _ _ _ _ _ => (dc_name sc_made.nd rfl (.inl rfl) (by simp))) (fun _ _ _ _ _ => dp_nil) (fun _ _ _ _ _ => (de_call (ok_is_number T) (hr.mono (by decide)) (takes_f (m := .a)) rfl (da_cons (de_var (i := 3) rfl (.inl rfl)) (da_cons de_int da_nil))))) da_nil))))))
    (db_one (ds_if (dt_cmp (op_eqD hr.units) o_eq (de_callB c_len o_len rfl T.g_len (by decide +kernel) (da_cons (de_ix (de_var (i := 0) rfl (.inl rfl)) de_int) da_nil)) (de_bin opr_add o_add (de_callB c_len o_len rfl T.g_len (by decide +kernel) (da_cons (de_ix (de_var (i := 0) rfl (.inl rfl)) de_int) da_nil)) de_int))
     (db_one (ds_ret (de_make (mk_Fork T) (hr.mono (by decide)) tk rfl (da_cons (de_ix (de_var (i := 0) rfl (.inl rfl)) de_int) (da_cons (de_ix (de_var (i := 0) rfl (.inl rfl)) de_int) da_nil)))))
     db_nil))
    db_nil))
   db_nil)
  (db_cons (ds_if (dt_w (dw_and (dt_val (de_call (ok_has_word T) (hr.mono (by decide)) tk rfl (da_cons (de_var (i := 0) rfl (.inl rfl)) (da_cons de_str (da_cons de_int da_nil))))) (dw_and (dt_val (de_call (ok_is_value T) (hr.mono (by decide)) tk rfl (da_cons (de_ix (de_var (i := 0) rfl (.inl rfl)) de_int) da_nil))) (dw_and (dt_cmp (op_neD hr.units) o_ne (de_ix (de_var (i := 0) rfl (.inl rfl)) de_int) de_str) (dw_and1 (dt_val (de_callD (okD_is_number T) (hr.mono (by decide)) tk rfl (da_cons (de_ix (de_var (i := 0) rfl (.inl rfl)) de_int) da_nil))))))))
   (db_one (ds_ret (de_make (mk_Rest T) (hr.mono (by decide)) tk rfl (da_cons (de_ix (de_var (i := 0) rfl (.inl rfl)) de_int) (da_cons (de_ix (de_var (i := 0) rfl (.inl rfl)) de_int) da_nil)))))
   db_nil)
  (db_cons (ds_if (dt_w (dw_and (dt_val (de_call (ok_has_word T) (hr.mono (by decide)) tk rfl (da_cons (de_var (i := 0) rfl (.inl rfl)) (da_cons de_str (da_cons de_int da_nil))))) (dw_and1 (dt_val (de_callD (okD_is_number T) (hr.mono (by decide)) tk rfl (da_cons (de_ix (de_var (i := 0) rfl (.inl rfl)) de_int) da_nil))))))
   (db_one (ds_ret (de_make (mk_Free T) (hr.mono (by decide)) tk rfl (da_cons (de_ix (de_var (i := 0) rfl (.inl rfl)) de_int) da_nil))))
   db_nil)
  (db_one (ds_ret de_non))))))))
def N_is_page : List Str := ["thing"]
theorem sc_is_page : FnScope N_is_page ["thing"] (defScope s_is_page) := ⟨rfl, rfl, rfl, by decide +kernel, rfl, by decide +kernel, by decide +kernel⟩
def b_is_page : DS :=
  (dRet (dBin (fIsN true) (dCall 1 f_made (dCons (dVar 0) dNil)) (dC .non)))
def f_is_page : FN := runB 1 b_is_page
theorem ok_is_page (T : Top K mg) : DefOk md P w K mg base 6 "is_page" 1 f_is_page := by
  obtain ⟨fd, G⟩ := T.d_is_page
  refine def_by T.g_is_page G sc_is_page rfl (fun _ _ _ _ _ _ us hl => match us, hl with | [_], _ => rfl) (fun cdv A outer s H E hr tk hp =>
  (db_one (ds_ret (de_cmp op_notN o_notN (de_call (ok_made T) (hr.mono (by decide)) tk rfl (da_cons (de_var (i := 0) rfl (.inl rfl)) da_nil)) de_non))))
def N_need_page : List Str := ["thing", "page"]
theorem sc_need_page : FnScope N_need_page ["thing"] (defScope s_need_page) := ⟨rfl, rfl, rfl, by decide +kernel, rfl, by decide +kernel, by decide +kernel⟩
def b_need_page : DS :=
  (dSeq (dAsg (dCall 1 f_made (dCons (dVar 0) dNil)) (gSlot 1))
  (dSeq (dIf (dTest (dBin (fIsN false) (dVar 1) (dC .non)))
   (dRaiseI "BadPage" "number" (dC .non))
   dNext)
  (dRet (dVar 1))))
def f_need_page : FN := runB 2 b_need_page
theorem ok_need_page (T : Top K mg) : DefOk md P w K mg base 6 "need_page" 1 f_need_page := by
  obtain ⟨fd, G⟩ := T.d_need_page
  refine def_by T.g_need_page G sc_need_page rfl (fun _ _ _ _ _ _ us hl => match us, hl with | [_], _ => rfl) (fun cdv A outer s H E hr tk hp =>
  (db_cons (ds_set sc_need_page.nd (i := 1) rfl (.inl rfl) (de_call (ok_made T) (hr.mono (by decide)) tk rfl (da_cons (de_var (i := 0) rfl (.inl rfl)) da_nil)))
  (db_cons (ds_if (dt_cmp op_isN o_isN (de_var (i := 1) rfl (.inl rfl)) de_non)
   (db_one (ds_raiseI0 (ex_BadPage T) rfl (hr.mono (by decide)) tk rfl))
   db_nil)
  (db_one (ds_ret (de_var (i := 1) rfl (.inl rfl)))))))
def N_body_of : List Str := ["page"]
theorem sc_body_of : FnScope N_body_of ["page"] (defScope s_body_of) := ⟨rfl, rfl, rfl, by decide +kernel, rfl, by decide +kernel, by decide +kernel⟩
def b_body_of : DS :=
  (dRet (dMeth "body" mt_body (dCall 1 f_need_page (dCons (dVar 0) dNil)) dNil))
def f_body_of : FN := runB 1 b_body_of
theorem ok_body_of (T : Top K mg) : DefOk md P w K mg base 7 "body_of" 1 f_body_of := by
  obtain ⟨fd, G⟩ := T.d_body_of
  refine def_by T.g_body_of G sc_body_of rfl (fun _ _ _ _ _ _ us hl => match us, hl with | [_], _ => rfl) (fun cdv A outer s H E hr tk hp =>
  (db_one (ds_ret (de_meth0 (tab := mt_body) (de_call (ok_need_page T) (hr.mono (by decide)) tk rfl (da_cons (de_var (i := 0) rfl (.inl rfl)) da_nil)) (mt_body_ok T) (hr.mono (by decide)) tk))))
def N_leads_to : List Str := ["page"]
theorem sc_leads_to : FnScope N_leads_to ["page"] (defScope s_leads_to) := ⟨rfl, rfl, rfl, by decide +kernel, rfl, by decide +kernel, by decide +kernel⟩
def b_leads_to : DS :=
  (dRet (dMeth "leads" mt_leads (dCall 1 f_need_page (dCons (dVar 0) dNil)) dNil))
def f_leads_to : FN := runB 1 b_leads_to
theorem ok_leads_to (T : Top K mg) : DefOk md P w K mg base 7 "leads_to" 1 f_leads_to := by
  obtain ⟨fd, G⟩ := T.d_leads_to
  refine def_by T.g_leads_to G sc_leads_to rfl (fun _ _ _ _ _ _ us hl => match us, hl with | [_], _ => rfl) (fun cdv A outer s H E hr tk hp =>
  (db_one (ds_ret (de_meth0 (tab := mt_leads) (de_call (ok_need_page T) (hr.mono (by decide)) tk rfl (da_cons (de_var (i := 0) rfl (.inl rfl)) da_nil)) (mt_leads_ok T) (hr.mono (by decide)) tk))))
def N_page_text : List Str := ["page", "size", "found", "body", "text"]
theorem sc_page_text : FnScope N_page_text ["page", "size"] (defScope s_page_text) := ⟨rfl, rfl, rfl, by decide +kernel, rfl, by decide +kernel, by decide +kernel⟩
def b_page_text : DS :=
  (dSeq (dAsg (dCall 1 f_need_page (dCons (dVar 0) dNil)) (gSlot 2))
  (dSeq (dExpr (dCall 1 f_need_size (dCons (dVar 1) dNil)))
  (dSeq (dAsg (dMeth "body" mt_body (dVar 2) dNil) (gSlot 3))
  (dSeq (dIf (dTest (dBin fGtX (dCB fLen (dCons (dVar 3) dNil)) (dBin fSub (dVar 1) (dC (.int 5)))))
   (dRaiseI "BadPage" "number" (dC .non))
   dNext)
  (dSeq (dAsg (dBin fAdd (dBin fAdd (dMeth "letter" mt_letter (dVar 2) dNil) (dCall 2 f_digits (dCons (dCB fLen (dCons (dVar 3) dNil)) (dCons (dC (.int 2)) dNil)))) (dVar 3)) (gSlot 4))
  (dSeq (dAsg (dBin fAdd (dVar 4) (dBin (fRep false) (dC (.str "0")) (dBin fSub (dBin fSub (dVar 1) (dC (.int 2))) (dCB fLen (dCons (dVar 4) dNil))))) (gSlot 4))
  (dRet (dBin fAdd (dVar 4) (dCall 1 f_check_of (dCons (dVar 4) dNil))))))))))
def f_page_text : FN := runB 5 b_page_text
theorem ok_page_text (T : Top K mg) : DefOk md P w K mg base 7 "page_text" 2 f_page_text := by
  obtain ⟨fd, G⟩ := T.d_page_text
  refine def_by T.g_page_text G sc_page_text rfl (fun _ _ _ _ _ _ us hl => match us, hl with | [_, _], _ => rfl) (fun cdv A outer s H E hr tk hp =>
  (db_cons (ds_set sc_page_text.nd (i := 2) rfl (.inl rfl) (de_call (ok_need_page T) (hr.mono (by decide)) tk rfl (da_cons (de_var (i := 0) rfl (.inl rfl)) da_nil)))
  (db_cons (ds_expr (de_call (ok_need_size T) (hr.mono (by decide)) tk rfl (da_cons (de_var (i := 1) rfl (.inl rfl)) da_nil)))
  (db_cons (ds_set sc_page_text.nd (i := 3) rfl (.inl rfl) (de_meth0 (tab := mt_body) (de_var (i := 2) rfl (.inl rfl)) (mt_body_ok T) (hr.mono (by decide)) tk))
  (db_cons (ds_if (dt_cmp opr_gtX o_gtX (de_callB c_len o_len rfl T.g_len (by decide +kernel) (da_cons (de_var (i := 3) rfl (.inl rfl)) da_nil)) (de_bin op_sub o_sub (de_var (i := 1) rfl (.inl rfl)) (de_gint rfl T.g_AROUND)))
   (db_one (ds_raiseI0 (ex_BadPage T) rfl (hr.mono (by decide)) tk rfl))
   db_nil)
  (db_cons (ds_set sc_page_text.nd (i := 4) rfl (.inl rfl) (de_bin opr_add o_add (de_bin opr_add o_add (de_meth0 (tab := mt_letter) (de_var (i := 2) rfl (.inl rfl)) (mt_letter_ok T) (hr.mono (by decide)) tk) (de_call (ok_digits T) (hr.mono (by decide)) tk rfl (da_cons (de_callB c_len o_len rfl T.g_len (by decide +kernel) (da_cons (de_var (i := 3) rfl (.inl rfl)) da_nil)) (da_cons de_int da_nil)))) (de_var (i := 3) rfl (.inl rfl))))
  (db_cons (ds_set sc_page_text.nd (i := 4) rfl (.inl rfl) (de_bin opr_add o_add (de_var (i := 4) rfl (.inl rfl)) (de_bin opr_rep o_rep de_str (de_bin op_sub o_sub (de_bin op_sub o_sub (de_var (i := 1) rfl (.inl rfl)) de_int) (de_callB c_len o_len rfl T.g_len (by decide +kernel) (da_cons (de_var (i := 4) rfl (.inl rfl)) da_nil))))))
  (db_one (ds_ret (de_bin opr_add o_add (de_var (i := 4) rfl (.inl rfl)) (de_call (ok_check_of T) (hr.mono (by decide)) tk rfl (da_cons (de_var (i := 4) rfl (.inl rfl)) da_nil))))))))))))
def N__law_looks : List Str := ["_law_thing", "_law_size", "_law_found", "_law_due", "_law_one"]
theorem sc__law_looks : FnScope N__law_looks ["_law_thing", "_law_size"] (defScope s__law_looks) := ⟨rfl, rfl, rfl, by decide +kernel, rfl, by decide +kernel, by decide +kernel⟩
def c1__law_looks : DE :=
  (dIsB (fun t => t == "bool") (dVar 4))
def b__law_looks : DS :=
  (dSeq (dAsg (dLst (dCons (dCall 1 f_is_key (dCons (dVar 0) dNil)) (dCons (dCall 1 f_is_value (dCons (dVar 0) dNil)) (dCons (dCall 1 f_is_size (dCons (dVar 0) dNil)) (dCons (dCall 1 f_is_page (dCons (dVar 0) dNil)) dNil))))) (gSlot 2))
  (dSeq (dAsg (dLstA (dCons (dCall 3 f__law_good_text (dCons (dVar 0) (dCons (dC (.int 1)) (dCons (dC (.int 12)) dNil)))) (dCons (dCall 3 f__law_good_text (dCons (dVar 0) (dCons (dC (.int 0)) (dCons (dC (.int 400)) dNil)))) (dCons (dCall 3 f__law_number (dCons (dVar 0) (dCons (dC (.int 64)) (dCons (dC (.int 200)) dNil)))) dNil)))) (gSlot 3))
  (dSeq (dExpr (dAppend (dVar 3) (dCall 1 f__law_is_page (dCons (dVar 0) dNil))))
  (dRet (dAndV (dBin fEqM (dVar 2) (dVar 3)) (dCB fAll (dCons (dComp (dItL (dVar 2)) (gSlot 4) dYes c1__law_looks [4]) dNil)))))))
def f__law_looks : FN := runB 5 b__law_looks
theorem ok__law_looks (T : Top K mg) : DefOk md P w K mg base 7 "_law_looks" 2 f__law_looks := by
  obtain ⟨fd, G⟩ := T.d__law_looks
  refine def_by T.g__law_looks G sc__law_looks rfl (fun _ _ _ _ _ _ us hl => match us, hl with | [_, _], _ => rfl) (fun cdv A outer s H E hr tk hp =>
  (db_cons (ds_set sc__law_looks.nd (i := 2) rfl (.inl rfl) (de_lst (da_cons (de_call (ok_is_key T) (hr.mono (by decide)) tk rfl (da_cons (de_var (i := 0) rfl (.inl rfl)) da_nil)) (da_cons (de_call (ok_is_value T) (hr.mono (by decide)) tk rfl (da_cons (de_var (i := 0) rfl (.inl rfl)) da_nil)) (da_cons (de_call (ok_is_size T) (hr.mono (by decide)) tk rfl (da_cons (de_var (i := 0) rfl (.inl rfl)) da_nil)) (da_cons (de_call (ok_is_page T) (hr.mono (by decide)) tk rfl (da_cons (de_var (i := 0) rfl (.inl rfl)) da_nil)) da_nil))))))
  (db_cons (ds_set sc__law_looks.nd (i := 3) rfl (.inl rfl) (de_lstA (da_cons (de_call (ok__law_good_text T) (hr.mono (by decide)) tk rfl (da_cons (de_var (i := 0) rfl (.inl rfl)) (da_cons de_int (da_cons de_int da_nil)))) (da_cons (de_call (ok__law_good_text T) (hr.mono (by decide)) tk rfl (da_cons (de_var (i := 0) rfl (.inl rfl)) (da_cons de_int (da_cons de_int da_nil)))) (da_cons (de_call (ok__law_number T) (hr.mono (by decide)) tk rfl (da_cons (de_var (i := 0) rfl (.inl rfl)) (da_cons de_int (da_cons de_int da_nil)))) da_nil)))))
  (db_cons (ds_expr (de_append (de_var (i := 3) rfl (.inl rfl)) (de_call (ok__law_is_page T) (hr.mono (by decide)) tk rfl (da_cons (de_var (i := 0) rfl (.inl rfl)) da_nil))))
  (db_one (ds_ret (de_and (de_cmp (op_eqD hr.units) o_eqM (de_var (i := 2) rfl (.inl rfl)) (de_var (i := 3) rfl (.inl rfl))) (de_one (de_callB (cr_all rfl) o_all rfl T.g_all (by decide +kernel) (da_cons (de_comp (own := [("_law_one", 4)]) rfl sc__law_looks.nd (di_list (de_var (i := 2) rfl (.inl rfl))) (show BlkOk N__law_looks (defScope s__law_looks) _ _ from blk_of (by decide +kernel)) (fun _ _ _ _ _ => (dc_name sc__law_looks.nd rfl (.inl rfl) (by simp))) (fun _ _ _ _ _ => dp_nil) (fun _ _ _ _ _ => (de_isiB (T := "bool") (by decide +kernel) rfl T.g_isinstance rfl T.g_bool (by decide +kernel) (de_var (i := 4) rfl (.inl rfl))))) da_nil))))))))))
def N__law_refused : List Str := ["_law_way", "_law_thing", "_law_size", "e", "_law_others"]
theorem sc__law_refused : FnScope N__law_refused ["_law_way", "_law_thing", "_law_size"] (defScope s__law_refused) := ⟨rfl, rfl, rfl, by decide +kernel, rfl, by decide +kernel, by decide +kernel⟩
def b__law_refused : DS :=
  (dSeq (dTryAs (exX xtab "TableError") 3
   (dIf (dTest (dBin fEq (dVar 0) (dC (.int 0))))
    (dExpr (dCall 1 f_body_of (dCons (dVar 1) dNil)))
    (dIf (dTest (dBin fEq (dVar 0) (dC (.int 1))))
     (dExpr (dCall 1 f_leads_to (dCons (dVar 1) dNil)))
     (dExpr (dCall 2 f_page_text (dCons (dVar 1) (dCons (dVar 2) dNil))))))
   (dSeq (dAsg (dIs (isX xtab ["BadKey", "BadLine", "BadNumber", "BadText", "BadValue", "Closed"]) (dVar 3)) (gSlot 4))
   (dSeq (dAsg (dOrV (dVar 4) (dIs (isX xtab ["InBundle", "NoBundle", "NoKey", "PowerGone"]) (dVar 3))) (gSlot 4))
   (dSeq (dIf (dOr (dTest (dVar 4)) (dNot (dTest (dIs (isXv xtab) (dVar 3)))))
    (dRet (dC (.str "other")))
    dNext)
   (dSeq (dIf (dTest (dIs (isX xtab ["BadPage"]) (dVar 3)))
    (dRet (dIfE (dAnd (dTest (dBin (fIsN false) (dUn (fXf (fun c => c == "BadPage") "number") (dVar 3)) (dC .non))) (dNot (dTest (dIs (isX xtab ["BadSize"]) (dVar 3))))) (dC (.str "page")) (dC (.str "other"))))
    dNext)
   (dRet (dIfE (dTest (dIs (isX xtab ["BadSize"]) (dVar 3))) (dC (.str "size")) (dC (.str "other")))))))))
  (dRet (dC (.str ""))))
def f__law_refused : FN := runB 5 b__law_refused
theorem ok__law_refused (T : Top K mg) : DefOk .a P w K mg base 8 "_law_refused" 3 f__law_refused := by
  obtain ⟨fd, G⟩ := T.d__law_refused
  refine def_by T.g__law_refused G sc__law_refused rfl (fun _ _ _ _ _ _ us hl => match us, hl with | [_, _, _], _ => rfl) (fun cdv A outer s H E hr tk hp =>
  (db_cons (ds_try_as (i := 3) rfl rfl rfl sc__law_refused.nd rfl rfl rfl T.g_TableError rfl tk (T.x.ex (by decide +kernel)) (fun W pn xe tk2 hp2 =>
   (db_one (ds_if (dt_cmp (op_eqD hr.units) o_eq (de_var (i := 0) rfl (.inl rfl)) de_int)
    (db_one (ds_expr (de_call (ok_body_of T) (hr.mono (by decide)) tk2 rfl (da_cons (de_var (i := 1) rfl (.inl rfl)) da_nil))))
    (db_one (ds_if (dt_cmp (op_eqD hr.units) o_eq (de_var (i := 0) rfl (.inl rfl)) de_int)
     (db_one (ds_expr (de_call (ok_leads_to T) (hr.mono (by decide)) tk2 rfl (da_cons (de_var (i := 1) rfl (.inl rfl)) da_nil))))
     (db_one (ds_expr (de_call (ok_page_text T) (hr.mono (by decide)) tk2 rfl (da_cons (de_var (i := 1) rfl (.inl rfl)) (da_cons (de_var (i := 2) rfl (.inl rfl)) da_nil))))))))))
   (fun a pn => (db_cons (ds_set sc__law_refused.nd (i := 4) rfl (.inl rfl) (de_isT (xs := ["BadKey", "BadLine", "BadNumber", "BadText", "BadValue", "Closed"]) (T.x.isT (by decide +kernel)) rfl T.g_isinstance (pcs_cons rfl T.g_BadKey (pcs_cons rfl T.g_BadLine (pcs_cons rfl T.g_BadNumber (pcs_cons rfl T.g_BadText (pcs_cons rfl T.g_BadValue (pcs_cons rfl T.g_Closed pcs_nil)))))) (de_var (i := 3) rfl (.inl rfl))))
   (db_cons (ds_set sc__law_refused.nd (i := 4) rfl (.inl rfl) (de_or (de_var (i := 4) rfl (.inl rfl)) (de_one (de_isT (xs := ["InBundle", "NoBundle", "NoKey", "PowerGone"]) (T.x.isT (by decide +kernel)) rfl T.g_isinstance (pcs_cons rfl T.g_InBundle (pcs_cons rfl T.g_NoBundle (pcs_cons rfl T.g_NoKey (pcs_cons rfl T.g_PowerGone pcs_nil)))) (de_var (i := 3) rfl (.inl rfl))))))
   (db_cons (ds_if (dt_w (dw_or (dt_val (de_var (i := 4) rfl (.inl rfl))) (dw_or1 (dt_not (dt_val (de_is1T T.x.isV rfl T.g_isinstance rfl T.g_ValueError (by decide +kernel) (de_var (i := 3) rfl (.inl rfl))))))))
    (db_one (ds_ret de_str))
    db_nil)
   (db_cons (ds_if (dt_val (de_is1 (T.x.is1 (by decide +kernel)) rfl T.g_isinstance rfl T.g_BadPage (de_var (i := 3) rfl (.inl rfl))))
    (db_one (ds_ret (de_ifexp (dt_w (dw_and (dt_cmp op_isN o_isN (de_xf (fun c h => by cases (beq_iff_eq.mp h : c = "BadPage"); exact ⟨T.xf_BadPage, T.oe_BadPage.2⟩) (de_var (i := 3) rfl (.inl rfl))) de_non) (dw_and1 (dt_not (dt_val (de_is1 (T.x.is1 (by decide +kernel)) rfl T.g_isinstance rfl T.g_BadSize (de_var (i := 3) rfl (.inl rfl)))))))) de_str de_str)))
    db_nil)
   (db_one (ds_ret (de_ifexp (dt_val (de_is1 (T.x.is1 (by decide +kernel)) rfl T.g_isinstance rfl T.g_BadSize (de_var (i := 3) rfl (.inl rfl)))) de_str de_str)))))))))
  (db_one (ds_ret de_str))))
def N__law_many_rows : List Str := ["_law_number_here", "_law_keys", "_law_rows", "_law_page_here", "_law_due", "_law_long", "_law_k", "_law_key", "_law_way"]
theorem sc__law_many_rows : FnScope N__law_many_rows ["_law_number_here"] (defScope s__law_many_rows) := ⟨rfl, rfl, rfl, by decide +kernel, rfl, by decide +kernel, by decide +kernel⟩
def c1__law_many_rows : DE :=
  (dCall 2 f__law_digits (dCons (dVar 6) (dCons (dC (.int 2)) dNil)))
def c2__law_many_rows : DE :=
  (dTup (dCons (dVar 7) (dCons (dBin fIx (dLst (dCons (dTup (dCons (dC (.str "in")) (dCons (dC (.str "")) dNil))) (dCons (dTup (dCons (dC (.str "out")) (dCons (dBin fAdd (dC (.int 1)) (dBin fMod (dBin fFdiv (dVar 0) (dC (.int 2))) (dC (.int 400)))) (dCons (dC (.int 7)) dNil)))) dNil))) (dBin fMod (dBin fFdiv (dVar 0) (dC (.int 3))) (dC (.int 2)))) dNil)))
def c3__law_many_rows : DE :=
  (dCall 3 f__law_refused (dCons (dVar 8) (dCons (dVar 3) (dCons (dC (.int 200)) dNil))))
def l4__law_many_rows : DS :=
  (dSeq (dIf (dOr (dNot (dTest (dIsB (fun t => t == "bool") (dCall 1 f_is_page (dCons (dVar 3) dNil))))) (dTest (dBin fNe (dCall 1 f_is_page (dCons (dVar 3) dNil)) (dBin fEq (dBin fMod (dVar 0) (dC (.int 2))) (dC (.int 0))))))
    (dRet (dC (.bl false)))
    dNext)
   (dSeq (dAsg (dIfE (dTest (dBin fEq (dBin fMod (dVar 0) (dC (.int 2))) (dC (.int 1)))) (dLst (dCons (dC (.str "page")) (dCons (dC (.str "page")) (dCons (dC (.str "page")) dNil)))) (dLst (dCons (dC (.str "")) (dCons (dC (.str "")) (dCons (dC (.str "page")) dNil))))) (gSlot 4))
   (dIf (dTest (dBin fNe (dComp (dItR1 (dC (.int 3))) (gSlot 8) dYes c3__law_many_rows [8]) (dVar 4)))
    (dRet (dC (.bl false)))
    dNext)))
def c5__law_many_rows : DE :=
  (dAndV (dBin (fIsB false) (dCall 1 f_is_page (dCons (dVar 3) dNil)) (dC (.bl true))) (dBin fEq (dCall 1 f_body_of (dCons (dVar 3) dNil)) (dCall 1 f__law_body (dCons (dVar 3) dNil))))
def b__law_many_rows : DS :=
  (dSeq (dAsg (dCB (fSortTL false) (dCons (dComp (dItR1 (dBin fAdd (dC (.int 63)) (dBin fMod (dVar 0) (dC (.int 2))))) (gSlot 6) dYes c1__law_many_rows [6]) dNil)) (gSlot 1))
  (dSeq (dAsg (dComp (dItL (dVar 1)) (gSlot 7) dYes c2__law_many_rows [7]) (gSlot 2))
  (dSeq (dFor (dItL (dLst (dCons (dTup (dCons (dC (.str "leaf")) (dCons (dCB fTupOf (dCons (dVar 2) dNil)) dNil))) (dCons (dTup (dCons (dC (.str "fork")) (dCons (dCB fTupOf (dCons (dVar 1) dNil)) (dCons (dCB fTupOf (dCons (dBin (fRep false) (dLstA (dCons (dC (.int 5)) dNil)) (dBin fAdd (dCB fLen (dCons (dVar 1) dNil)) (dC (.int 1)))) dNil)) dNil)))) dNil)))) (gSlot 3)
   l4__law_many_rows)
  (dSeq (dAsg (dLst (dCons (dTup (dCons (dC (.str "leaf")) (dCons (dTup (dCons (dTup (dCons (dC (.str "a")) (dCons (dTup (dCons (dC (.str "in")) (dCons (dCall 2 f__law_text (dCons (dVar 0) (dCons (dC (.int 63)) dNil))) dNil))) dNil))) dNil)) dNil))) (dCons (dTup (dCons (dC (.str "rest")) (dCons (dCall 2 f__law_text (dCons (dVar 0) (dCons (dC (.int 400)) dNil))) (dCons (dBin fMod (dVar 0) (dC (.int 4096))) dNil)))) dNil))) (gSlot 5))
  (dRet (dCB fAll (dCons (dComp (dItL (dVar 5)) (gSlot 3) dYes c5__law_many_rows [3]) dNil)))))))
def f__law_many_rows : FN := runB 9 b__law_many_rows
theorem ok__law_many_rows (T : Top K mg) : DefOk md P w K mg base 9 "_law_many_rows" 1 f__law_many_rows := by
  obtain ⟨fd, G⟩ := T.d__law_many_rows
  refine def_by T.g__law_many_rows G sc__law_many_rows rfl (fun _ _ _ _ _ _ us hl => match us, hl with | [_], _ => rfl) (fun cdv A outer s H E hr tk hp =>
  (db_cons (ds_set sc__law_many_rows.nd (i := 1) rfl (.inl rfl) (de_callB cr_sortTL o_sortTL rfl T.g_sorted (by decide +kernel) (da_cons (de_comp (own := [("_law_k", 6)]) rfl sc__law_many_rows.nd (di_range1 rfl T.g_range (de_bin opr_add o_add de_int (de_bin op_mod o_mod (de_var (i := 0) rfl (.inr (.inl rfl))) de_int))) (show BlkOk N__law_many_rows (defScope s__law_many_rows) _ _ from blk_of (by decide +kernel)) (fun _ _ _ _ _ => (dc_name sc__law_many_rows.nd rfl (.inl rfl) (by simp))) (fun _ _ _ _ _ => dp_nil) (fun _ _ _ _ _ => (de_call (ok__law_digits T) (hr.mono (by decide)) (takes_f (m := .a)) rfl (da_cons (de_var (i := 6) rfl (.inl rfl)) (da_cons de_int da_nil))))) da_nil)))
  (db_cons (ds_setComp (own := [("_law_key", 7)]) rfl sc__law_many_rows.nd (i := 2) rfl rfl rfl (di_list (de_var (i := 1) rfl (.inl rfl))) (show BlkOk N__law_many_rows (defScope s__law_many_rows) _ _ from blk_of (by decide +kernel)) (fun _ _ _ _ _ => (dc_name sc__law_many_rows.nd rfl (.inl rfl) (by simp))) (fun _ _ _ _ _ => dp_nil) (fun _ _ _ _ _ => (de_tup (da_cons (de_var (i := 7) rfl (.inl rfl)) (da_cons (de_ix (de_lst (da_cons (de_tup (da_cons de_str (da_cons de_str da_nil))) (da_cons (de_tup (da_cons de_str (da_cons (de_bin opr_add o_add de_int (de_bin op_mod o_mod (de_bin op_fdiv o_fdiv (de_var (i := 0) rfl (.inr (.inl rfl))) de_int) de_int)) (da_cons de_int da_nil)))) da_nil))) (de_bin op_mod o_mod (de_bin op_fdiv o_fdiv (de_var (i := 0) rfl (.inr (.inl rfl))) de_int) de_int)) da_nil)))))
  (db_cons (ds_for hp rfl (di_list (de_lst (da_cons (de_tup (da_cons de_str (da_cons (de_callTy call_tuple_of o_tupOf rfl T.g_tuple (by decide +kernel) (da_cons (de_var (i := 2) rfl (.inl rfl)) da_nil)) da_nil))) (da_cons (de_tup (da_cons de_str (da_cons (de_callTy call_tuple_of o_tupOf rfl T.g_tuple (by decide +kernel) (da_cons (de_var (i := 1) rfl (.inl rfl)) da_nil)) (da_cons (de_callTy call_tuple_of o_tupOf rfl T.g_tuple (by decide +kernel) (da_cons (de_bin opr_rep o_rep (de_lstA (da_cons de_int da_nil)) (de_bin opr_add o_add (de_callB c_len o_len rfl T.g_len (by decide +kernel) (da_cons (de_var (i := 1) rfl (.inl rfl)) da_nil)) de_int)) da_nil)) da_nil)))) da_nil)))) (dg_name sc__law_many_rows.nd (i := 3) rfl (.inr rfl))
   (db_cons (ds_if (dt_w (dw_or (dt_not (dt_val (de_isiB (T := "bool") (by decide +kernel) rfl T.g_isinstance rfl T.g_bool (by decide +kernel) (de_call (ok_is_page T) (hr.mono (by decide)) tk rfl (da_cons (de_var (i := 3) rfl (.inr (.inl rfl))) da_nil))))) (dw_or1 (dt_cmp (op_neD hr.units) o_ne (de_call (ok_is_page T) (hr.mono (by decide)) tk rfl (da_cons (de_var (i := 3) rfl (.inr (.inl rfl))) da_nil)) (de_cmp (op_eqD hr.units) o_eq (de_bin op_mod o_mod (de_var (i := 0) rfl (.inr (.inl rfl))) de_int) de_int)))))
    (db_one (ds_ret de_bl))
    db_nil)
   (db_cons (ds_set sc__law_many_rows.nd (i := 4) rfl (.inl rfl) (de_ifexp (dt_cmp (op_eqD hr.units) o_eq (de_bin op_mod o_mod (de_var (i := 0) rfl (.inr (.inl rfl))) de_int) de_int) (de_lst (da_cons de_str (da_cons de_str (da_cons de_str da_nil)))) (de_lst (da_cons de_str (da_cons de_str (da_cons de_str da_nil))))))
   (db_one (ds_if (dt_cmp (op_neD hr.units) o_ne (de_comp (own := [("_law_way", 8)]) rfl sc__law_many_rows.nd (di_range1 rfl T.g_range de_int) (show BlkOk N__law_many_rows (defScope s__law_many_rows) _ _ from blk_of (by decide +kernel)) (fun _ _ _ _ _ => (dc_name sc__law_many_rows.nd rfl (.inl rfl) (by simp))) (fun _ _ _ _ _ => dp_nil) (fun _ _ _ _ _ => (de_call (ok__law_refused T) (hr.mono (by decide)) (takes_f (m := .a)) rfl (da_cons (de_var (i := 8) rfl (.inl rfl)) (da_cons (de_var (i := 3) rfl (.inr (.inl rfl))) (da_cons de_int da_nil)))))) (de_var (i := 4) rfl (.inl rfl)))
    (db_one (ds_ret de_bl))
    db_nil)))))
  (db_cons (ds_set sc__law_many_rows.nd (i := 5) rfl (.inl rfl) (de_lst (da_cons (de_tup (da_cons de_str (da_cons (de_tup (da_cons (de_tup (da_cons de_str (da_cons (de_tup (da_cons de_str (da_cons (de_call (ok__law_text T) (hr.mono (by decide)) tk rfl (da_cons (de_var (i := 0) rfl (.inr (.inl rfl))) (da_cons de_int da_nil))) da_nil))) da_nil))) da_nil)) da_nil))) (da_cons (de_tup (da_cons de_str (da_cons (de_call (ok__law_text T) (hr.mono (by decide)) tk rfl (da_cons (de_var (i := 0) rfl (.inr (.inl rfl))) (da_cons de_int da_nil))) (da_cons (de_bin op_mod o_mod (de_var (i := 0) rfl (.inr (.inl rfl))) de_int) da_nil)))) da_nil))))
  (db_one (ds_ret (de_callB (cr_all rfl) o_all rfl T.g_all (by decide +kernel) (da_cons (de_comp (own := [("_law_page_here", 3)]) rfl sc__law_many_rows.nd (di_list (de_var (i := 5) rfl (.inl rfl))) (show BlkOk N__law_many_rows (defScope s__law_many_rows) _ _ from blk_of (by decide +kernel)) (fun _ _ _ _ _ => (dc_name sc__law_many_rows.nd rfl (.inl rfl) (by simp))) (fun _ _ _ _ _ => dp_nil) (fun _ _ _ _ _ => (de_and (de_cmp op_is_bl o_isB (de_call (ok_is_page T) (hr.mono (by decide)) (takes_f (m := .a)) rfl (da_cons (de_var (i := 3) rfl (.inl rfl)) da_nil)) de_bl) (de_one (de_cmp (op_eqD hr.units) o_eq (de_call (ok_body_of T) (hr.mono (by decide)) (takes_f (m := .a)) rfl (da_cons (de_var (i := 3) rfl (.inl rfl)) da_nil)) (de_call (ok__law_body T) (hr.mono (by decide)) (takes_f (m := .a)) rfl (da_cons (de_var (i := 3) rfl (.inl rfl)) da_nil))))))) da_nil)))))))))
def N__law_spoilt : List Str := ["_law_state", "_law_thing", "_law_number_here", "_law_at"]
theorem sc__law_spoilt : FnScope N__law_spoilt ["_law_state", "_law_thing"] (defScope s__law_spoilt) := ⟨rfl, rfl, rfl, by decide +kernel, rfl, by decide +kernel, by decide +kernel⟩
def b__law_spoilt (F : FN) : DS :=
  (dSeq (dAsg (dCall 1 f__law_next (dCons (dVar 0) dNil)) (gSlot 2))
  (dSeq (dIf (dOr (dNot (dTest (dIsB (fun t => t == "tuple") (dVar 1)))) (dOr (dTest (dBin fEq (dVar 1) (dTup dNil))) (dTest (dBin fEq (dBin fMod (dVar 2) (dC (.int 4))) (dC (.int 0))))))
   (dRet (dCall 2 f__law_odd (dCons (dBin fFdiv (dVar 2) (dC (.int 4))) (dCons (dVar 1) dNil))))
   dNext)
  (dSeq (dAsg (dBin fMod (dBin fFdiv (dVar 2) (dC (.int 4))) (dCB fLen (dCons (dVar 1) dNil))) (gSlot 3))
  (dRet (dBin (fCat false) (dBin (fCat false) (dSl (dVar 1) dNoPart (dPart (dVar 3))) (dTup (dCons (dCall 2 F (dCons (dVar 0) (dCons (dBin fIx (dVar 1) (dVar 3)) dNil))) dNil))) (dSl (dVar 1) (dPart (dBin fAdd (dVar 3) (dC (.int 1)))) dNoPart))))))
def f__law_spoilt : Nat → FN
  | 0 => runB 4 dNo
  | n + 1 => runB 4 (b__law_spoilt (f__law_spoilt n))
theorem ok__law_spoilt (T : Top K mg) : ∀ n : Nat, DefOk md P w K mg base (3 + n) "_law_spoilt" 2 (f__law_spoilt n)
  | 0 => by
    obtain ⟨fd, G⟩ := T.d__law_spoilt
    exact def_by T.g__law_spoilt G sc__law_spoilt rfl (fun _ _ _ _ _ _ us hl => match us, hl with | [_, _], _ => rfl) (fun cdv A outer s H E hr tk hp => db_no)
  | n + 1 => by
    obtain ⟨fd, G⟩ := T.d__law_spoilt
    refine def_by (k := 3 + n) T.g__law_spoilt G sc__law_spoilt rfl (fun _ _ _ _ _ _ us hl => match us, hl with | [_, _], _ => rfl) (fun cdv A outer s H E hr tk hp =>
  (db_cons (ds_set sc__law_spoilt.nd (i := 2) rfl (.inl rfl) (de_call (ok__law_next T) (hr.mono (by omega)) tk rfl (da_cons (de_var (i := 0) rfl (.inl rfl)) da_nil)))
  (db_cons (ds_if (dt_w (dw_or (dt_not (dt_val (de_isiB (T := "tuple") (by decide +kernel) rfl T.g_isinstance rfl T.g_tuple (by decide +kernel) (de_var (i := 1) rfl (.inl rfl))))) (dw_or (dt_cmp (op_eqD hr.units) o_eq (de_var (i := 1) rfl (.inl rfl)) (de_tup da_nil)) (dw_or1 (dt_cmp (op_eqD hr.units) o_eq (de_bin op_mod o_mod (de_var (i := 2) rfl (.inl rfl)) de_int) de_int)))))
   (db_one (ds_ret (de_call (ok__law_odd T) (hr.mono (by omega)) tk rfl (da_cons (de_bin op_fdiv o_fdiv (de_var (i := 2) rfl (.inl rfl)) de_int) (da_cons (de_var (i := 1) rfl (.inl rfl)) da_nil)))))
   db_nil)
  (db_cons (ds_set sc__law_spoilt.nd (i := 3) rfl (.inl rfl) (de_bin op_mod o_mod (de_bin op_fdiv o_fdiv (de_var (i := 2) rfl (.inl rfl)) de_int) (de_callB c_len o_len rfl T.g_len (by decide +kernel) (da_cons (de_var (i := 1) rfl (.inl rfl)) da_nil))))
  (db_one (ds_ret (de_bin opr_cat o_cat (de_bin opr_cat o_cat (de_sl (de_var (i := 1) rfl (.inl rfl)) do_none (do_some (de_var (i := 3) rfl (.inl rfl)))) (de_tup (da_cons (de_call (ok__law_spoilt T n) (hr.mono (by omega)) tk rfl (da_cons (de_var (i := 0) rfl (.inl rfl)) (da_cons (de_ix (de_var (i := 1) rfl (.inl rfl)) (de_var (i := 3) rfl (.inl rfl))) da_nil))) da_nil))) (de_sl (de_var (i := 1) rfl (.inl rfl)) (do_some (de_bin opr_add o_add (de_var (i := 3) rfl (.inl rfl)) de_int)) do_none))))))))
def N_law : List Str := ["_law_script", "_law_state", "_law_number_here", "_law_long", "_law_thing", "_law_odd_here", "_law_size", "_law_page_here", "_law_kept", "_law_bad", "_law_one", "_law_way"]
theorem sc_law : FnScope N_law ["_law_script"] (defScope s_law) := ⟨rfl, rfl, rfl, by decide +kernel, rfl, by decide +kernel, by decide +kernel⟩
def l1_law : DS :=
  (dIf (dNot (dTest (dCall 2 f__law_looks (dCons (dVar 4) (dCons (dC (.int 64)) dNil)))))
    (dRet (dC (.bl false)))
    dNext)
def c2_law : DE :=
  (dCall 2 f__law_looks (dCons (dVar 10) (dCons (dVar 6) dNil)))
def c3_law : DE :=
  (dCall 3 f__law_refused (dCons (dVar 11) (dCons (dVar 4) (dCons (dVar 9) dNil))))
def b_law : DS :=
  (dSeq (dAsg (dDisp [(.inr "cells", (dVar 0)), (.inr "at", (dC (.int 0)))]) (gSlot 1))
  (dSeq (dAsg (dCall 1 f__law_next (dCons (dVar 1) dNil)) (gSlot 2))
  (dSeq (dAsg (dCall 2 f__law_text (dCons (dVar 2) (dCons (dBin fIx (dLst (dCons (dC (.int 400)) (dCons (dC (.int 401)) (dCons (dC (.int 12)) (dCons (dC (.int 13)) dNil))))) (dBin fMod (dBin fFdiv (dVar 2) (dC (.int 15))) (dC (.int 4)))) dNil))) (gSlot 3))
  (dSeq (dFor (dItL (dLst (dCons (dCall 2 f__law_text (dCons (dVar 2) (dCons (dBin fMod (dVar 2) (dC (.int 15))) dNil))) (dCons (dVar 3) (dCons (dC (.int 63)) (dCons (dC (.int 64)) (dCons (dC (.int 200)) (dCons (dC (.int 201)) dNil)))))))) (gSlot 4)
   l1_law)
  (dSeq (dAsg (dBin fIx (dLst (dCons (dC .non) (dCons (dC (.bl true)) (dCons (dC (.str "64")) (dCons (dLst dNil) (dCons (dLst (dCons (dC (.str "a")) dNil)) (dCons (dTup (dCons (dC (.str "a")) dNil)) (dCons dNewDic (dCons (dC (.str "a\n")) (dCons (dC (.str "\t")) (dCons (dBin fMod (dVar 2) (dC (.int 300))) dNil))))))))))) (dBin fMod (dBin fFdiv (dVar 2) (dC (.int 60))) (dC (.int 10)))) (gSlot 5))
  (dSeq (dIf (dNot (dTest (dCall 2 f__law_looks (dCons (dVar 5) (dCons (dC (.int 64)) dNil)))))
   (dRet (dC (.bl false)))
   dNext)
  (dSeq (dIf (dAnd (dTest (dBin fEq (dBin fMod (dBin fFdiv (dVar 2) (dC (.int 5))) (dC (.int 9))) (dC (.int 1)))) (dNot (dTest (dCall 1 f__law_many_rows (dCons (dBin fFdiv (dVar 2) (dC (.int 45))) dNil)))))
   (dRet (dC (.bl false)))
   dNext)
  (dSeq (dAsg (dBin fAdd (dC (.int 64)) (dBin fMod (dBin fFdiv (dVar 2) (dC (.int 7))) (dC (.int 137)))) (gSlot 6))
  (dSeq (dAsg (dCall 2 f__law_page (dCons (dVar 1) (dCons (dVar 6) dNil))) (gSlot 7))
  (dSeq (dAsg (dVar 7) (gSlot 4))
  (dSeq (dIf (dTest (dBin fGtX (dBin fMod (dBin fFdiv (dVar 2) (dC (.int 1000))) (dC (.int 3))) (dC (.int 0))))
   (dAsg (dCall 2 (f__law_spoilt 8) (dCons (dVar 1) (dCons (dVar 7) dNil))) (gSlot 4))
   dNext)
  (dSeq (dAsg (dCB fRepr (dCons (dVar 4) dNil)) (gSlot 8))
  (dSeq (dIf (dOr (dNot (dTest (dCall 2 f__law_looks (dCons (dVar 4) (dCons (dVar 6) dNil))))) (dNot (dTest (dCall 2 f__law_looks (dCons (dVar 7) (dCons (dVar 6) dNil))))))
   (dRet (dC (.bl false)))
   dNext)
  (dSeq (dIf (dAnd (dTest (dBin (fInL false) (dBin fIx (dVar 7) (dC (.int 0))) (dTup (dCons (dC (.str "leaf")) (dCons (dC (.str "fork")) dNil))))) (dTest (dBin fNe (dBin fIx (dVar 7) (dC (.int 1))) (dTup dNil))))
   (dIf (dNot (dTest (dCB fAll (dCons (dComp (dItL (dCall 2 f__law_bent (dCons (dVar 7) (dCons (dVar 2) dNil)))) (gSlot 10) dYes c2_law [10]) dNil))))
    (dRet (dC (.bl false)))
    dNext)
   dNext)
  (dSeq (dAsg (dBin fIx (dLst (dCons (dC (.int 63)) (dCons (dC (.int 201)) (dCons (dC .non) (dCons (dC (.str "64")) (dCons (dC (.bl true)) (dCons (dUn fNeg (dC (.int 5))) (dCons (dBin fAdd (dC (.int 201)) (dVar 2)) dNil)))))))) (dBin fMod (dBin fFdiv (dVar 2) (dC (.int 9))) (dC (.int 7)))) (gSlot 9))
  (dSeq (dIf (dNot (dTest (dCall 1 f__law_is_page (dCons (dVar 4) dNil))))
   (dIf (dTest (dBin fNe (dComp (dItR1 (dC (.int 3))) (gSlot 11) dYes c3_law [11]) (dBin (fRep false) (dLstA (dCons (dC (.str "page")) dNil)) (dC (.int 3)))))
    (dRet (dC (.bl false)))
    dNext)
   (dIf (dTest (dBin fNe (dCall 3 f__law_refused (dCons (dC (.int 2)) (dCons (dVar 4) (dCons (dVar 9) dNil)))) (dC (.str "size"))))
    (dRet (dC (.bl false)))
    dNext))
  (dRet (dBin fEqS (dCB fRepr (dCons (dVar 4) dNil)) (dVar 8)))))))))))))))))))
def f_law : FN := runB 12 b_law
theorem fn_law (T : Top K mg) {fd : FuncData} (G : FunD K "law" "law" (defArgs s_law) (defBody s_law) (defScope s_law) [] [] (He.ga K "law") fd) : RunG P w K mg base (L2.CX P w) 12 (He.ga K "law") fd ["_law_script"] (SpD K 1 f_law) := by
  refine run_by (m := .a) (ps := ["_law_script"]) G sc_law (fun cdv A outer s H E hg hr tk hp =>
  (db_cons (ds_set sc_law.nd (i := 1) rfl (.inl rfl) (de_disp (dpp_str (de_var (i := 0) rfl (.inl rfl)) (dpp_str de_int dpp_nil)) rfl rfl (by simp) (by decide)))
  (db_cons (ds_set sc_law.nd (i := 2) rfl (.inl rfl) (de_call (ok__law_next T) (hr.mono (by decide)) tk rfl (da_cons (de_var (i := 1) rfl (.inl rfl)) da_nil)))
  (db_cons (ds_set sc_law.nd (i := 3) rfl (.inl rfl) (de_call (ok__law_text T) (hr.mono (by decide)) tk rfl (da_cons (de_var (i := 2) rfl (.inl rfl)) (da_cons (de_ix (de_lst (da_cons de_int (da_cons de_int (da_cons de_int (da_cons de_int da_nil))))) (de_bin op_mod o_mod (de_bin op_fdiv o_fdiv (de_var (i := 2) rfl (.inl rfl)) de_int) de_int)) da_nil))))
  (db_cons (ds_for hp rfl (di_list (de_lst (da_cons (de_call (ok__law_text T) (hr.mono (by decide)) tk rfl (da_cons (de_var (i := 2) rfl (.inl rfl)) (da_cons (de_bin op_mod o_mod (de_var (i := 2) rfl (.inl rfl)) de_int) da_nil))) (da_cons (de_var (i := 3) rfl (.inl rfl)) (da_cons de_int (da_cons de_int (da_cons de_int (da_cons de_int da_nil)))))))) (dg_name sc_law.nd (i := 4) rfl (.inr rfl))
   (db_one (ds_if (dt_not (dt_val (de_call (ok__law_looks T) (hr.mono (by decide)) tk rfl (da_cons (de_var (i := 4) rfl (.inr (.inl rfl))) (da_cons de_int da_nil)))))
    (db_one (ds_ret de_bl))
    db_nil)))
  (db_cons (ds_set sc_law.nd (i := 5) rfl (.inl rfl) (de_ix (de_lst (da_cons de_non (da_cons de_bl (da_cons de_str (da_cons (de_lst da_nil) (da_cons (de_lst (da_cons de_str da_nil)) (da_cons (de_tup (da_cons de_str da_nil)) (da_cons de_dnewA (da_cons de_str (da_cons de_str (da_cons (de_bin op_mod o_mod (de_var (i := 2) rfl (.inl rfl)) de_int) da_nil))))))))))) (de_bin op_mod o_mod (de_bin op_fdiv o_fdiv (de_var (i := 2) rfl (.inl rfl)) de_int) de_int)))
  (db_cons (ds_if (dt_not (dt_val (de_call (ok__law_looks T) (hr.mono (by decide)) tk rfl (da_cons (de_var (i := 5) rfl (.inl rfl)) (da_cons de_int da_nil)))))
   (db_one (ds_ret de_bl))
   db_nil)
  (db_cons (ds_if (dt_w (dw_and (dt_cmp (op_eqD hr.units) o_eq (de_bin op_mod o_mod (de_bin op_fdiv o_fdiv (de_var (i := 2) rfl (.inl rfl)) de_int) de_int) de_int) (dw_and1 (dt_not (dt_val (de_call (ok__law_many_rows T) (hr.mono (by decide)) tk rfl (da_cons (de_bin op_fdiv o_fdiv (de_var (i := 2) rfl (.inl rfl)) de_int) da_nil)))))))
   (db_one (ds_ret de_bl))
   db_nil)
  (db_cons (ds_set sc_law.nd (i := 6) rfl (.inr rfl) (de_bin opr_add o_add de_int (de_bin op_mod o_mod (de_bin op_fdiv o_fdiv (de_var (i := 2) rfl (.inl rfl)) de_int) de_int)))
  (db_cons (ds_set sc_law.nd (i := 7) rfl (.inl rfl) (de_call (ok__law_page T) (hr.mono (by decide)) tk rfl (da_cons (de_var (i := 1) rfl (.inl rfl)) (da_cons (de_var (i := 6) rfl (.inr (.inl rfl))) da_nil))))
  (db_cons (ds_set sc_law.nd (i := 4) rfl (.inr rfl) (de_var (i := 7) rfl (.inl rfl)))
  (db_cons (ds_if (dt_cmp opr_gtX o_gtX (de_bin op_mod o_mod (de_bin op_fdiv o_fdiv (de_var (i := 2) rfl (.inl rfl)) de_int) de_int) de_int)
   (db_one (ds_set sc_law.nd (i := 4) rfl (.inr rfl) (de_call (ok__law_spoilt T 8) (hr.mono (by decide)) tk rfl (da_cons (de_var (i := 1) rfl (.inl rfl)) (da_cons (de_var (i := 7) rfl (.inl rfl)) da_nil)))))
   db_nil)
  (db_cons (ds_set sc_law.nd (i := 8) rfl (.inl rfl) (de_callB (c_repr hg hr.units) o_repr rfl T.g_repr (by decide +kernel) (da_cons (de_var (i := 4) rfl (.inr (.inl rfl))) da_nil)))
  (db_cons (ds_if (dt_w (dw_or (dt_not (dt_val (de_call (ok__law_looks T) (hr.mono (by decide)) tk rfl (da_cons (de_var (i := 4) rfl (.inr (.inl rfl))) (da_cons (de_var (i := 6) rfl (.inr (.inl rfl))) da_nil))))) (dw_or1 (dt_not (dt_val (de_call (ok__law_looks T) (hr.mono (by decide)) tk rfl (da_cons (de_var (i := 7) rfl (.inl rfl)) (da_cons (de_var (i := 6) rfl (.inr (.inl rfl))) da_nil))))))))
   (db_one (ds_ret de_bl))
   db_nil)
  (db_cons (ds_if (dt_w (dw_and (dt_cmp op_in_seq o_inL (de_ix (de_var (i := 7) rfl (.inl rfl)) de_int) (de_tup (da_cons de_str (da_cons de_str da_nil)))) (dw_and1 (dt_cmp (op_neD hr.units) o_ne (de_ix (de_var (i := 7) rfl (.inl rfl)) de_int) (de_tup da_nil)))))
   (db_one (ds_if (dt_not (dt_val (de_callB (cr_all rfl) o_all rfl T.g_all (by decide +kernel) (da_cons (de_comp (own := [("_law_one", 10)]) rfl sc_law.nd (di_list (de_call (ok__law_bent T) (hr.mono (by decide)) tk rfl (da_cons (de_var (i := 7) rfl (.inl rfl)) (da_cons (de_var (i := 2) rfl (.inl rfl)) da_nil)))) (show BlkOk N_law (defScope s_law) _ _ from blk_of (by decide +kernel)) (fun _ _ _ _ _ => (dc_name sc_law.nd rfl (.inl rfl) (by simp))) (fun _ _ _ _ _ => dp_nil) (fun _ _ _ _ _ => (de_call (ok__law_looks T) (hr.mono (by decide)) (takes_f (m := .a)) rfl (da_cons (de_var (i := 10) rfl (.inl rfl)) (da_cons (de_var (i := 6) rfl (.inr (.inl rfl))) da_nil))))) da_nil))))
    (db_one (ds_ret de_bl))
    db_nil))
   db_nil)
  (db_cons (ds_set sc_law.nd (i := 9) rfl (.inr rfl) (de_ix (de_lst (da_cons de_int (da_cons de_int (da_cons de_non (da_cons de_str (da_cons de_bl (da_cons (de_un un_neg o_neg de_int) (da_cons (de_bin opr_add o_add de_int (de_var (i := 2) rfl (.inl rfl))) da_nil)))))))) (de_bin op_mod o_mod (de_bin op_fdiv o_fdiv (de_var (i := 2) rfl (.inl rfl)) de_int) de_int)))
  (db_cons (ds_if (dt_not (dt_val (de_call (ok__law_is_page T) (hr.mono (by decide)) tk rfl (da_cons (de_var (i := 4) rfl (.inr (.inl rfl))) da_nil))))
   (db_one (ds_if (dt_cmp (op_neD hr.units) o_ne (de_comp (own := [("_law_way", 11)]) rfl sc_law.nd (di_range1 rfl T.g_range de_int) (show BlkOk N_law (defScope s_law) _ _ from blk_of (by decide +kernel)) (fun _ _ _ _ _ => (dc_name sc_law.nd rfl (.inl rfl) (by simp))) (fun _ _ _ _ _ => dp_nil) (fun _ _ _ _ _ => (de_call (ok__law_refused T) (hr.mono (by decide)) (takes_f (m := .a)) rfl (da_cons (de_var (i := 11) rfl (.inl rfl)) (da_cons (de_var (i := 4) rfl (.inr (.inl rfl))) (da_cons (de_var (i := 9) rfl (.inr (.inl rfl))) da_nil)))))) (de_bin opr_rep o_rep (de_lstA (da_cons de_str da_nil)) de_int))
    (db_one (ds_ret de_bl))
    db_nil))
   (db_one (ds_if (dt_cmp (op_neD hr.units) o_ne (de_call (ok__law_refused T) (hr.mono (by decide)) tk rfl (da_cons de_int (da_cons (de_var (i := 4) rfl (.inr (.inl rfl))) (da_cons (de_var (i := 9) rfl (.inr (.inl rfl))) da_nil)))) de_str)
    (db_one (ds_ret de_bl))
    db_nil)))
  (db_one (ds_ret (de_cmp op_eq o_eqS (de_callB (c_repr hg hr.units) o_repr rfl T.g_repr (by decide +kernel) (da_cons (de_var (i := 4) rfl (.inr (.inl rfl))) da_nil)) (de_var (i := 8) rfl (.inl rfl)))))))))))))))))))))) (fun _ _ _ _ => rfl)
end
def dd_BadPage___init__ : He.DefD := ⟨("BadPage", some "__init__"), "__init__", "BadPage.__init__", defArgs s_BadPage___init__, defBody s_BadPage___init__, defScope s_BadPage___init__, [.non], []⟩
def dd_is_whole : He.DefD := ⟨("is_whole", none), "is_whole", "is_whole", defArgs s_is_whole, defBody s_is_whole, defScope s_is_whole, [], []⟩
def dd_is_text : He.DefD := ⟨("is_text", none), "is_text", "is_text", defArgs s_is_text, defBody s_is_text, defScope s_is_text, [], []⟩
def dd_Head___init__ : He.DefD := ⟨("Head", some "__init__"), "__init__", "Head.__init__", defArgs s_Head___init__, defBody s_Head___init__, defScope s_Head___init__, [], []⟩
def dd_Head_letter : He.DefD := ⟨("Head", some "letter"), "letter", "Head.letter", defArgs s_Head_letter, defBody s_Head_letter, defScope s_Head_letter, [], []⟩
def dd_Head_leads : He.DefD := ⟨("Head", some "leads"), "leads", "Head.leads", defArgs s_Head_leads, defBody s_Head_leads, defScope s_Head_leads, [], []⟩
def dd_Leaf___init__ : He.DefD := ⟨("Leaf", some "__init__"), "__init__", "Leaf.__init__", defArgs s_Leaf___init__, defBody s_Leaf___init__, defScope s_Leaf___init__, [], []⟩
def dd_Leaf_letter : He.DefD := ⟨("Leaf", some "letter"), "letter", "Leaf.letter", defArgs s_Leaf_letter, defBody s_Leaf_letter, defScope s_Leaf_letter, [], []⟩
def dd_Leaf_leads : He.DefD := ⟨("Leaf", some "leads"), "leads", "Leaf.leads", defArgs s_Leaf_leads, defBody s_Leaf_leads, defScope s_Leaf_leads, [], []⟩
def dd_Fork___init__ : He.DefD := ⟨("Fork", some "__init__"), "__init__", "Fork.__init__", defArgs s_Fork___init__, defBody s_Fork___init__, defScope s_Fork___init__, [], []⟩
def dd_Fork_letter : He.DefD := ⟨("Fork", some "letter"), "letter", "Fork.letter", defArgs s_Fork_letter, defBody s_Fork_letter, defScope s_Fork_letter, [], []⟩
def dd_Fork_leads : He.DefD := ⟨("Fork", some "leads"), "leads", "Fork.leads", defArgs s_Fork_leads, defBody s_Fork_leads, defScope s_Fork_leads, [], []⟩
def dd_Rest___init__ : He.DefD := ⟨("Rest", some "__init__"), "__init__", "Rest.__init__", defArgs s_Rest___init__, defBody s_Rest___init__, defScope s_Rest___init__, [], []⟩
def dd_Rest_letter : He.DefD := ⟨("Rest", some "letter"), "letter", "Rest.letter", defArgs s_Rest_letter, defBody s_Rest_letter, defScope s_Rest_letter, [], []⟩
def dd_Rest_leads : He.DefD := ⟨("Rest", some "leads"), "leads", "Rest.leads", defArgs s_Rest_leads, defBody s_Rest_leads, defScope s_Rest_leads, [], []⟩
def dd_Free___init__ : He.DefD := ⟨("Free", some "__init__"), "__init__", "Free.__init__", defArgs s_Free___init__, defBody s_Free___init__, defScope s_Free___init__, [], []⟩
def dd_Free_letter : He.DefD := ⟨("Free", some "letter"), "letter", "Free.letter", defArgs s_Free_letter, defBody s_Free_letter, defScope s_Free_letter, [], []⟩
def dd_Free_leads : He.DefD := ⟨("Free", some "leads"), "leads", "Free.leads", defArgs s_Free_leads, defBody s_Free_leads, defScope s_Free_leads, [], []⟩
def dd_has_word : He.DefD := ⟨("has_word", none), "has_word", "has_word", defArgs s_has_word, defBody s_has_word, defScope s_has_word, [], []⟩
def dd__law_cell_at : He.DefD := ⟨("_law_cell_at", none), "_law_cell_at", "_law_cell_at", defArgs s__law_cell_at, defBody s__law_cell_at, defScope s__law_cell_at, [], []⟩
def dd__law_signs : He.DefD := ⟨("_law_signs", none), "_law_signs", "_law_signs", defArgs s__law_signs, defBody s__law_signs, defScope s__law_signs, [], []⟩
def dd__law_digits : He.DefD := ⟨("_law_digits", none), "_law_digits", "_law_digits", defArgs s__law_digits, defBody s__law_digits, defScope s__law_digits, [], []⟩
def dd__law_number : He.DefD := ⟨("_law_number", none), "_law_number", "_law_number", defArgs s__law_number, defBody s__law_number, defScope s__law_number, [], []⟩
def dd__law_odd : He.DefD := ⟨("_law_odd", none), "_law_odd", "_law_odd", defArgs s__law_odd, defBody s__law_odd, defScope s__law_odd, [], []⟩
def dd__law_bent : He.DefD := ⟨("_law_bent", none), "_law_bent", "_law_bent", defArgs s__law_bent, defBody s__law_bent, defScope s__law_bent, [], []⟩
def dd_digits : He.DefD := ⟨("digits", none), "digits", "digits", defArgs s_digits, defBody s_digits, defScope s_digits, [], []⟩
def dd_is_number : He.DefD := ⟨("is_number", none), "is_number", "is_number", defArgs s_is_number, defBody s_is_number, defScope s_is_number, [.int 0], []⟩
def dd_is_key : He.DefD := ⟨("is_key", none), "is_key", "is_key", defArgs s_is_key, defBody s_is_key, defScope s_is_key, [], []⟩
def dd_is_value : He.DefD := ⟨("is_value", none), "is_value", "is_value", defArgs s_is_value, defBody s_is_value, defScope s_is_value, [], []⟩
def dd_is_size : He.DefD := ⟨("is_size", none), "is_size", "is_size", defArgs s_is_size, defBody s_is_size, defScope s_is_size, [], []⟩
def dd__law_next : He.DefD := ⟨("_law_next", none), "_law_next", "_law_next", defArgs s__law_next, defBody s__law_next, defScope s__law_next, [], []⟩
def dd__law_text : He.DefD := ⟨("_law_text", none), "_law_text", "_law_text", defArgs s__law_text, defBody s__law_text, defScope s__law_text, [], []⟩
def dd__law_body : He.DefD := ⟨("_law_body", none), "_law_body", "_law_body", defArgs s__law_body, defBody s__law_body, defScope s__law_body, [], []⟩
def dd__law_good_text : He.DefD := ⟨("_law_good_text", none), "_law_good_text", "_law_good_text", defArgs s__law_good_text, defBody s__law_good_text, defScope s__law_good_text, [], []⟩
def dd_check_of : He.DefD := ⟨("check_of", none), "check_of", "check_of", defArgs s_check_of, defBody s_check_of, defScope s_check_of, [], []⟩
def dd_are_keys : He.DefD := ⟨("are_keys", none), "are_keys", "are_keys", defArgs s_are_keys, defBody s_are_keys, defScope s_are_keys, [], []⟩
def dd_is_cell : He.DefD := ⟨("is_cell", none), "is_cell", "is_cell", defArgs s_is_cell, defBody s_is_cell, defScope s_is_cell, [], []⟩
def dd_cell_body : He.DefD := ⟨("cell_body", none), "cell_body", "cell_body", defArgs s_cell_body, defBody s_cell_body, defScope s_cell_body, [], []⟩
def dd_key_body : He.DefD := ⟨("key_body", none), "key_body", "key_body", defArgs s_key_body, defBody s_key_body, defScope s_key_body, [], []⟩
def dd_Head_body : He.DefD := ⟨("Head", some "body"), "body", "Head.body", defArgs s_Head_body, defBody s_Head_body, defScope s_Head_body, [], []⟩
def dd_Rest_body : He.DefD := ⟨("Rest", some "body"), "body", "Rest.body", defArgs s_Rest_body, defBody s_Rest_body, defScope s_Rest_body, [], []⟩
def dd_Free_body : He.DefD := ⟨("Free", some "body"), "body", "Free.body", defArgs s_Free_body, defBody s_Free_body, defScope s_Free_body, [], []⟩
def dd_need_size : He.DefD := ⟨("need_size", none), "need_size", "need_size", defArgs s_need_size, defBody s_need_size, defScope s_need_size, [], []⟩
def dd__law_rising : He.DefD := ⟨("_law_rising", none), "_law_rising", "_law_rising", defArgs s__law_rising, defBody s__law_rising, defScope s__law_rising, [], []⟩
def dd__law_cell : He.DefD := ⟨("_law_cell", none), "_law_cell", "_law_cell", defArgs s__law_cell, defBody s__law_cell, defScope s__law_cell, [], []⟩
def dd__law_rise : He.DefD := ⟨("_law_rise", none), "_law_rise", "_law_rise", defArgs s__law_rise, defBody s__law_rise, defScope s__law_rise, [], []⟩
def dd__law_is_cell : He.DefD := ⟨("_law_is_cell", none), "_law_is_cell", "_law_is_cell", defArgs s__law_is_cell, defBody s__law_is_cell, defScope s__law_is_cell, [], []⟩
def dd_is_row : He.DefD := ⟨("is_row", none), "is_row", "is_row", defArgs s_is_row, defBody s_is_row, defScope s_is_row, [], []⟩
def dd_Leaf_body : He.DefD := ⟨("Leaf", some "body"), "body", "Leaf.body", defArgs s_Leaf_body, defBody s_Leaf_body, defScope s_Leaf_body, [], []⟩
def dd_Fork_body : He.DefD := ⟨("Fork", some "body"), "body", "Fork.body", defArgs s_Fork_body, defBody s_Fork_body, defScope s_Fork_body, [], []⟩
def dd__law_page : He.DefD := ⟨("_law_page", none), "_law_page", "_law_page", defArgs s__law_page, defBody s__law_page, defScope s__law_page, [], []⟩
def dd__law_is_page : He.DefD := ⟨("_law_is_page", none), "_law_is_page", "_law_is_page", defArgs s__law_is_page, defBody s__law_is_page, defScope s__law_is_page, [], []⟩
def dd_made : He.DefD := ⟨("made", none), "made", "made", defArgs s_made, defBody s_made, defScope s_made, [], []⟩
def dd_is_page : He.DefD := ⟨("is_page", none), "is_page", "is_page", defArgs s_is_page, defBody s_is_page, defScope s_is_page, [], []⟩
def dd_need_page : He.DefD := ⟨("need_page", none), "need_page", "need_page", defArgs s_need_page, defBody s_need_page, defScope s_need_page, [], []⟩
def dd_body_of : He.DefD := ⟨("body_of", none), "body_of", "body_of", defArgs s_body_of, defBody s_body_of, defScope s_body_of, [], []⟩
def dd_leads_to : He.DefD := ⟨("leads_to", none), "leads_to", "leads_to", defArgs s_leads_to, defBody s_leads_to, defScope s_leads_to, [], []⟩
def dd_page_text : He.DefD := ⟨("page_text", none), "page_text", "page_text", defArgs s_page_text, defBody s_page_text, defScope s_page_text, [], []⟩
def dd__law_looks : He.DefD := ⟨("_law_looks", none), "_law_looks", "_law_looks", defArgs s__law_looks, defBody s__law_looks, defScope s__law_looks, [], []⟩
def dd__law_refused : He.DefD := ⟨("_law_refused", none), "_law_refused", "_law_refused", defArgs s__law_refused, defBody s__law_refused, defScope s__law_refused, [], []⟩
def dd__law_many_rows : He.DefD := ⟨("_law_many_rows", none), "_law_many_rows", "_law_many_rows", defArgs s__law_many_rows, defBody s__law_many_rows, defScope s__law_many_rows, [], []⟩
def dd__law_spoilt : He.DefD := ⟨("_law_spoilt", none), "_law_spoilt", "_law_spoilt", defArgs s__law_spoilt, defBody s__law_spoilt, defScope s__law_spoilt, [], []⟩
def dd_law : He.DefD := ⟨("law", none), "law", "law", defArgs s_law, defBody s_law, defScope s_law, [], []⟩
def fn : List He.DefD := [dd_BadPage___init__, dd_is_whole, dd_is_text, dd_Head___init__, dd_Head_letter, dd_Head_leads, dd_Leaf___init__, dd_Leaf_letter, dd_Leaf_leads, dd_Fork___init__, dd_Fork_letter, dd_Fork_leads, dd_Rest___init__, dd_Rest_letter, dd_Rest_leads, dd_Free___init__, dd_Free_letter, dd_Free_leads, dd_has_word, dd__law_cell_at, dd__law_signs, dd__law_digits, dd__law_number, dd__law_odd, dd__law_bent, dd_digits, dd_is_number, dd_is_key, dd_is_value, dd_is_size, dd__law_next, dd__law_text, dd__law_body, dd__law_good_text, dd_check_of, dd_are_keys, dd_is_cell, dd_cell_body, dd_key_body, dd_Head_body, dd_Rest_body, dd_Free_body, dd_need_size, dd__law_rising, dd__law_cell, dd__law_rise, dd__law_is_cell, dd_is_row, dd_Leaf_body, dd_Fork_body, dd__law_page, dd__law_is_page, dd_made, dd_is_page, dd_need_page, dd_body_of, dd_leads_to, dd_page_text, dd__law_looks, dd__law_refused, dd__law_many_rows, dd__law_spoilt, dd_law]
def fa : List He.Fa := [.free "ValueError", .free "all", .free "bool", .free "enumerate", .free "int", .free "isinstance", .free "len", .free "list", .free "max", .free "ord", .free "range", .free "repr", .free "reversed", .free "sorted", .free "str", .free "sum", .free "tuple", .int "AHEAD" 31, .int "AROUND" 5, .int "CHECK" 4093, .int "LEAST_SIZE" 64, .int "MOST_KEY" 12, .int "MOST_MANY" 3, .int "MOST_NUMBER" 4095, .int "MOST_ROWS" 63, .int "MOST_SIZE" 200, .int "MOST_VALUE" 400, .int "PERCENT" 37, .str "SIGNS" c_SIGNS, .glo "BadKey", .glo "BadLine", .glo "BadNumber", .glo "BadPage", .glo "BadSize", .glo "BadText", .glo "BadValue", .glo "Closed", .glo "Fork", .glo "Free", .glo "Head", .glo "InBundle", .glo "Leaf", .glo "NoBundle", .glo "NoKey", .glo "PowerGone", .glo "Rest", .glo "TableError", .glo "BadNumber", .exc "BadNumber", .glo "BadSize", .exc "BadSize", .glo "BadText", .exc "BadText", .cls "Head", .cls "Leaf", .cls "Fork", .cls "Rest", .cls "Free", .glo "is_whole", .glo "is_text", .mkr "Head", .meth "Head" "letter", .meth "Head" "leads", .mkr "Leaf", .meth "Leaf" "letter", .meth "Leaf" "leads", .mkr "Fork", .meth "Fork" "letter", .meth "Fork" "leads", .mkr "Rest", .meth "Rest" "letter", .meth "Rest" "leads", .mkr "Free", .meth "Free" "letter", .meth "Free" "leads", .glo "has_word", .glo "_law_cell_at", .glo "_law_signs", .glo "_law_digits", .glo "_law_number", .glo "_law_odd", .glo "_law_bent", .glo "digits", .glo "is_number", .glo "is_key", .glo "is_value", .glo "is_size", .glo "_law_next", .glo "_law_text", .glo "_law_body", .glo "_law_good_text", .glo "check_of", .glo "are_keys", .glo "is_cell", .glo "cell_body", .glo "key_body", .meth "Head" "body", .meth "Rest" "body", .meth "Free" "body", .glo "need_size", .glo "_law_rising", .glo "_law_cell", .glo "_law_rise", .glo "_law_is_cell", .glo "is_row", .meth "Leaf" "body", .meth "Fork" "body", .glo "_law_page", .glo "_law_is_page", .glo "made", .glo "is_page", .glo "need_page", .glo "body_of", .glo "leads_to", .glo "page_text", .glo "_law_looks", .glo "_law_refused", .glo "_law_many_rows", .glo "_law_spoilt", .glo "law"]
def xb : Frg → Bool := fun K => (LF.xfB xtab xU xV K && (itB itab K && (oexB K (He.ga K "BadPage") "number" && (initB K (He.ga K "BadPage") && (xfC K (He.ga K "BadPage") && (baseB K (He.ga K "TableError") && true))))))
theorem top_of {K : Frg} {h : Heap} {mg : Str → Option Value} (X : K.In h) (G : h.Ns mainGlobals mg) (c : SaysX xb fa fn K) : Top K mg :=
  ⟨He.free_ok X G (c.2.fact 0 (f := .free "ValueError") rfl),
  He.free_ok X G (c.2.fact 1 (f := .free "all") rfl),
  He.free_ok X G (c.2.fact 2 (f := .free "bool") rfl),
  He.free_ok X G (c.2.fact 3 (f := .free "enumerate") rfl),
  He.free_ok X G (c.2.fact 4 (f := .free "int") rfl),
  He.free_ok X G (c.2.fact 5 (f := .free "isinstance") rfl),
  He.free_ok X G (c.2.fact 6 (f := .free "len") rfl),
  He.free_ok X G (c.2.fact 7 (f := .free "list") rfl),
  He.free_ok X G (c.2.fact 8 (f := .free "max") rfl),
  He.free_ok X G (c.2.fact 9 (f := .free "ord") rfl),
  He.free_ok X G (c.2.fact 10 (f := .free "range") rfl),
  He.free_ok X G (c.2.fact 11 (f := .free "repr") rfl),
  He.free_ok X G (c.2.fact 12 (f := .free "reversed") rfl),
  He.free_ok X G (c.2.fact 13 (f := .free "sorted") rfl),
  He.free_ok X G (c.2.fact 14 (f := .free "str") rfl),
  He.free_ok X G (c.2.fact 15 (f := .free "sum") rfl),
  He.free_ok X G (c.2.fact 16 (f := .free "tuple") rfl),
  He.int_ok X G (c.2.fact 17 (f := .int "AHEAD" 31) rfl),
  He.int_ok X G (c.2.fact 18 (f := .int "AROUND" 5) rfl),
  He.int_ok X G (c.2.fact 19 (f := .int "CHECK" 4093) rfl),
  He.int_ok X G (c.2.fact 20 (f := .int "LEAST_SIZE" 64) rfl),
  He.int_ok X G (c.2.fact 21 (f := .int "MOST_KEY" 12) rfl),
  He.int_ok X G (c.2.fact 22 (f := .int "MOST_MANY" 3) rfl),
  He.int_ok X G (c.2.fact 23 (f := .int "MOST_NUMBER" 4095) rfl),
  He.int_ok X G (c.2.fact 24 (f := .int "MOST_ROWS" 63) rfl),
  He.int_ok X G (c.2.fact 25 (f := .int "MOST_SIZE" 200) rfl),
  He.int_ok X G (c.2.fact 26 (f := .int "MOST_VALUE" 400) rfl),
  He.int_ok X G (c.2.fact 27 (f := .int "PERCENT" 37) rfl),
  He.str_ok X G (c.2.fact 28 (f := .str "SIGNS" c_SIGNS) rfl),
  He.glo_ok X G (c.2.fact 29 (f := .glo "BadKey") rfl),
  He.glo_ok X G (c.2.fact 30 (f := .glo "BadLine") rfl),
  He.glo_ok X G (c.2.fact 31 (f := .glo "BadNumber") rfl),
  He.glo_ok X G (c.2.fact 32 (f := .glo "BadPage") rfl),
  He.glo_ok X G (c.2.fact 33 (f := .glo "BadSize") rfl),
  He.glo_ok X G (c.2.fact 34 (f := .glo "BadText") rfl),
  He.glo_ok X G (c.2.fact 35 (f := .glo "BadValue") rfl),
  He.glo_ok X G (c.2.fact 36 (f := .glo "Closed") rfl),
  He.glo_ok X G (c.2.fact 37 (f := .glo "Fork") rfl),
  He.glo_ok X G (c.2.fact 38 (f := .glo "Free") rfl),
  He.glo_ok X G (c.2.fact 39 (f := .glo "Head") rfl),
  He.glo_ok X G (c.2.fact 40 (f := .glo "InBundle") rfl),
  He.glo_ok X G (c.2.fact 41 (f := .glo "Leaf") rfl),
  He.glo_ok X G (c.2.fact 42 (f := .glo "NoBundle") rfl),
  He.glo_ok X G (c.2.fact 43 (f := .glo "NoKey") rfl),
  He.glo_ok X G (c.2.fact 44 (f := .glo "PowerGone") rfl),
  He.glo_ok X G (c.2.fact 45 (f := .glo "Rest") rfl),
  He.glo_ok X G (c.2.fact 46 (f := .glo "TableError") rfl),
  excOk X G (c.2.fact 47 (f := .glo "BadNumber") rfl) (c.2.fact 48 (f := .exc "BadNumber") rfl),
  excOk X G (c.2.fact 49 (f := .glo "BadSize") rfl) (c.2.fact 50 (f := .exc "BadSize") rfl),
  excOk X G (c.2.fact 51 (f := .glo "BadText") rfl) (c.2.fact 52 (f := .exc "BadText") rfl),
  He.cls_ok (c.2.fact 53 (f := .cls "Head") rfl),
  He.cls_ok (c.2.fact 54 (f := .cls "Leaf") rfl),
  He.cls_ok (c.2.fact 55 (f := .cls "Fork") rfl),
  He.cls_ok (c.2.fact 56 (f := .cls "Rest") rfl),
  He.cls_ok (c.2.fact 57 (f := .cls "Free") rfl),
  He.glo_ok X G (c.2.fact 58 (f := .glo "is_whole") rfl),
  He.glo_ok X G (c.2.fact 59 (f := .glo "is_text") rfl),
  He.mkr_ok (c.2.fact 60 (f := .mkr "Head") rfl),
  He.meth_ok (c.2.fact 61 (f := .meth "Head" "letter") rfl),
  He.meth_ok (c.2.fact 62 (f := .meth "Head" "leads") rfl),
  He.mkr_ok (c.2.fact 63 (f := .mkr "Leaf") rfl),
  He.meth_ok (c.2.fact 64 (f := .meth "Leaf" "letter") rfl),
  He.meth_ok (c.2.fact 65 (f := .meth "Leaf" "leads") rfl),
  He.mkr_ok (c.2.fact 66 (f := .mkr "Fork") rfl),
  He.meth_ok (c.2.fact 67 (f := .meth "Fork" "letter") rfl),
  He.meth_ok (c.2.fact 68 (f := .meth "Fork" "leads") rfl),
  He.mkr_ok (c.2.fact 69 (f := .mkr "Rest") rfl),
  He.meth_ok (c.2.fact 70 (f := .meth "Rest" "letter") rfl),
  He.meth_ok (c.2.fact 71 (f := .meth "Rest" "leads") rfl),
  He.mkr_ok (c.2.fact 72 (f := .mkr "Free") rfl),
  He.meth_ok (c.2.fact 73 (f := .meth "Free" "letter") rfl),
  He.meth_ok (c.2.fact 74 (f := .meth "Free" "leads") rfl),
  He.glo_ok X G (c.2.fact 75 (f := .glo "has_word") rfl),
  He.glo_ok X G (c.2.fact 76 (f := .glo "_law_cell_at") rfl),
  He.glo_ok X G (c.2.fact 77 (f := .glo "_law_signs") rfl),
  He.glo_ok X G (c.2.fact 78 (f := .glo "_law_digits") rfl),
  He.glo_ok X G (c.2.fact 79 (f := .glo "_law_number") rfl),
  He.glo_ok X G (c.2.fact 80 (f := .glo "_law_odd") rfl),
  He.glo_ok X G (c.2.fact 81 (f := .glo "_law_bent") rfl),
  He.glo_ok X G (c.2.fact 82 (f := .glo "digits") rfl),
  He.glo_ok X G (c.2.fact 83 (f := .glo "is_number") rfl),
  He.glo_ok X G (c.2.fact 84 (f := .glo "is_key") rfl),
  He.glo_ok X G (c.2.fact 85 (f := .glo "is_value") rfl),
  He.glo_ok X G (c.2.fact 86 (f := .glo "is_size") rfl),
  He.glo_ok X G (c.2.fact 87 (f := .glo "_law_next") rfl),
  He.glo_ok X G (c.2.fact 88 (f := .glo "_law_text") rfl),
  He.glo_ok X G (c.2.fact 89 (f := .glo "_law_body") rfl),
  He.glo_ok X G (c.2.fact 90 (f := .glo "_law_good_text") rfl),
  He.glo_ok X G (c.2.fact 91 (f := .glo "check_of") rfl),
  He.glo_ok X G (c.2.fact 92 (f := .glo "are_keys") rfl),
  He.glo_ok X G (c.2.fact 93 (f := .glo "is_cell") rfl),
  He.glo_ok X G (c.2.fact 94 (f := .glo "cell_body") rfl),
  He.glo_ok X G (c.2.fact 95 (f := .glo "key_body") rfl),
  He.meth_ok (c.2.fact 96 (f := .meth "Head" "body") rfl),
  He.meth_ok (c.2.fact 97 (f := .meth "Rest" "body") rfl),
  He.meth_ok (c.2.fact 98 (f := .meth "Free" "body") rfl),
  He.glo_ok X G (c.2.fact 99 (f := .glo "need_size") rfl),
  He.glo_ok X G (c.2.fact 100 (f := .glo "_law_rising") rfl),
  He.glo_ok X G (c.2.fact 101 (f := .glo "_law_cell") rfl),
  He.glo_ok X G (c.2.fact 102 (f := .glo "_law_rise") rfl),
  He.glo_ok X G (c.2.fact 103 (f := .glo "_law_is_cell") rfl),
  He.glo_ok X G (c.2.fact 104 (f := .glo "is_row") rfl),
  He.meth_ok (c.2.fact 105 (f := .meth "Leaf" "body") rfl),
  He.meth_ok (c.2.fact 106 (f := .meth "Fork" "body") rfl),
  He.glo_ok X G (c.2.fact 107 (f := .glo "_law_page") rfl),
  He.glo_ok X G (c.2.fact 108 (f := .glo "_law_is_page") rfl),
  He.glo_ok X G (c.2.fact 109 (f := .glo "made") rfl),
  He.glo_ok X G (c.2.fact 110 (f := .glo "is_page") rfl),
  He.glo_ok X G (c.2.fact 111 (f := .glo "need_page") rfl),
  He.glo_ok X G (c.2.fact 112 (f := .glo "body_of") rfl),
  He.glo_ok X G (c.2.fact 113 (f := .glo "leads_to") rfl),
  He.glo_ok X G (c.2.fact 114 (f := .glo "page_text") rfl),
  He.glo_ok X G (c.2.fact 115 (f := .glo "_law_looks") rfl),
  He.glo_ok X G (c.2.fact 116 (f := .glo "_law_refused") rfl),
  He.glo_ok X G (c.2.fact 117 (f := .glo "_law_many_rows") rfl),
  He.glo_ok X G (c.2.fact 118 (f := .glo "_law_spoilt") rfl),
  He.glo_ok X G (c.2.fact 119 (f := .glo "law") rfl),
  c.2.def_ 0 (d := dd_BadPage___init__) rfl,
  c.2.def_ 1 (d := dd_is_whole) rfl,
  c.2.def_ 2 (d := dd_is_text) rfl,
  c.2.def_ 3 (d := dd_Head___init__) rfl,
  c.2.def_ 4 (d := dd_Head_letter) rfl,
  c.2.def_ 5 (d := dd_Head_leads) rfl,
  c.2.def_ 6 (d := dd_Leaf___init__) rfl,
  c.2.def_ 7 (d := dd_Leaf_letter) rfl,
  c.2.def_ 8 (d := dd_Leaf_leads) rfl,
  c.2.def_ 9 (d := dd_Fork___init__) rfl,
  c.2.def_ 10 (d := dd_Fork_letter) rfl,
  c.2.def_ 11 (d := dd_Fork_leads) rfl,
  c.2.def_ 12 (d := dd_Rest___init__) rfl,
  c.2.def_ 13 (d := dd_Rest_letter) rfl,
  c.2.def_ 14 (d := dd_Rest_leads) rfl,
  c.2.def_ 15 (d := dd_Free___init__) rfl,
  c.2.def_ 16 (d := dd_Free_letter) rfl,
  c.2.def_ 17 (d := dd_Free_leads) rfl,
  c.2.def_ 18 (d := dd_has_word) rfl,
  c.2.def_ 19 (d := dd__law_cell_at) rfl,
  c.2.def_ 20 (d := dd__law_signs) rfl,
  c.2.def_ 21 (d := dd__law_digits) rfl,
  c.2.def_ 22 (d := dd__law_number) rfl,
  c.2.def_ 23 (d := dd__law_odd) rfl,
  c.2.def_ 24 (d := dd__law_bent) rfl,
  c.2.def_ 25 (d := dd_digits) rfl,
  c.2.def_ 26 (d := dd_is_number) rfl,
  c.2.def_ 27 (d := dd_is_key) rfl,
  c.2.def_ 28 (d := dd_is_value) rfl,
  c.2.def_ 29 (d := dd_is_size) rfl,
  c.2.def_ 30 (d := dd__law_next) rfl,
  c.2.def_ 31 (d := dd__law_text) rfl,
  c.2.def_ 32 (d := dd__law_body) rfl,
  c.2.def_ 33 (d := dd__law_good_text) rfl,
  c.2.def_ 34 (d := dd_check_of) rfl,
  c.2.def_ 35 (d := dd_are_keys) rfl,
  c.2.def_ 36 (d := dd_is_cell) rfl,
  c.2.def_ 37 (d := dd_cell_body) rfl,
  c.2.def_ 38 (d := dd_key_body) rfl,
  c.2.def_ 39 (d := dd_Head_body) rfl,
  c.2.def_ 40 (d := dd_Rest_body) rfl,
  c.2.def_ 41 (d := dd_Free_body) rfl,
  c.2.def_ 42 (d := dd_need_size) rfl,
  c.2.def_ 43 (d := dd__law_rising) rfl,
  c.2.def_ 44 (d := dd__law_cell) rfl,
  c.2.def_ 45 (d := dd__law_rise) rfl,
  c.2.def_ 46 (d := dd__law_is_cell) rfl,
  c.2.def_ 47 (d := dd_is_row) rfl,
  c.2.def_ 48 (d := dd_Leaf_body) rfl,
  c.2.def_ 49 (d := dd_Fork_body) rfl,
  c.2.def_ 50 (d := dd__law_page) rfl,
  c.2.def_ 51 (d := dd__law_is_page) rfl,
  c.2.def_ 52 (d := dd_made) rfl,
  c.2.def_ 53 (d := dd_is_page) rfl,
  c.2.def_ 54 (d := dd_need_page) rfl,
  c.2.def_ 55 (d := dd_body_of) rfl,
  c.2.def_ 56 (d := dd_leads_to) rfl,
  c.2.def_ 57 (d := dd_page_text) rfl,
  c.2.def_ 58 (d := dd__law_looks) rfl,
  c.2.def_ 59 (d := dd__law_refused) rfl,
  c.2.def_ 60 (d := dd__law_many_rows) rfl,
  c.2.def_ 61 (d := dd__law_spoilt) rfl,
  c.2.def_ 62 (d := dd_law) rfl,
  LF.xfB_ok (He.ba c.1).1,
  itB_ok (He.ba (He.ba c.1).2).1,
  oexB_ok (He.ba (He.ba (He.ba c.1).2).2).1,
  initB_ok (He.ba (He.ba (He.ba (He.ba c.1).2).2).2).1,
  xfC_ok (He.ba (He.ba (He.ba (He.ba (He.ba c.1).2).2).2).2).1,
  baseB_ok (He.ba (He.ba (He.ba (He.ba (He.ba (He.ba c.1).2).2).2).2).2).1⟩
end
end K03
set_option Elab.async false
set_option linter.all false
set_option maxRecDepth 100000
set_option maxHeartbeats 0
namespace K03
open PySem PySem.Spec PyProof.Rows L2 LF
def loose0 : List Str := ["_wall", "TableError", "BadNumber", "BadText", "BadSize", "BadKey", "BadValue", "BadPage", "NoKey", "InBundle", "NoBundle", "PowerGone", "Closed", "BadLine", "SIGNS", "MOST_MANY", "CHECK", "PERCENT", "AHEAD", "is_whole", "is_text", "digits", "check_of", "MOST_NUMBER", "MOST_KEY", "MOST_VALUE", "MOST_ROWS", "is_number", "is_key", "is_value"]
def loose1 : List Str := ["are_keys", "is_cell", "is_row", "cell_body", "key_body", "Page", "Head", "Leaf", "Fork", "Rest", "Free", "has_word", "made", "LEAST_SIZE", "MOST_SIZE", "AROUND", "is_size", "need_size", "is_page", "need_page", "body_of", "leads_to", "page_text", "_law_cell_at", "_law_next", "_law_whole", "_law_signs", "_law_text", "_law_digits", "_law_check"]
def loose2 : List Str := ["_law_rising", "_law_cell", "_law_page", "_law_body", "_law_page_text", "_law_good_text", "_law_number", "_law_rise", "_law_is_cell", "_law_is_page", "_law_odd", "_law_spoilt", "_law_refused", "_law_looks", "_law_bent", "_law_many_rows"]
def loose : List Str := loose0 ++ loose1 ++ loose2
abbrev R : PySem.W.OpenRow := PySem.W.OpenLaw.row PySem.Challenge.rw_leafhouse_k03_keys_values_pages
abbrev hk : PySem.W.Hook := hookS 5 xb fa fn
def ob (s : PySem.W.SharedT) : AlX := obsSG 5 xb fa fn (HandSHeadRun.getT s)
theorem ob_eq (s : PySem.W.SharedT) : ob s = hk.obs s.abs := obsSG_eq (HandSHeadRun.getT_eq s)
theorem run (w : World) : HandSHeadRun.RunEq R (PySem.W.view R.prog [81]) hk ob 9000 loose w := by
  intro os
  kernel_rfl
end K03
set_option Elab.async false
set_option linter.all false
set_option maxRecDepth 100000
set_option maxHeartbeats 4000000
namespace LF
open PySem PySem.Spec PyProof.Rows L2
section
variable {chk : Mem → Bool} {dg : DG} {t : DT} {de : DE} {r r0 : Env'} {M : Mem} {d x : D} {ds acc : List D} {e : Exn}
def compXK (o : Out Src) (dg : DG) (t : DT) (de : DE) (vs : List Nat) (r : Env') : Out D := o.bind fun src M1 => compK2 (compX src.chk dg t de (wipeD r vs) src.items [] M1)
@[simp] theorem dCompX_ev {di : DI} {vs : List Nat} : dCompX di dg t de vs r M = compXK (di r M) dg t de vs r := rfl
@[simp] theorem compXK_ok {src : Src} {vs : List Nat} : compXK (.ok src M) dg t de vs r = compK2 (compX src.chk dg t de (wipeD r vs) src.items [] M) := rfl
@[simp] theorem compXK_ex {vs : List Nat} : compXK (.ex e M) dg t de vs r = .ex e M := rfl
@[simp] theorem compK2_ex : compK2 (.ex e M) = .ex e M := rfl
@[simp] theorem compX_nil : compX anyM dg t de r0 [] acc M = .ok acc M := rfl
def compX3 (o : Out D) (chk : Mem → Bool) (dg : DG) (t : DT) (de : DE) (r0 : Env') (ds acc : List D) : Out (List D) := match o with
  | .ok y M3 => (match lineB acc.length with
    | true => compX chk dg t de r0 ds (acc ++ [y]) M3
    | false => .no)
  | .ex e M3 => .ex e M3
  | .no => .no
@[simp] theorem compX3_ex : compX3 (.ex e M) chk dg t de r0 ds acc = .ex e M := rfl
def tryF0 (isa : Str → Option Bool) (i : Nat) (y fld : Str) (o : SO) : SO := match o with
  | .ex e r1 M1 => (match isa e.c with
    | some true => (match decide (i < r1.length) with
      | true => .ex ⟨y, [fld], [.non]⟩ (r1.set i none) M1
      | false => .no)
    | some false => .ex e r1 M1
    | none => .no)
  | o => o
@[simp] theorem dTryFrom0_ev {isa : Str → Option Bool} {i : Nat} {y fld : Str} {b : DS} : dTryFrom0 isa i y fld b r M = tryF0 isa i y fld (b r M) := rfl
@[simp] theorem tryF0_nx {isa : Str → Option Bool} {i : Nat} {y fld : Str} : tryF0 isa i y fld (.nx r M) = .nx r M := rfl
@[simp] theorem tryF0_rt {isa : Str → Option Bool} {i : Nat} {y fld : Str} : tryF0 isa i y fld (.rt d M) = .rt d M := rfl
end
end LF
set_option Elab.async false
set_option linter.all false
set_option maxRecDepth 100000
set_option maxHeartbeats 4000000
namespace K03
open PySem PySem.Spec PyProof.Rows L2 LF
def SL : List Nat := c_SIGNS.cps.toList
theorem is_whole_int (n : Int) (M : Mem) : f_is_whole [.int n] M = .ok (.bl true) M := rfl
def sgN (i : Int) : Nat := (atI SL i).getD 0
theorem sg_at {i : Int} (h0 : 0 ≤ i) (h1 : i < 64) : atI SL i = some (sgN i) := by
  have e : i = ((i.toNat : Nat) : Int) := by omega
  have hk : i.toNat < 64 := by omega
  generalize i.toNat = k at e hk
  subst e
  have : ∀ k : Fin 64, (atI SL ((k.val : Nat) : Int)) = some (sgN ((k.val : Nat) : Int)) := by decide +kernel
  exact this ⟨k, hk⟩
theorem sg_mem {i : Int} (h0 : 0 ≤ i) (h1 : i < 64) : sgN i ∈ SL ∧ ((SL.idxOf (sgN i) : Nat) : Int) = i := by
  have e : i = ((i.toNat : Nat) : Int) := by omega
  have hk : i.toNat < 64 := by omega
  generalize i.toNat = k at e hk
  subst e
  have : ∀ k : Fin 64, sgN ((k.val : Nat) : Int) ∈ SL ∧ ((SL.idxOf (sgN ((k.val : Nat) : Int)) : Nat) : Int) = ((k.val : Nat) : Int) := by decide +kernel
  exact this ⟨k, hk⟩
theorem sg_ix {i : Int} {M : Mem} (h0 : 0 ≤ i) (h1 : i < 64) : fIx (.str c_SIGNS) (.int i) M = .ok (.str (tx [sgN i])) M := fIx_str (by decide +kernel) (sg_at h0 h1)
theorem sg_ixm (M : Mem) (x : Int) : fIx (.str c_SIGNS) (.int (x % 64)) M = .ok (.str (tx [sgN (x % 64)])) M := sg_ix (by omega) (by omega)
def digL (m : Int) (n : Int) : List Nat := if m = 1 then [sgN (n % 64)] else if m = 2 then [sgN (n / 64 % 64), sgN (n % 64)] else [sgN (n / 4096 % 64), sgN (n / 64 % 64), sgN (n % 64)]
theorem digits_ok (n m : Int) (M : Mem) (hm : m = 1 ∨ m = 2 ∨ m = 3) (h0 : 0 ≤ n) (h : n / 2 ^ (6 * m.toNat) = 0) : f_digits [.int n, .int m] M = .ok (.str (tx (digL m n))) M := by
  have h1 : ¬ n < 0 := by omega
  have e1 : (irng 0 1).reverse = [.int 0] := rfl
  have e2 : (irng 0 2).reverse = [.int 1, .int 0] := rfl
  have e3 : (irng 0 3).reverse = [.int 2, .int 1, .int 0] := rfl
  have b1 := fun a => mJoin_tx (l := [a]) (M := M) (by simp)
  have b2 := fun a b => mJoin_tx (l := [a, b]) (M := M) (by simp)
  have b3 := fun a b c => mJoin_tx (l := [a, b, c]) (M := M) (by simp)
  simp only [List.map_cons, List.map_nil] at b1 b2 b3
  rcases hm with rfl | rfl | rfl <;> simp at h <;> simp [f_digits, b_digits, c1_digits, runB_ev, is_whole_int, fMulX_l, decide_eq_false h1, h, e1, e2, e3, bitAnd_m6, sg_ixm, tx_empty, b1, b2, b3, digL]
theorem ldigits_ok (n m : Int) (M : Mem) (hm : m = 1 ∨ m = 2 ∨ m = 3) : f__law_digits [.int n, .int m] M = .ok (.str (tx (digL m n))) M := by
  have e1 : irng 0 1 = [.int 0] := rfl
  have e2 : irng 0 2 = [.int 0, .int 1] := rfl
  have e3 : irng 0 3 = [.int 0, .int 1, .int 2] := rfl
  have b : ∀ (M : Mem) (x : Int), fIx (.str (Str.ofString "0123456789abcdefghijklmnopqrstuvwxyzABCDEFGHIJKLMNOPQRSTUVWXYZ+-")) (.int (x % 64)) M = .ok (.str (tx [sgN (x % 64)])) M := sg_ixm
  have d : ∀ x : Int, x / 64 / 64 = x / 4096 := fun x => by omega
  rcases hm with rfl | rfl | rfl <;> simp [f__law_digits, b__law_digits, l1__law_digits, runB_ev, e1, e2, e3, b, tx_empty, fAdd_tx, digL, d]
def ALs : Str := ((" !\"#$&'()*+,-./:;<=>?\x40[\\]^_`{|}~" : Str) ++ ("0123456789abcdefghijklmnopqrstuvwxyzABCDEFGHIJKLMNOPQRSTUVWXYZ" : Str))
def AL : List Nat := ALs.cps.toList
theorem lsigns (M : Mem) : f__law_signs [] M = .ok (.str (tx AL)) M := by
  simp [f__law_signs, b__law_signs, runB_ev]
  rw [fAdd_str (by decide +kernel)]
  have e : tx AL = ALs := (tx_eta ALs).symm
  rw [e]
  simp [ALs]
theorem al_at {i : Int} (h0 : 0 ≤ i) (h1 : i < 94) : ∃ c, atI AL i = some c ∧ c ∈ AL := by
  have e : i = ((i.toNat : Nat) : Int) := by omega
  have hk : i.toNat < 94 := by omega
  generalize i.toNat = k at e hk
  subst e
  have : ∀ k : Fin 94, ∃ c, atI AL ((k.val : Nat) : Int) = some c ∧ c ∈ AL := by
    intro k
    refine ⟨(atI AL ((k.val : Nat) : Int)).getD 0, ?_⟩
    revert k
    decide +kernel
  exact this ⟨k, hk⟩
theorem al_len : AL.length = 94 := by decide +kernel
theorem ltext (nn sz : Int) (M : Mem) (h0 : 0 ≤ sz) (h1 : sz < 1000) : ∃ l : List Nat, l.length = sz.toNat ∧ (∀ c ∈ l, c ∈ AL) ∧ f__law_text [.int nn, .int sz] M = .ok (.str (tx l)) M := by
  have hx : ∀ x : Int, ∃ c, atI AL (x % 94) = some c ∧ c ∈ AL := fun x => al_at (by omega) (by omega)
  have key : ∀ ks : List Int, (∀ k ∈ ks, 0 ≤ k ∧ k < 1000) → ∃ l : List Nat, l.length = ks.length ∧ (∀ c ∈ l, c ∈ AL) ∧
      ∀ acc : List D, acc.length + ks.length ≤ 100000 → compL anyM (gSlot 4) dYes c1__law_text
        [some (.int nn), some (.int sz), some (.str (tx AL)), some (.int 94), none] (ks.map .int) acc M = .ok (acc ++ l.map fun c => .str (tx [c])) M := by
    intro ks
    induction ks with
    | nil => exact fun _ => ⟨[], rfl, by simp, by simp⟩
    | cons k ks ih =>
      intro hk
      obtain ⟨l, e1, e2, e3⟩ := ih fun x hx => hk x (List.mem_cons_of_mem _ hx)
      obtain ⟨k0, k1⟩ := hk k List.mem_cons_self
      obtain ⟨c, c1, c2⟩ := hx (nn / 7 + 13 * k * k + 5 * k)
      refine ⟨c :: l, by simp [e1], by simpa [c2] using e2, fun acc hl => ?_⟩
      rw [List.length_cons] at hl
      have f := fIx_tx (M := M) (l := AL) (by rw [al_len]; omega) c1
      have m1 : ∀ y : Int, fMulX (.int y) (.int k) M = .ok (.int (y * k)) M := fun y => fMulX_r (by omega) (by omega)
      have ev : c1__law_text [some (.int nn), some (.int sz), some (.str (tx AL)), some (.int 94), some (.int k)] M = .ok (.str (tx [c])) M := by
        simp only [c1__law_text, dBin_ev, dVar_ev, dC_ev, List.getElem?_cons_succ, List.getElem?_cons_zero, binK1_ok, binK2_ok, m1, fAdd_int, fFdiv_int (show (0 : Int) < 7 by omega) (show (7 : Int) < 1073741824 by omega), fMod_int (show (0 : Int) < 94 by omega), f]
      simp only [List.map_cons, compL_consA, gSlot_ev, List.set_cons_succ, List.set_cons_zero, cmpK1_ok, dYes_ev, cmpK2_t, ev]
      rw [cmpK3_ok (by omega), e3 _ (by simp; omega)]
      simp
  have hi : irng 0 sz.toNat = ((List.range sz.toNat).map fun i : Nat => (i : Int)).map .int := by
    unfold irng
    rw [List.map_map]
    exact List.map_congr_left fun i _ => by simp
  obtain ⟨l, e1, e2, e3⟩ := key ((List.range sz.toNat).map fun i : Nat => (i : Int)) (fun k hk => by
    obtain ⟨i, hi, rfl⟩ := List.mem_map.mp hk
    have := List.mem_range.mp hi
    omega)
  refine ⟨l, by simpa using e1, e2, ?_⟩
  have hl : l.length ≤ 100000 := by rw [e1]; simp; omega
  have q := e3 [] (by simp; omega)
  rw [← hi, List.nil_append] at q
  simp [f__law_text, b__law_text, runB_ev, lsigns, fLen_tx (l := AL) (show AL.length ≤ 100000 by rw [al_len]; omega), al_len, itR1K_ok (show (-4611686018427387904 : Int) ≤ sz by omega) (show sz < 4611686018427387904 by omega), q, tx_empty, mJoin_tx hl]
/-- the state stands first in the arena -/
def St (ns : List Int) (k : Int) : MO := .dic [(.inr "cells", .lst (ns.map .int)), (.inr "at", .int k)]
def At (ns : List Int) (k : Int) (M : Mem) : Prop := M[0]? = some (St ns k)
theorem At.app {ns : List Int} {k : Int} {M N : Mem} (h : At ns k M) : At ns k (M ++ N) := by
  unfold At at *
  rw [List.getElem?_append_left (List.getElem?_eq_some_iff.mp h).1]
  exact h
theorem cell_at (ns : List Int) (k : Int) (M : Mem) (h0 : 0 ≤ k) : ∃ c : Int, f__law_cell_at [.lst (ns.map .int), .int k] M = .ok (.int c) M := by
  by_cases h : k < ns.length
  · obtain ⟨j, rfl⟩ : ∃ j : Nat, k = j := ⟨k.toNat, by omega⟩
    have hk : j < ns.length := by omega
    have a : atI (ns.map D.int) (j : Int) = some (.int (ns[j]'hk)) := L2.atI_nat (by simp [hk])
    exact ⟨ns[j]'hk, by simp [f__law_cell_at, b__law_cell_at, runB_ev, hk, fIx_lst a]⟩
  · exact ⟨0, by simp [f__law_cell_at, b__law_cell_at, runB_ev, decide_eq_false h]⟩
theorem lnext {ns : List Int} {k : Int} {M : Mem} (hM : At ns k M) (h0 : 0 ≤ k) (h1 : k < 1000000000) : ∃ nn : Int, 0 ≤ nn ∧ nn < 268435456 ∧ f__law_next [.obj 0] M = .ok (.int nn) (M.set 0 (St ns (k + 1))) ∧ At ns (k + 1) (M.set 0 (St ns (k + 1))) := by
  obtain ⟨mx, e, hp⟩ : ∃ mx : Int, (if 1 < (ns.length : Int) then (ns.length : Int) else 1) = mx ∧ 0 < mx := ⟨_, rfl, by split <;> omega⟩
  have hl : 0 < M.length := (List.getElem?_eq_some_iff.mp hM).1
  have hN : At ns (k + 1) (M.set 0 (St ns (k + 1))) := List.getElem?_set_self hl
  obtain ⟨c, hc⟩ := cell_at ns ((k + 1) % mx) (M.set 0 (St ns (k + 1))) (Int.emod_nonneg _ (by omega))
  refine ⟨(c * 48271 + (k + 1) * (k + 1) * 69621) % 2147483647 / 8, by omega, by omega, ?_, hN⟩
  have g1 : fDGet (.obj 0) (.str "at") M = .ok (.int k) M := fDGet_of (k := .inr "at") rfl hM rfl
  have g2 : fDGet (.obj 0) (.str "at") (M.set 0 (St ns (k + 1))) = .ok (.int (k + 1)) (M.set 0 (St ns (k + 1))) := fDGet_of (k := .inr "at") rfl hN rfl
  have g3 : fDGet (.obj 0) (.str "cells") (M.set 0 (St ns (k + 1))) = .ok (.lst (ns.map .int)) (M.set 0 (St ns (k + 1))) := fDGet_of (k := .inr "cells") rfl hN rfl
  have p1 : ∀ r, putAt (.obj 0) (.str "at") (.int (k + 1)) r M = .nx r (M.set 0 (St ns (k + 1))) := fun r => putAt_of (k := .inr "at") (kvs := [(.inr "cells", .lst (ns.map .int)), (.inr "at", .int k)]) rfl hM (by simp)
  have m1 : ∀ (y : Int) (M : Mem), fMulX (.int y) (.int (k + 1)) M = .ok (.int (y * (k + 1))) M := fun y M => fMulX_r (by omega) (by omega)
  have m2 : ∀ (y : Int) (M : Mem), fMulX (.int y) (.int 48271) M = .ok (.int (y * 48271)) M := fun y M => fMulX_r (by omega) (by omega)
  have m3 : ∀ (y : Int) (M : Mem), fMulX (.int y) (.int 69621) M = .ok (.int (y * 69621)) M := fun y M => fMulX_r (by omega) (by omega)
  generalize M.set 0 (St ns (k + 1)) = M2 at *
  simp [f__law_next, b__law_next, runB_ev, g1, g2, g3, p1, m1, m2, m3, e, fMod_int hp, hc]
def okc (c : Nat) : Bool := decide (32 ≤ c) && (decide (c ≤ 126) && !decide (c = 37))
theorem al_ok {c : Nat} (h : c ∈ AL) : okc c = true ∧ c < 128 := by
  have : ∀ c ∈ AL, okc c = true ∧ c < 128 := by decide +kernel
  exact this c h
theorem chain_ev (c : Nat) (M : Mem) (r : Env') (x0 : D) (y : Option D) : c1_is_text [some x0, some (.str (tx [c]))] M = .ok (.bl (okc c)) M := by
  have e1 : Str.ofString " " = tx [32] := by rw [tx_lit]; rfl
  have e2 : Str.ofString "~" = tx [126] := by rw [tx_lit]; rfl
  have n1 : decide (c < 32) = !decide (32 ≤ c) := by
    by_cases h : c < 32
    · rw [decide_eq_true h, decide_eq_false (by omega)]; rfl
    · rw [decide_eq_false h, decide_eq_true (by omega)]; rfl
  have n2 : decide (126 < c) = !decide (c ≤ 126) := by
    by_cases h : 126 < c
    · rw [decide_eq_true h, decide_eq_false (by omega)]; rfl
    · rw [decide_eq_false h, decide_eq_true (by omega)]; rfl
  have n3 : decide ((c : Int) = 37) = decide (c = 37) := decide_eq_decide.mpr (by omega)
  unfold okc
  cases h1 : decide (32 ≤ c) with
  | false => simp [c1_is_text, e1, e2, strLt_one, n1, h1]
  | true =>
    cases h2 : decide (c ≤ 126) with
    | false => simp [c1_is_text, e1, e2, strLt_one, n1, n2, h1, h2]
    | true => simp [c1_is_text, e1, e2, strLt_one, n1, n2, h1, h2, n3]
theorem text_comp (M : Mem) (x0 : D) : ∀ (l : List Nat) (acc : List D), acc.length + l.length ≤ 100000 →
    compL anyM (gSlot 1) dYes c1_is_text [some x0, none] (l.map fun c => .str (tx [c])) acc M = .ok (acc ++ l.map fun c => .bl (okc c)) M
  | [], acc, _ => by simp
  | c :: l, acc, h => by
    rw [List.length_cons] at h
    have ih := text_comp M x0 l (acc ++ [.bl (okc c)]) (by simp; omega)
    simp only [List.map_cons, compL_consA, gSlot_ev, List.set_cons_succ, List.set_cons_zero, cmpK1_ok, dYes_ev, cmpK2_t]
    rw [chain_ev c M [] x0 none, cmpK3_ok (by omega), ih]
    simp
theorem is_text_tx (l : List Nat) (M : Mem) (h : l.length ≤ 100000) : f_is_text [.str (tx l)] M = .ok (.bl (l.all okc)) M := by
  have c := text_comp M (.str (tx l)) l [] (by simpa using h)
  rw [List.nil_append] at c
  have a := fAll_of (M := M) (blsOf_map (f := okc) l)
  simp only [f_is_text, b_is_text, runB_ev, List.map_cons, List.map_nil, List.length_cons, List.length_nil]
  simp [signs_tx, c, a]
end K03
set_option Elab.async false
set_option linter.all false
set_option maxRecDepth 100000
set_option maxHeartbeats 4000000
namespace K03
open PySem PySem.Spec PyProof.Rows L2 LF
inductive Cell where
  | inn (t : List Nat) | out (a b : Int)
def Cell.toD : Cell → D
  | .inn t => .tup [.str "in", .str (tx t)]
  | .out a b => .tup [.str "out", .int a, .int b]
abbrev Row := List Nat × Cell
def rowD (r : Row) : D := .tup [.str (tx r.1), r.2.toD]
def keyD (k : List Nat) : D := .str (tx k)
inductive Pg where
  | head (a b c d : Int) | leaf (rows : List Row) | fork (keys : List (List Nat)) (kids : List Int) | rest (t : List Nat) (n : Int) | free (n : Int)
def Pg.toD : Pg → D
  | .head a b c d => .tup [.str "head", .int a, .int b, .int c, .int d]
  | .leaf rows => .tup [.str "leaf", .tup (rows.map rowD)]
  | .fork keys kids => .tup [.str "fork", .tup (keys.map keyD), .tup (kids.map .int)]
  | .rest t n => .tup [.str "rest", .str (tx t), .int n]
  | .free n => .tup [.str "free", .int n]
def NumOk (lo n : Int) : Prop := lo ≤ n ∧ n ≤ 4095
def TxtOk (t : List Nat) : Prop := ∀ c ∈ t, okc c = true
structure KeyOk (k : List Nat) : Prop where
  t : TxtOk k
  lo : 1 ≤ k.length
  hi : k.length ≤ 12
def CellOk : Cell → Prop
  | .inn t => TxtOk t ∧ t.length ≤ 63
  | .out a b => (1 ≤ a ∧ a ≤ 400) ∧ NumOk 1 b
structure Rising (ks : List (List Nat)) : Prop where
  many : ks.length ≤ 63
  key : ∀ k ∈ ks, KeyOk k
  lt : ∀ i a b, ks[i]? = some a → ks[i + 1]? = some b → a < b
def Good : Pg → Prop
  | .head a b c d => NumOk 0 a ∧ NumOk 0 b ∧ NumOk 0 c ∧ NumOk 0 d
  | .leaf rows => Rising (rows.map (·.1)) ∧ ∀ r ∈ rows, CellOk r.2
  | .fork keys kids => Rising keys ∧ (∀ n ∈ kids, NumOk 1 n) ∧ kids.length = keys.length + 1
  | .rest t n => TxtOk t ∧ 1 ≤ t.length ∧ t.length ≤ 400 ∧ NumOk 0 n
  | .free n => NumOk 0 n
theorem so_head : PyData.strOk (Str.ofString "head") = true := by decide +kernel
theorem so_leaf : PyData.strOk (Str.ofString "leaf") = true := by decide +kernel
theorem so_fork : PyData.strOk (Str.ofString "fork") = true := by decide +kernel
theorem so_rest : PyData.strOk (Str.ofString "rest") = true := by decide +kernel
theorem so_free : PyData.strOk (Str.ofString "free") = true := by decide +kernel
theorem so_in : PyData.strOk (Str.ofString "in") = true := by decide +kernel
theorem so_out : PyData.strOk (Str.ofString "out") = true := by decide +kernel
theorem bq_head_head : (Str.ofString "head" == Str.ofString "head") = true := by decide +kernel
theorem bq_head_leaf : (Str.ofString "head" == Str.ofString "leaf") = false := by decide +kernel
theorem bq_head_fork : (Str.ofString "head" == Str.ofString "fork") = false := by decide +kernel
theorem bq_head_rest : (Str.ofString "head" == Str.ofString "rest") = false := by decide +kernel
theorem bq_head_free : (Str.ofString "head" == Str.ofString "free") = false := by decide +kernel
theorem bq_leaf_head : (Str.ofString "leaf" == Str.ofString "head") = false := by decide +kernel
theorem bq_leaf_leaf : (Str.ofString "leaf" == Str.ofString "leaf") = true := by decide +kernel
theorem bq_leaf_fork : (Str.ofString "leaf" == Str.ofString "fork") = false := by decide +kernel
theorem bq_leaf_rest : (Str.ofString "leaf" == Str.ofString "rest") = false := by decide +kernel
theorem bq_leaf_free : (Str.ofString "leaf" == Str.ofString "free") = false := by decide +kernel
theorem bq_fork_head : (Str.ofString "fork" == Str.ofString "head") = false := by decide +kernel
theorem bq_fork_leaf : (Str.ofString "fork" == Str.ofString "leaf") = false := by decide +kernel
theorem bq_fork_fork : (Str.ofString "fork" == Str.ofString "fork") = true := by decide +kernel
theorem bq_fork_rest : (Str.ofString "fork" == Str.ofString "rest") = false := by decide +kernel
theorem bq_fork_free : (Str.ofString "fork" == Str.ofString "free") = false := by decide +kernel
theorem bq_rest_head : (Str.ofString "rest" == Str.ofString "head") = false := by decide +kernel
theorem bq_rest_leaf : (Str.ofString "rest" == Str.ofString "leaf") = false := by decide +kernel
theorem bq_rest_fork : (Str.ofString "rest" == Str.ofString "fork") = false := by decide +kernel
theorem bq_rest_rest : (Str.ofString "rest" == Str.ofString "rest") = true := by decide +kernel
theorem bq_rest_free : (Str.ofString "rest" == Str.ofString "free") = false := by decide +kernel
theorem bq_free_head : (Str.ofString "free" == Str.ofString "head") = false := by decide +kernel
theorem bq_free_leaf : (Str.ofString "free" == Str.ofString "leaf") = false := by decide +kernel
theorem bq_free_fork : (Str.ofString "free" == Str.ofString "fork") = false := by decide +kernel
theorem bq_free_rest : (Str.ofString "free" == Str.ofString "rest") = false := by decide +kernel
theorem bq_free_free : (Str.ofString "free" == Str.ofString "free") = true := by decide +kernel
theorem bq_in_in : (Str.ofString "in" == Str.ofString "in") = true := by decide +kernel
theorem bq_in_out : (Str.ofString "in" == Str.ofString "out") = false := by decide +kernel
theorem bq_out_in : (Str.ofString "out" == Str.ofString "in") = false := by decide +kernel
theorem bq_out_out : (Str.ofString "out" == Str.ofString "out") = true := by decide +kernel
theorem is_number_ok {lo n : Int} {M : Mem} (h : NumOk lo n) : f_is_number [.int n, .int lo] M = .ok (.bl true) M := by
  simp [f_is_number, b_is_number, runB_ev, is_whole_int, decide_eq_true h.1, decide_eq_true h.2]
theorem txt_all {t : List Nat} (h : TxtOk t) : t.all okc = true := List.all_eq_true.mpr h
theorem is_text_ok {t : List Nat} {M : Mem} (h : TxtOk t) (hl : t.length ≤ 100000) : f_is_text [.str (tx t)] M = .ok (.bl true) M := by rw [is_text_tx t M hl, txt_all h]
theorem is_key_ok {k : List Nat} {M : Mem} (h : KeyOk k) : f_is_key [.str (tx k)] M = .ok (.bl true) M := by
  have l := h.hi
  have h1 : (1 : Int) ≤ k.length := by have := h.lo; omega
  have h2 : (k.length : Int) ≤ 12 := by omega
  simp [f_is_key, b_is_key, runB_ev, is_text_ok (M := M) h.t (by omega), fLen_tx (l := k) (M := M) (by omega), decide_eq_true h1, decide_eq_true h2]
theorem is_value_ok {k : List Nat} {M : Mem} (h : TxtOk k) (l : k.length ≤ 400) : f_is_value [.str (tx k)] M = .ok (.bl true) M := by
  have h2 : (k.length : Int) ≤ 400 := by omega
  simp [f_is_value, b_is_value, runB_ev, is_text_ok (M := M) h (by omega), fLen_tx (l := k) (M := M) (by omega), decide_eq_true h2]
theorem is_cell_ok {c : Cell} {M : Mem} (h : CellOk c) : f_is_cell [c.toD] M = .ok (.bl true) M := by
  cases c with
  | inn t =>
    obtain ⟨h1, h2⟩ := h
    have h3 : (t.length : Int) ≤ 63 := by omega
    simp [f_is_cell, b_is_cell, runB_ev, Cell.toD, lit_eq so_in so_in bq_in_in, is_text_ok (M := M) h1 (by omega), fLen_tx (l := t) (M := M) (by omega), decide_eq_true h3]
  | out a b =>
    obtain ⟨⟨h1, h2⟩, h3⟩ := h
    have i2 : fIx (.tup [.str "out", .int a, .int b]) (.int 2) M = .ok (.int b) M := fIx_tup (L2.atI_nat (j := 2) rfl)
    simp [f_is_cell, b_is_cell, runB_ev, Cell.toD, lit_eq so_out so_in bq_out_in, lit_ne so_out so_out bq_out_out, is_whole_int, decide_eq_true h1, decide_eq_true h2, i2, is_number_ok h3]
theorem is_row_ok {r : Row} {M : Mem} (h1 : KeyOk r.1) (h2 : CellOk r.2) : f_is_row [rowD r] M = .ok (.bl true) M := by
  simp [f_is_row, b_is_row, runB_ev, rowD, is_key_ok (M := M) h1, is_cell_ok (M := M) h2]
theorem are_keys_ok {ks : List (List Nat)} {M : Mem} (h : Rising ks) : f_are_keys [.lst (ks.map keyD)] M = .ok (.bl true) M := by
  have hm : ¬ (63 : Int) < ks.length := by have := h.many; omega
  have k1 := compL_img (t := dYes) (de := c1_are_keys) (r := [some (.lst (ks.map keyD)), none, none]) (M := M) (dg := gSlot 1) (f := keyD) (g := fun _ => .bl true) ks [] (fun a ha => ⟨_, rfl, rfl, by
    simp [c1_are_keys, keyD, is_key_ok (M := M) (h.key a ha)]⟩) (by have := h.many; simp; omega)
  have e : irng 0 (ks.length - 1) = (List.range (ks.length - 1)).map fun i : Nat => .int (i : Int) := by
    unfold irng
    exact List.map_congr_left fun i _ => by simp
  have k2 := compL_img (t := dYes) (de := c2_are_keys) (r := [some (.lst (ks.map keyD)), none, none]) (M := M) (dg := gSlot 2) (f := fun i : Nat => .int (i : Int)) (g := fun _ => .bl true) (List.range (ks.length - 1)) [] (fun i hi => ⟨_, rfl, rfl, by
    have hi := List.mem_range.mp hi
    have a1 : atI (ks.map keyD) (i : Int) = some (keyD (ks[i]'(by omega))) := L2.atI_nat (by simp [List.getElem?_eq_getElem (show i < ks.length by omega)])
    have a2 : atI (ks.map keyD) ((i : Int) + 1) = some (keyD (ks[i + 1]'(by omega))) := by
      rw [show (i : Int) + 1 = ((i + 1 : Nat) : Int) by omega]
      exact L2.atI_nat (by simp [List.getElem?_eq_getElem (show i + 1 < ks.length by omega)])
    have lt := h.lt i _ _ (List.getElem?_eq_getElem (show i < ks.length by omega)) (List.getElem?_eq_getElem (show i + 1 < ks.length by omega))
    simp [c2_are_keys, fIx_lst a1, fIx_lst a2, keyD, strLt_tx, decide_eq_true lt]⟩) (by have := h.many; simp; omega)
  rw [List.nil_append] at k1 k2
  rw [← e] at k2
  have b1 : (-4611686018427387904 : Int) ≤ (ks.length : Int) - 1 := by omega
  have b2 : (ks.length : Int) - 1 < 4611686018427387904 := by have := h.many; omega
  simp [-dItL_ev, f_are_keys, b_are_keys, runB_ev, decide_eq_false hm, dItL_K, k1, all_true, itR1K_ok b1 b2, k2]
theorem has_word_ev {a b : Str} {ds : List D} {n : Int} {M : Mem} (ha : PyData.strOk a = true) (hb : PyData.strOk b = true) : f_has_word [.tup (.str a :: ds), .str b, .int n] M = .ok (.bl (decide (((ds.length : Int) + 1) = n) && (a == b))) M := by
  cases h : decide (((ds.length : Int) + 1) = n) with
  | true => simp [f_has_word, b_has_word, runB_ev, h, fEq_str ha hb]
  | false => simp [f_has_word, b_has_word, runB_ev, h]
/-- the object that made tells -/
def Pg.obj : Pg → MO
  | .head a b c d => .ins "Head" [("top", .int a), ("depth", .int b), ("amount", .int c), ("free", .int d)]
  | .leaf rows => .ins "Leaf" [("entries", .tup (rows.map rowD))]
  | .fork keys kids => .ins "Fork" [("parting", .tup (keys.map keyD)), ("kids", .tup (kids.map .int))]
  | .rest t n => .ins "Rest" [("text", .str (tx t)), ("behind", .int n)]
  | .free n => .ins "Free" [("behind", .int n)]
theorem last_at {M : Mem} {o : MO} : (M ++ [o])[M.length]? = some o := by simp
theorem set_last {M : Mem} {o p : MO} : (M ++ [o]).set M.length p = M ++ [p] := by simp
end K03
set_option Elab.async false
set_option linter.all false
set_option maxRecDepth 100000
set_option maxHeartbeats 4000000
namespace K03
open PySem PySem.Spec PyProof.Rows L2 LF
theorem init_head {M : Mem} {a b c d : D} : f_Head___init__ [.obj M.length, a, b, c, d] (M ++ [.ins "Head" []]) = .ok .non (M ++ [.ins "Head" [("top", a), ("depth", b), ("amount", c), ("free", d)]]) := by
  have p1 := fun r => putAttr_last (r := r) (M := M) (d := a) (ok := okF itab "top") (f := "top") (c := "Head") (fs := []) rfl (by decide)
  have p2 := fun r => putAttr_last (r := r) (M := M) (d := b) (ok := okF itab "depth") (f := "depth") (c := "Head") (fs := putFD "top" a []) rfl (by exact (by decide : (1 : Nat) < 1000))
  have p3 := fun r => putAttr_last (r := r) (M := M) (d := c) (ok := okF itab "amount") (f := "amount") (c := "Head") (fs := putFD "depth" b (putFD "top" a [])) rfl (by exact (by decide : (2 : Nat) < 1000))
  have p4 := fun r => putAttr_last (r := r) (M := M) (d := d) (ok := okF itab "free") (f := "free") (c := "Head") (fs := putFD "amount" c (putFD "depth" b (putFD "top" a []))) rfl (by exact (by decide : (3 : Nat) < 1000))
  simp [f_Head___init__, b_Head___init__, runB_ev, p1, p2, p3, p4]
  rfl
theorem init_leaf {M : Mem} {a : D} : f_Leaf___init__ [.obj M.length, a] (M ++ [.ins "Leaf" []]) = .ok .non (M ++ [.ins "Leaf" [("entries", a)]]) := by
  have p1 := fun r => putAttr_last (r := r) (M := M) (d := a) (ok := okF itab "entries") (f := "entries") (c := "Leaf") (fs := []) rfl (by decide)
  simp [f_Leaf___init__, b_Leaf___init__, runB_ev, p1]
  rfl
theorem init_fork {M : Mem} {a b : D} : f_Fork___init__ [.obj M.length, a, b] (M ++ [.ins "Fork" []]) = .ok .non (M ++ [.ins "Fork" [("parting", a), ("kids", b)]]) := by
  have p1 := fun r => putAttr_last (r := r) (M := M) (d := a) (ok := okF itab "parting") (f := "parting") (c := "Fork") (fs := []) rfl (by decide)
  have p2 := fun r => putAttr_last (r := r) (M := M) (d := b) (ok := okF itab "kids") (f := "kids") (c := "Fork") (fs := putFD "parting" a []) rfl (by exact (by decide : (1 : Nat) < 1000))
  simp [f_Fork___init__, b_Fork___init__, runB_ev, p1, p2]
  rfl
theorem init_rest {M : Mem} {a b : D} : f_Rest___init__ [.obj M.length, a, b] (M ++ [.ins "Rest" []]) = .ok .non (M ++ [.ins "Rest" [("text", a), ("behind", b)]]) := by
  have p1 := fun r => putAttr_last (r := r) (M := M) (d := a) (ok := okF itab "text") (f := "text") (c := "Rest") (fs := []) rfl (by decide)
  have p2 := fun r => putAttr_last (r := r) (M := M) (d := b) (ok := okF itab "behind") (f := "behind") (c := "Rest") (fs := putFD "text" a []) rfl (by exact (by decide : (1 : Nat) < 1000))
  simp [f_Rest___init__, b_Rest___init__, runB_ev, p1, p2]
  rfl
theorem init_free {M : Mem} {a : D} : f_Free___init__ [.obj M.length, a] (M ++ [.ins "Free" []]) = .ok .non (M ++ [.ins "Free" [("behind", a)]]) := by
  have p1 := fun r => putAttr_last (r := r) (M := M) (d := a) (ok := okF itab "behind") (f := "behind") (c := "Free") (fs := []) rfl (by decide)
  simp [f_Free___init__, b_Free___init__, runB_ev, p1]
  rfl
theorem made_head {M : Mem} {a b c d : Int} (h : Good (.head a b c d)) : f_made [(Pg.head a b c d).toD] M = .ok (.obj M.length) (M ++ [(Pg.head a b c d).obj]) := by
  obtain ⟨h1, h2, h3, h4⟩ := h
  have k := compL_img (t := dYes) (de := c1_made) (r := [some (Pg.head a b c d).toD, none, none, none]) (M := M) (dg := gSlot 1) (f := D.int) (g := fun _ => .bl true) [a, b, c, d] [] (fun n hn => ⟨_, rfl, rfl, by
    have hn : NumOk 0 n := by
      simp only [List.mem_cons, List.mem_nil_iff, or_false] at hn
      rcases hn with rfl | rfl | rfl | rfl <;> assumption
    simp [c1_made, is_number_ok (M := M) hn]⟩) (by simp)
  simp [Pg.toD] at k
  have al := all_true (l := [a, b, c, d]) (M := M)
  simp at al
  simp [f_made, b_made, runB_ev, Pg.toD, has_word_ev so_head so_head, bq_head_head, cutN_one, k, al, init_head, Pg.obj]
theorem made_leaf {M : Mem} {rows : List Row} (h : Good (.leaf rows)) : f_made [(Pg.leaf rows).toD] M = .ok (.obj M.length) (M ++ [(Pg.leaf rows).obj]) := by
  obtain ⟨h1, h2⟩ := h
  have hl : rows.length ≤ 63 := by have := h1.many; simpa using this
  have k1 := compL_img (t := dYes) (de := c2_made) (r := [some (Pg.leaf rows).toD, none, none, none]) (M := M) (dg := gSlot 2) (f := rowD) (g := fun _ => .bl true) rows [] (fun n hn => ⟨_, rfl, rfl, by
    simp [c2_made, is_row_ok (M := M) (h1.key n.1 (List.mem_map.mpr ⟨n, hn, rfl⟩)) (h2 n hn)]⟩) (by simp; omega)
  have k2 := compL_img (t := dYes) (de := c3_made) (r := [some (Pg.leaf rows).toD, none, none, none]) (M := M) (dg := gSlot 2) (f := rowD) (g := fun r => keyD r.1) rows [] (fun n hn => ⟨_, rfl, rfl, by
    simp [c3_made, rowD, keyD]⟩) (by simp; omega)
  have k3 := are_keys_ok (M := M) h1
  have e : (rows.map (·.1)).map keyD = rows.map fun r => keyD r.1 := by rw [List.map_map]; rfl
  rw [e] at k3
  rw [List.nil_append] at k1 k2
  simp only [Pg.toD] at k1 k2
  simp [f_made, b_made, runB_ev, Pg.toD, has_word_ev so_leaf so_head, has_word_ev so_leaf so_leaf, bq_leaf_head, bq_leaf_leaf, k1, all_true, k2, k3, init_leaf, Pg.obj]
theorem made_fork {M : Mem} {keys : List (List Nat)} {kids : List Int} (h : Good (.fork keys kids)) : f_made [(Pg.fork keys kids).toD] M = .ok (.obj M.length) (M ++ [(Pg.fork keys kids).obj]) := by
  obtain ⟨h1, h2, h3⟩ := h
  have hl := h1.many
  have k1 := compL_img (t := dYes) (de := c4_made) (r := [some (Pg.fork keys kids).toD, none, none, none]) (M := M) (dg := gSlot 3) (f := D.int) (g := fun _ => .bl true) kids [] (fun n hn => ⟨_, rfl, rfl, by
    simp [c4_made, is_number_ok (M := M) (h2 n hn)]⟩) (by simp; omega)
  have k3 := are_keys_ok (M := M) h1
  have nl : newL false (keys.map keyD) M = .ok (.lst (keys.map keyD)) M := newL_f (by simp; omega)
  have q : ((kids.length : Int) = (keys.length : Int) + 1) := by omega
  rw [List.nil_append] at k1
  simp only [Pg.toD] at k1
  simp [f_made, b_made, runB_ev, Pg.toD, has_word_ev so_fork so_head, has_word_ev so_fork so_leaf, has_word_ev so_fork so_fork, bq_fork_head, bq_fork_leaf, bq_fork_fork, k1, all_true, k3, nl, decide_eq_true q, init_fork, Pg.obj]
theorem made_rest {M : Mem} {t : List Nat} {n : Int} (h : Good (.rest t n)) : f_made [(Pg.rest t n).toD] M = .ok (.obj M.length) (M ++ [(Pg.rest t n).obj]) := by
  obtain ⟨h1, h2, h3, h4⟩ := h
  have so : PyData.strOk (tx t) = true := by
    rw [strOk_tx, List.all_eq_true]
    intro c hc
    have := h1 c hc
    unfold okc at this
    simp at this ⊢
    omega
  have ne : fNe (.str (tx t)) (.str (Str.ofString "")) M = .ok (.bl true) M := by
    rw [fNe_str so (by decide +kernel), tx_empty, tx_beq]
    cases t with
    | nil => simp at h2
    | cons => rfl
  simp [f_made, b_made, runB_ev, Pg.toD, has_word_ev so_rest so_head, has_word_ev so_rest so_leaf, has_word_ev so_rest so_fork, has_word_ev so_rest so_rest, bq_rest_head, bq_rest_leaf, bq_rest_fork, bq_rest_rest, is_value_ok (M := M) h1 h3, ne, is_number_ok h4, init_rest, Pg.obj]
theorem made_free {M : Mem} {n : Int} (h : Good (.free n)) : f_made [(Pg.free n).toD] M = .ok (.obj M.length) (M ++ [(Pg.free n).obj]) := by
  simp [f_made, b_made, runB_ev, Pg.toD, has_word_ev so_free so_head, has_word_ev so_free so_leaf, has_word_ev so_free so_fork, has_word_ev so_free so_rest, has_word_ev so_free so_free, bq_free_head, bq_free_leaf, bq_free_fork, bq_free_rest, bq_free_free, is_number_ok h, init_free, Pg.obj]
theorem made_ok {p : Pg} {M : Mem} (h : Good p) : f_made [p.toD] M = .ok (.obj M.length) (M ++ [p.obj]) := by
  cases p with
  | head a b c d => exact made_head h
  | leaf rows => exact made_leaf h
  | fork keys kids => exact made_fork h
  | rest t n => exact made_rest h
  | free n => exact made_free h
theorem need_page_ok {p : Pg} {M : Mem} (h : Good p) : f_need_page [p.toD] M = .ok (.obj M.length) (M ++ [p.obj]) := by
  simp [f_need_page, b_need_page, runB_ev, made_ok (M := M) h]
end K03
set_option Elab.async false
set_option linter.all false
set_option maxRecDepth 100000
set_option maxHeartbeats 4000000
namespace K03
open PySem PySem.Spec PyProof.Rows L2 LF
theorem dig1_len (n : Int) : (digL 1 n).length = 1 := rfl
theorem dig2_len (n : Int) : (digL 2 n).length = 2 := rfl
theorem dg1 {n : Int} {M : Mem} (h0 : 0 ≤ n) (h1 : n < 64) : f_digits [.int n, .int 1] M = .ok (.str (tx (digL 1 n))) M := digits_ok n 1 M (.inl rfl) h0 (Int.ediv_eq_zero_of_lt h0 (show n < 64 by omega))
theorem dg2 {n : Int} {M : Mem} (h0 : 0 ≤ n) (h1 : n < 4096) : f_digits [.int n, .int 2] M = .ok (.str (tx (digL 2 n))) M := digits_ok n 2 M (.inr (.inl rfl)) h0 (Int.ediv_eq_zero_of_lt h0 (show n < 4096 by omega))
theorem ld1 {n : Int} {M : Mem} : f__law_digits [.int n, .int 1] M = .ok (.str (tx (digL 1 n))) M := ldigits_ok n 1 M (.inl rfl)
theorem ld2 {n : Int} {M : Mem} : f__law_digits [.int n, .int 2] M = .ok (.str (tx (digL 2 n))) M := ldigits_ok n 2 M (.inr (.inl rfl))
def keyB (k : List Nat) : List Nat := digL 1 k.length ++ k
def cellB : Cell → List Nat
  | .inn t => 105 :: (digL 1 t.length ++ t)
  | .out a b => 111 :: (digL 2 a ++ digL 2 b)
def rowB (r : Row) : List Nat := keyB r.1 ++ cellB r.2
def bodyL : Pg → List Nat
  | .head a b c d => digL 2 a ++ (digL 2 b ++ (digL 2 c ++ digL 2 d))
  | .leaf rows => digL 1 rows.length ++ (rows.map rowB).flatten
  | .fork keys kids => digL 1 keys.length ++ ((keys.map keyB).flatten ++ (kids.map (digL 2)).flatten)
  | .rest t n => digL 2 n ++ t
  | .free n => digL 2 n
theorem keyB_len {k : List Nat} (h : KeyOk k) : (keyB k).length ≤ 13 := by
  have := h.hi
  simp [keyB, dig1_len]
  omega
theorem cellB_len {c : Cell} (h : CellOk c) : (cellB c).length ≤ 65 := by
  cases c with
  | inn t =>
    have := h.2
    simp [cellB, dig1_len]
    omega
  | out a b => simp [cellB, dig2_len]
theorem flat_le {α : Type} {f : α → List Nat} {m : Nat} : ∀ {l : List α}, (∀ a ∈ l, (f a).length ≤ m) → (l.map f).flatten.length ≤ m * l.length
  | [], _ => by simp
  | a :: l, h => by
    have h1 := h a List.mem_cons_self
    have h2 := flat_le (l := l) fun x hx => h x (List.mem_cons_of_mem _ hx)
    simp only [List.map_cons, List.flatten_cons, List.length_append, List.length_cons, Nat.mul_add]
    omega
theorem i_tx : Str.ofString "i" = tx [105] := by rw [tx_lit]; rfl
theorem o_tx : Str.ofString "o" = tx [111] := by rw [tx_lit]; rfl
theorem key_body_ok {k : List Nat} {M : Mem} (h : KeyOk k) : f_key_body [keyD k] M = .ok (.str (tx (keyB k))) M := by
  have h1 := h.hi
  simp [f_key_body, b_key_body, runB_ev, keyD, fLen_tx (l := k) (M := M) (by omega), dg1 (n := (k.length : Nat)) (M := M) (by omega) (by omega), fAdd_tx (a := digL 1 k.length) (b := k) (M := M) (by simp [dig1_len]; omega), keyB]
theorem cell_body_ok {c : Cell} {M : Mem} (h : CellOk c) : f_cell_body [c.toD] M = .ok (.str (tx (cellB c))) M := by
  cases c with
  | inn t =>
    have h1 := h.2
    have a1 := fAdd_tx (a := [105]) (b := digL 1 t.length) (M := M) (by simp [dig1_len])
    have a2 := fAdd_tx (a := [105] ++ digL 1 t.length) (b := t) (M := M) (by simp [dig1_len]; omega)
    simp only [List.cons_append, List.nil_append] at a1 a2
    simp [f_cell_body, b_cell_body, runB_ev, Cell.toD, lit_eq so_in so_in bq_in_in, fLen_tx (l := t) (M := M) (by omega), dg1 (n := (t.length : Nat)) (M := M) (by omega) (by omega), i_tx, a1, a2, cellB]
  | out a b =>
    obtain ⟨⟨h1, h2⟩, h3, h4⟩ := h
    have a1 := fAdd_tx (a := [111]) (b := digL 2 a) (M := M) (by simp [dig2_len])
    have a2 := fAdd_tx (a := [111] ++ digL 2 a) (b := digL 2 b) (M := M) (by simp [dig2_len])
    simp only [List.cons_append, List.nil_append] at a1 a2
    simp [f_cell_body, b_cell_body, runB_ev, Cell.toD, lit_eq so_out so_in bq_out_in, dg2 (n := a) (M := M) (by omega) (by omega), dg2 (n := b) (M := M) (by omega) (by omega), o_tx, a1, a2, cellB]
theorem body_head {M : Mem} {n : Nat} {a b c d : Int} (hM : M[n]? = some (Pg.head a b c d).obj) (h : Good (.head a b c d)) : f_Head_body [.obj n] M = .ok (.str (tx (bodyL (.head a b c d)))) M := by
  obtain ⟨h1, h2, h3, h4⟩ := h
  have g1 := fAttr_of (f := "top") (d := .int a) (ok := okF itab "top") hM rfl rfl
  have g2 := fAttr_of (f := "depth") (d := .int b) (ok := okF itab "depth") hM rfl rfl
  have g3 := fAttr_of (f := "amount") (d := .int c) (ok := okF itab "amount") hM rfl rfl
  have g4 := fAttr_of (f := "free") (d := .int d) (ok := okF itab "free") hM rfl rfl
  have k := compL_img (t := dYes) (de := c1_Head_body) (r := [some (.obj n), none]) (M := M) (dg := gSlot 1) (f := D.int) (g := fun n => .str (tx (digL 2 n))) [a, b, c, d] [] (fun n hn => ⟨_, rfl, rfl, by
    have hn : NumOk 0 n := by
      simp only [List.mem_cons, List.mem_nil_iff, or_false] at hn
      rcases hn with rfl | rfl | rfl | rfl <;> assumption
    simp [c1_Head_body, dg2 (M := M) hn.1 (by have := hn.2; omega)]⟩) (by simp)
  simp at k
  have j := mJoin_flat (f := digL 2) (l := [a, b, c, d]) (M := M) (by simp [dig2_len])
  simp at j
  simp [f_Head_body, b_Head_body, runB_ev, g1, g2, g3, g4, k, tx_empty, j, bodyL]
theorem body_leaf {M : Mem} {n : Nat} {rows : List Row} (hM : M[n]? = some (Pg.leaf rows).obj) (h : Good (.leaf rows)) : f_Leaf_body [.obj n] M = .ok (.str (tx (bodyL (.leaf rows)))) M := by
  obtain ⟨h1, h2⟩ := h
  have hl : rows.length ≤ 63 := by have := h1.many; simpa using this
  have kl : ∀ r ∈ rows, KeyOk r.1 := fun r hr => h1.key r.1 (List.mem_map.mpr ⟨r, hr, rfl⟩)
  have g1 := fAttr_of (f := "entries") (ok := okF itab "entries") (d := .tup (rows.map rowD)) hM rfl rfl
  have k := compL_img (t := dYes) (de := c1_Leaf_body) (r := [some (.obj n), none, none]) (M := M) (dg := gTupD 2 (gsCons (gSlot 1) (gsCons (gSlot 2) gsNil))) (f := rowD) (g := fun r => .str (tx (rowB r))) rows [] (fun r hr => ⟨_, rfl, rfl, by
    have e1 := keyB_len (kl r hr)
    have e2 := cellB_len (h2 r hr)
    have e3 := key_body_ok (M := M) (kl r hr)
    simp only [keyD] at e3
    simp [c1_Leaf_body, e3, cell_body_ok (M := M) (h2 r hr), fAdd_tx (a := keyB r.1) (b := cellB r.2) (M := M) (by omega), rowB]⟩) (by simp; omega)
  rw [List.nil_append] at k
  have fl : (rows.map rowB).flatten.length ≤ 78 * rows.length := flat_le fun r hr => by
    have e1 := keyB_len (kl r hr)
    have e2 := cellB_len (h2 r hr)
    simp [rowB]
    omega
  have j := mJoin_flat (f := rowB) (l := rows) (M := M) (by omega)
  have a1 := fAdd_tx (a := digL 1 rows.length) (b := (rows.map rowB).flatten) (M := M) (by rw [dig1_len]; omega)
  simp [-List.length_flatten, f_Leaf_body, b_Leaf_body, runB_ev, g1, dg1 (n := (rows.length : Nat)) (M := M) (by omega) (by omega), k, tx_empty, j, a1, bodyL]
theorem body_fork {M : Mem} {n : Nat} {keys : List (List Nat)} {kids : List Int} (hM : M[n]? = some (Pg.fork keys kids).obj) (h : Good (.fork keys kids)) : f_Fork_body [.obj n] M = .ok (.str (tx (bodyL (.fork keys kids)))) M := by
  obtain ⟨h1, h2, h3⟩ := h
  have hl := h1.many
  have g1 := fAttr_of (f := "parting") (ok := okF itab "parting") (d := .tup (keys.map keyD)) hM rfl rfl
  have g2 := fAttr_of (f := "kids") (ok := okF itab "kids") (d := .tup (kids.map .int)) hM rfl rfl
  have k := fun x => compL_img (t := dYes) (de := c1_Fork_body) (r := [some (.obj n), x, none, none]) (M := M) (dg := gSlot 2) (f := keyD) (g := fun r => .str (tx (keyB r))) keys [] (fun r hr => ⟨_, rfl, rfl, by
    simp [c1_Fork_body, key_body_ok (M := M) (h1.key r hr)]⟩) (by simp; omega)
  have k2 := fun x => compL_img (t := dYes) (de := c2_Fork_body) (r := [some (.obj n), x, none, none]) (M := M) (dg := gSlot 3) (f := D.int) (g := fun r => .str (tx (digL 2 r))) kids [] (fun r hr => ⟨_, rfl, rfl, by
    have hn := h2 r hr
    simp [c2_Fork_body, dg2 (M := M) (n := r) (by have := hn.1; omega) (by have := hn.2; omega)]⟩) (by simp; omega)
  simp only [List.nil_append] at k k2
  have fl : (keys.map keyB).flatten.length ≤ 13 * keys.length := flat_le fun r hr => keyB_len (h1.key r hr)
  have fl2 : (kids.map (digL 2)).flatten.length ≤ 2 * kids.length := flat_le fun r hr => Nat.le_refl _
  have j := mJoin_flat (f := keyB) (l := keys) (M := M) (by omega)
  have j2 := mJoin_flat (f := digL 2) (l := kids) (M := M) (by omega)
  have a1 := fAdd_tx (a := digL 1 keys.length) (b := (keys.map keyB).flatten) (M := M) (by rw [dig1_len]; omega)
  have a2 := fAdd_tx (a := digL 1 keys.length ++ (keys.map keyB).flatten) (b := (kids.map (digL 2)).flatten) (M := M) (by rw [List.length_append, dig1_len]; omega)
  rw [List.append_assoc] at a2
  simp [-List.length_flatten, f_Fork_body, b_Fork_body, runB_ev, g1, g2, dg1 (n := (keys.length : Nat)) (M := M) (by omega) (by omega), k, k2, tx_empty, j, j2, a1, a2, bodyL]
theorem body_rest {M : Mem} {n : Nat} {t : List Nat} {m : Int} (hM : M[n]? = some (Pg.rest t m).obj) (h : Good (.rest t m)) : f_Rest_body [.obj n] M = .ok (.str (tx (bodyL (.rest t m)))) M := by
  obtain ⟨h1, h2, h3, h4, h5⟩ := h
  have g1 := fAttr_of (f := "text") (ok := okF itab "text") (d := .str (tx t)) hM rfl rfl
  have g2 := fAttr_of (f := "behind") (ok := okF itab "behind") (d := .int m) hM rfl rfl
  have a1 := fAdd_tx (a := digL 2 m) (b := t) (M := M) (by rw [dig2_len]; omega)
  simp [f_Rest_body, b_Rest_body, runB_ev, g1, g2, dg2 (n := m) (M := M) (by omega) (by omega), a1, bodyL]
theorem body_free {M : Mem} {n : Nat} {m : Int} (hM : M[n]? = some (Pg.free m).obj) (h : Good (.free m)) : f_Free_body [.obj n] M = .ok (.str (tx (bodyL (.free m)))) M := by
  obtain ⟨h4, h5⟩ := h
  have g2 := fAttr_of (f := "behind") (ok := okF itab "behind") (d := .int m) hM rfl rfl
  simp [f_Free_body, b_Free_body, runB_ev, g2, dg2 (n := m) (M := M) (by omega) (by omega), bodyL]
theorem body_meth {M : Mem} {n : Nat} {p : Pg} {r : Env'} (hM : M[n]? = some p.obj) (h : Good p) : methK1 "body" mt_body (.ok (.obj n) M) dNil r = .ok (.str (tx (bodyL p))) M := by
  cases p with
  | head a b c d =>
    rw [methK1_of (F := f_Head_body) (k := 1) hM rfl rfl]
    simp [body_head hM h]
  | leaf rows =>
    rw [methK1_of (F := f_Leaf_body) (k := 1) hM rfl rfl]
    simp [body_leaf hM h]
  | fork keys kids =>
    rw [methK1_of (F := f_Fork_body) (k := 1) hM rfl rfl]
    simp [body_fork hM h]
  | rest t n =>
    rw [methK1_of (F := f_Rest_body) (k := 1) hM rfl rfl]
    simp [body_rest hM h]
  | free n =>
    rw [methK1_of (F := f_Free_body) (k := 1) hM rfl rfl]
    simp [body_free hM h]
theorem body_of_ok {p : Pg} {M : Mem} (h : Good p) : f_body_of [p.toD] M = .ok (.str (tx (bodyL p))) (M ++ [p.obj]) := by
  have b := fun r => body_meth (r := r) (n := M.length) (M := M ++ [p.obj]) (p := p) last_at h
  simp [f_body_of, b_body_of, runB_ev, need_page_ok (M := M) h, b]
end K03
set_option Elab.async false
set_option linter.all false
set_option maxRecDepth 100000
set_option maxHeartbeats 4000000
namespace K03
open PySem PySem.Spec PyProof.Rows L2 LF
def RowOk (r : Row) : Prop := KeyOk r.1 ∧ CellOk r.2
theorem rowB_len {r : Row} (h : RowOk r) : (rowB r).length ≤ 78 := by
  have e1 := keyB_len h.1
  have e2 := cellB_len h.2
  simp [rowB]
  omega
theorem l4_ok {P : D} {M : Mem} {acc : List Nat} {r : Row} {x4 x5 : Option D} (h : RowOk r) (hl : acc.length ≤ 10000) :
    l4__law_body [some P, some (.str (tx acc)), some (keyD r.1), some r.2.toD, x4, x5] M = .nx [some P, some (.str (tx (acc ++ rowB r))), some (keyD r.1), some r.2.toD, x4, x5] M := by
  obtain ⟨k, c⟩ := r
  obtain ⟨h1, h2⟩ := h
  have h3 : k.length ≤ 12 := h1.hi
  have a1 := fAdd_tx (a := acc) (b := digL 1 k.length) (M := M) (by simp [dig1_len]; omega)
  have a2 := fAdd_tx (a := acc ++ digL 1 k.length) (b := k) (M := M) (by simp [dig1_len]; omega)
  cases c with
  | inn t =>
    have h4 : t.length ≤ 63 := h2.2
    have a3 := fAdd_tx (a := (acc ++ digL 1 k.length) ++ k) (b := [105]) (M := M) (by simp [dig1_len]; omega)
    have a4 := fAdd_tx (a := ((acc ++ digL 1 k.length) ++ k) ++ [105]) (b := digL 1 t.length) (M := M) (by simp [dig1_len]; omega)
    have a5 := fAdd_tx (a := (((acc ++ digL 1 k.length) ++ k) ++ [105]) ++ digL 1 t.length) (b := t) (M := M) (by simp [dig1_len]; omega)
    simp only [List.append_assoc, List.cons_append, List.nil_append] at a1 a2 a3 a4 a5
    simp [l4__law_body, keyD, Cell.toD, fLen_tx (l := k) (M := M) (by omega), fLen_tx (l := t) (M := M) (by omega), ld1, lit_eq so_in so_in bq_in_in, i_tx, a1, a2, a3, a4, a5, rowB, keyB, cellB]
  | out a b =>
    have a3 := fAdd_tx (a := (acc ++ digL 1 k.length) ++ k) (b := [111]) (M := M) (by simp [dig1_len]; omega)
    have a4 := fAdd_tx (a := ((acc ++ digL 1 k.length) ++ k) ++ [111]) (b := digL 2 a) (M := M) (by simp [dig1_len, dig2_len]; omega)
    have a5 := fAdd_tx (a := (((acc ++ digL 1 k.length) ++ k) ++ [111]) ++ digL 2 a) (b := digL 2 b) (M := M) (by simp [dig1_len, dig2_len]; omega)
    simp only [List.append_assoc, List.cons_append, List.nil_append] at a1 a2 a3 a4 a5
    simp [l4__law_body, keyD, Cell.toD, fLen_tx (l := k) (M := M) (by omega), ld1, ld2, lit_eq so_out so_in bq_out_in, o_tx, a1, a2, a3, a4, a5, rowB, keyB, cellB]
theorem leaf_loop {P : D} {M : Mem} : ∀ (rows : List Row) (acc : List Nat) (x2 x3 x4 x5 : Option D), (∀ r ∈ rows, RowOk r) → acc.length + 78 * rows.length ≤ 10000 →
    ∃ y2 y3, forL anyM (gTupD 2 (gsCons (gSlot 2) (gsCons (gSlot 3) gsNil))) l4__law_body (rows.map rowD) [some P, some (.str (tx acc)), x2, x3, x4, x5] M = .nx [some P, some (.str (tx (acc ++ (rows.map rowB).flatten))), y2, y3, x4, x5] M
  | [], acc, x2, x3, x4, x5, _, _ => ⟨x2, x3, by simp⟩
  | r :: rows, acc, x2, x3, x4, x5, h, hl => by
    rw [List.length_cons] at hl
    have h1 := h r List.mem_cons_self
    have h2 := rowB_len h1
    obtain ⟨y2, y3, ih⟩   := leaf_loop (P := P) (M := M) rows (acc ++ rowB r) (some (keyD r.1)) (some r.2.toD) x4 x5 (fun x hx => h x (List.mem_cons_of_mem _ hx)) (by simp; omega)
    refine ⟨y2, y3, ?_⟩
    have e := l4_ok (P := P) (M := M) (acc := acc) (x4 := x4) (x5 := x5) h1 (by omega)
    simp only [keyD, List.append_assoc] at e ih
    simp [rowD, e, ih]
theorem fork_loop {P : D} {M : Mem} : ∀ (keys : List (List Nat)) (acc : List Nat) (x2 x3 x4 x5 : Option D), (∀ r ∈ keys, KeyOk r) → acc.length + 13 * keys.length ≤ 10000 →
    ∃ y2, forL anyM (gSlot 2) l2__law_body (keys.map keyD) [some P, some (.str (tx acc)), x2, x3, x4, x5] M = .nx [some P, some (.str (tx (acc ++ (keys.map keyB).flatten))), y2, x3, x4, x5] M
  | [], acc, x2, x3, x4, x5, _, _ => ⟨x2, by simp⟩
  | k :: keys, acc, x2, x3, x4, x5, h, hl => by
    rw [List.length_cons] at hl
    have h1 := h k List.mem_cons_self
    have h2 := keyB_len h1
    have h3 := h1.hi
    obtain ⟨y2, ih⟩ := fork_loop (P := P) (M := M) keys (acc ++ keyB k) (some (keyD k)) x3 x4 x5 (fun x hx => h x (List.mem_cons_of_mem _ hx)) (by simp; omega)
    refine ⟨y2, ?_⟩
    have a1 := fAdd_tx (a := acc) (b := digL 1 k.length) (M := M) (by simp [dig1_len]; omega)
    have a2 := fAdd_tx (a := acc ++ digL 1 k.length) (b := k) (M := M) (by simp [dig1_len]; omega)
    have e : l2__law_body [some P, some (.str (tx acc)), some (keyD k), x3, x4, x5] M = .nx [some P, some (.str (tx (acc ++ keyB k))), some (keyD k), x3, x4, x5] M := by
      simp only [List.append_assoc] at a1 a2
      simp [l2__law_body, keyD, fLen_tx (l := k) (M := M) (by omega), ld1, a1, a2, keyB]
    simp only [List.append_assoc] at ih
    simp [e, ih]
theorem lbody_ok {p : Pg} {M : Mem} (h : Good p) : f__law_body [p.toD] M = .ok (.str (tx (bodyL p))) M := by
  cases p with
  | head a b c d =>
    have k := compL_img (t := dYes) (de := c1__law_body) (r := [some (Pg.head a b c d).toD, none, none, none, none, none]) (M := M) (dg := gSlot 4) (f := D.int) (g := fun n => .str (tx (digL 2 n))) [a, b, c, d] [] (fun n hn => ⟨_, rfl, rfl, by simp [c1__law_body, ld2]⟩) (by simp)
    simp [Pg.toD] at k
    have j := mJoin_flat (f := digL 2) (l := [a, b, c, d]) (M := M) (by simp [dig2_len])
    simp at j
    simp [f__law_body, b__law_body, runB_ev, Pg.toD, lit_eq so_head so_rest bq_head_rest, lit_eq so_head so_head bq_head_head, cutN_one, k, tx_empty, j, bodyL]
  | free n =>
    have k := compL_img (t := dYes) (de := c1__law_body) (r := [some (Pg.free n).toD, none, none, none, none, none]) (M := M) (dg := gSlot 4) (f := D.int) (g := fun n => .str (tx (digL 2 n))) [n] [] (fun n hn => ⟨_, rfl, rfl, by simp [c1__law_body, ld2]⟩) (by simp)
    simp [Pg.toD] at k
    have j := mJoin_flat (f := digL 2) (l := [n]) (M := M) (by simp [dig2_len])
    simp at j
    simp [f__law_body, b__law_body, runB_ev, Pg.toD, lit_eq so_free so_rest bq_free_rest, lit_eq so_free so_head bq_free_head, lit_eq so_free so_free bq_free_free, cutN_one, k, tx_empty, j, bodyL]
  | rest t n =>
    obtain ⟨h1, h2, h3, h4, h5⟩ := h
    have a1 := fAdd_tx (a := digL 2 n) (b := t) (M := M) (by rw [dig2_len]; omega)
    simp [f__law_body, b__law_body, runB_ev, Pg.toD, lit_eq so_rest so_rest bq_rest_rest, ld2, a1, bodyL]
  | fork keys kids =>
    obtain ⟨h1, h2, h3⟩ := h
    have hl := h1.many
    obtain ⟨y2, q⟩ := fork_loop (P := (Pg.fork keys kids).toD) (M := M) keys (digL 1 keys.length) none none none none h1.key (by rw [dig1_len]; omega)
    have k := fun x1 x2 => compL_img (t := dYes) (de := c3__law_body) (r := [some (Pg.fork keys kids).toD, x1, x2, none, none, none]) (M := M) (dg := gSlot 5) (f := D.int) (g := fun n => .str (tx (digL 2 n))) kids [] (fun n hn => ⟨_, rfl, rfl, by simp [c3__law_body, ld2]⟩) (by simp; omega)
    have fl : (keys.map keyB).flatten.length ≤ 13 * keys.length := flat_le fun r hr => keyB_len (h1.key r hr)
    have fl2 : (kids.map (digL 2)).flatten.length ≤ 2 * kids.length := flat_le fun r hr => Nat.le_refl _
    have j2 := mJoin_flat (f := digL 2) (l := kids) (M := M) (by omega)
    have a2 := fAdd_tx (a := digL 1 keys.length ++ (keys.map keyB).flatten) (b := (kids.map (digL 2)).flatten) (M := M) (by rw [List.length_append, dig1_len]; omega)
    rw [List.append_assoc] at a2
    simp only [List.nil_append, Pg.toD] at k q
    simp [-List.length_flatten, f__law_body, b__law_body, runB_ev, Pg.toD, lit_eq so_fork so_rest bq_fork_rest, lit_eq so_fork so_head bq_fork_head, lit_eq so_fork so_free bq_fork_free, lit_eq so_fork so_fork bq_fork_fork, ld1, q, k, tx_empty, j2, a2, bodyL]
  | leaf rows =>
    obtain ⟨h1, h2⟩ := h
    have hl : rows.length ≤ 63 := by have := h1.many; simpa using this
    have kl : ∀ r ∈ rows, RowOk r := fun r hr => ⟨h1.key r.1 (List.mem_map.mpr ⟨r, hr, rfl⟩), h2 r hr⟩
    obtain ⟨y2, y3, q⟩ := leaf_loop (P := (Pg.leaf rows).toD) (M := M) rows (digL 1 rows.length) none none none none kl (by rw [dig1_len]; omega)
    simp only [Pg.toD] at q
    simp [-List.length_flatten, f__law_body, b__law_body, runB_ev, Pg.toD, lit_eq so_leaf so_rest bq_leaf_rest, lit_eq so_leaf so_head bq_leaf_head, lit_eq so_leaf so_free bq_leaf_free, lit_eq so_leaf so_fork bq_leaf_fork, ld1, q, bodyL]
end K03
set_option Elab.async false
set_option linter.all false
set_option maxRecDepth 100000
set_option maxHeartbeats 4000000
namespace K03
open PySem PySem.Spec PyProof.Rows L2 LF
theorem mul_tx (c : Nat) (n : Int) : Txt.mul (tx [c]) n = tx (List.replicate n.toNat c) := TL.ext_tl (mul_one_list c n)
structure Fit (p : Pg) (sz : Nat) : Prop where
  lo : 64 ≤ sz
  hi : sz ≤ 200
  room : (bodyL p).length + 5 ≤ sz
theorem sgN_ok (n : Int) : okc (sgN (n % 64)) = true := by
  have h := (sg_mem (i := n % 64) (by omega) (by omega)).1
  have : ∀ c ∈ SL, okc c = true := by decide +kernel
  exact this _ h
theorem dig_ok (m n : Int) : TxtOk (digL m n) := by
  intro c hc
  unfold digL at hc
  split at hc
  · simp at hc
    subst hc
    exact sgN_ok n
  · split at hc <;> simp at hc
    · rcases hc with rfl | rfl <;> exact sgN_ok _
    · rcases hc with rfl | rfl | rfl <;> exact sgN_ok _
theorem TxtOk.app {a b : List Nat} (h1 : TxtOk a) (h2 : TxtOk b) : TxtOk (a ++ b) := fun c hc => by
  rcases List.mem_append.mp hc with h | h
  · exact h1 c h
  · exact h2 c h
theorem TxtOk.cons {c : Nat} {b : List Nat} (h1 : okc c = true) (h2 : TxtOk b) : TxtOk (c :: b) := fun d hd => by
  rcases List.mem_cons.mp hd with rfl | h
  · exact h1
  · exact h2 d h
theorem TxtOk.flat {α : Type} {f : α → List Nat} {l : List α} (h : ∀ a ∈ l, TxtOk (f a)) : TxtOk (l.map f).flatten := fun c hc => by
  obtain ⟨x, hx, hcx⟩ := List.mem_flatten.mp hc
  obtain ⟨a, ha, rfl⟩ := List.mem_map.mp hx
  exact h a ha c hcx
theorem keyB_ok {k : List Nat} (h : KeyOk k) : TxtOk (keyB k) := (dig_ok 1 _).app h.t
theorem cellB_ok {c : Cell} (h : CellOk c) : TxtOk (cellB c) := by
  cases c with
  | inn t => exact TxtOk.cons rfl ((dig_ok 1 _).app h.1)
  | out a b => exact TxtOk.cons rfl ((dig_ok 2 _).app (dig_ok 2 _))
theorem bodyL_ok {p : Pg} (h : Good p) : TxtOk (bodyL p) := by
  cases p with
  | head a b c d => exact (dig_ok 2 _).app ((dig_ok 2 _).app ((dig_ok 2 _).app (dig_ok 2 _)))
  | leaf rows => exact (dig_ok 1 _).app (TxtOk.flat fun r hr => (keyB_ok (h.1.key r.1 (List.mem_map.mpr ⟨r, hr, rfl⟩))).app (cellB_ok (h.2 r hr)))
  | fork keys kids => exact (dig_ok 1 _).app ((TxtOk.flat fun r hr => keyB_ok (h.1.key r hr)).app (TxtOk.flat fun r hr => dig_ok 2 _))
  | rest t n => exact (dig_ok 2 _).app h.1
  | free n => exact dig_ok 2 _
theorem okc_al {c : Nat} (h : okc c = true) : c ∈ AL := by
  have hk : c < 127 := by
    unfold okc at h
    simp at h
    omega
  have : ∀ k : Fin 127, okc k.val = true → k.val ∈ AL := by decide +kernel
  exact this ⟨c, hk⟩ h
theorem need_size_ok {sz : Nat} {M : Mem} (h0 : 64 ≤ sz) (h1 : sz ≤ 200) : f_need_size [.int (sz : Nat)] M = .ok .non M := by
  have a1 : (64 : Int) ≤ (sz : Nat) := by omega
  have a2 : ((sz : Nat) : Int) ≤ 200 := by omega
  have e : f_is_size [.int (sz : Nat)] M = .ok (.bl true) M := by simp [f_is_size, b_is_size, runB_ev, is_whole_int, decide_eq_true a1, decide_eq_true a2]
  simp [f_need_size, b_need_size, runB_ev, e]
theorem bodyL_len {p : Pg} (h : Good p) : (bodyL p).length ≤ 6000 := by
  cases p with
  | head a b c d => simp [bodyL, dig2_len]
  | leaf rows =>
    have hl : rows.length ≤ 63 := by have := h.1.many; simpa using this
    have fl : (rows.map rowB).flatten.length ≤ 78 * rows.length := flat_le fun r hr => rowB_len ⟨h.1.key r.1 (List.mem_map.mpr ⟨r, hr, rfl⟩), h.2 r hr⟩
    rw [bodyL, List.length_append, dig1_len]
    omega
  | fork keys kids =>
    have hl := h.1.many
    have h3 := h.2.2
    have fl : (keys.map keyB).flatten.length ≤ 13 * keys.length := flat_le fun r hr => keyB_len (h.1.key r hr)
    have fl2 : (kids.map (digL 2)).flatten.length ≤ 2 * kids.length := flat_le fun r hr => Nat.le_refl _
    rw [bodyL, List.length_append, List.length_append, dig1_len]
    omega
  | rest t n =>
    have := h.2.2.1
    simp [bodyL, dig2_len]
    omega
  | free n => simp [bodyL, dig2_len]
theorem page_text_long {p : Pg} {sz : Nat} {M : Mem} (h : Good p) (h0 : 64 ≤ sz) (h1 : sz ≤ 200) (h2 : sz < (bodyL p).length + 5) : f_page_text [p.toD, .int (sz : Nat)] M = .ex ⟨"BadPage", ["number"], [.non]⟩ (M ++ [p.obj]) := by
  have b := fun r => body_meth (r := r) (n := M.length) (M := M ++ [p.obj]) (p := p) last_at h
  have hb := bodyL_len h
  have hg : ((sz : Int) - 5 < (bodyL p).length) := by omega
  simp [f_page_text, b_page_text, runB_ev, need_page_ok (M := M) h, need_size_ok h0 h1, b, fLen_tx (M := M ++ [p.obj]) (l := bodyL p) (by omega), decide_eq_true hg]
end K03
set_option Elab.async false
set_option linter.all false
set_option maxRecDepth 100000
set_option maxHeartbeats 4000000
namespace K03
open PySem PySem.Spec PyProof.Rows L2 LF
/-- keys that rise, in all -/
structure Ris (ks : List (List Nat)) : Prop where
  key : ∀ k ∈ ks, KeyOk k
  lt : ks.Pairwise (· < ·)
theorem Ris.rising {ks : List (List Nat)} (h : Ris ks) (l : ks.length ≤ 63) : Rising ks := by
  refine ⟨l, h.key, fun i a b ha hb => ?_⟩
  have h1 := List.getElem?_eq_some_iff.mp ha
  have h2 := List.getElem?_eq_some_iff.mp hb
  obtain ⟨h1, rfl⟩ := h1
  obtain ⟨h2, rfl⟩ := h2
  exact List.pairwise_iff_getElem.mp h.lt i (i + 1) h1 h2 (by omega)
theorem Ris.erase {ks : List (List Nat)} (h : Ris ks) (i : Nat) : Ris (ks.eraseIdx i) :=
  ⟨fun k hk => h.key k (List.mem_of_mem_eraseIdx hk), h.lt.sublist (List.eraseIdx_sublist ks i)⟩
theorem At.set {ns : List Int} {k : Int} {M : Mem} {d : Nat} {o : MO} (h : At ns k M) (hd : d ≠ 0) : At ns k (M.set d o) := by
  unfold At at *
  rw [List.getElem?_set_ne hd]
  exact h
theorem get_set0 {M : Mem} {d : Nat} {o : MO} (hd : d ≠ 0) : (M.set 0 o)[d]? = M[d]? := List.getElem?_set_ne (Ne.symm hd)
theorem al_txt {l : List Nat} (h : ∀ c ∈ l, c ∈ AL) : TxtOk l := fun c hc => (al_ok (h c hc)).1
theorem take2_len {l : List Nat} (hl : l.length = 12) {a s : Nat} (h1 : a < s) (h2 : s ≤ 12) : cutN l none (some (a : Int)) = l.take a ∧ (l.take a).length = a ∧ (cutN l (some ((a : Int) + 1)) (some (s : Int))).length = s - a - 1 ∧ ∀ c ∈ cutN l (some ((a : Int) + 1)) (some (s : Int)), c ∈ l := by
  refine ⟨cutN_to (by omega), by simp; omega, ?_, fun c hc => ?_⟩
  · unfold cutN
    rw [show (a : Int) + 1 = ((a + 1 : Nat) : Int) by omega, HT.sIx_nat, HT.sIx_nat]
    simp
    omega
  · unfold cutN at hc
    exact List.mem_of_mem_drop (List.mem_of_mem_take hc)
theorem rising_step {ns : List Int} {k : Int} {M : Mem} {base : List Nat} {d : Nat} {keys : List (List Nat)} {x1 x4 x5 x6 x7 x8 x9 : Option D} (hM : At ns k M) (h0 : 0 ≤ k) (h1 : k < 1000000000) (hd : d ≠ 0) (hD : M[d]? = some (.dic (setD keys))) (hb : base.length = 12) (hB : ∀ c ∈ base, c ∈ AL) (hk : keys.length ≤ 100) :
    ∃ key y5 y6 y7 y8 y9 M', KeyOk key ∧ l1__law_rising [some (.obj 0), x1, some (.str (tx base)), some (.obj d), x4, x5, x6, x7, x8, x9] M = .nx [some (.obj 0), x1, some (.str (tx base)), some (.obj d), x4, y5, y6, y7, y8, y9] M' ∧
      At ns (k + 1) M' ∧ M'[d]? = some (.dic (setD (if key ∈ keys then keys else keys ++ [key]))) := by
  obtain ⟨nn, n0, n1, e1, hN⟩ := lnext hM h0 h1
  have hD1 : (M.set 0 (St ns (k + 1)))[d]? = some (.dic (setD keys)) := by rw [get_set0 hd]; exact hD
  generalize M.set 0 (St ns (k + 1)) = N at *
  obtain ⟨si, ⟨s0, s1⟩, es⟩ := ix_ints (P := fun z => 1 ≤ z ∧ z ≤ 12) (ns := [1, 12, 1 + nn / 5 % 12, 3, 2 + nn / 5 % 3]) (i := nn % 5) (by omega) (by simp; omega) (fun z hz => by
    simp only [List.mem_cons, List.mem_nil_iff, or_false] at hz
    rcases hz with rfl | rfl | rfl | rfl | rfl <;> omega)
  simp only [List.map_cons, List.map_nil] at es
  obtain ⟨s, rfl⟩ : ∃ s : Nat, si = s := ⟨si.toNat, by omega⟩
  have a0 : 0 ≤ nn / 60 % (s : Int) := Int.emod_nonneg _ (by omega)
  have a1 : nn / 60 % (s : Int) < s := Int.emod_lt_of_pos _ (by omega)
  obtain ⟨a, ea⟩ : ∃ a : Nat, nn / 60 % (s : Int) = a := ⟨(nn / 60 % (s : Int)).toNat, by omega⟩
  have a2 : a < s := by omega
  obtain ⟨c, c1, c2⟩ := al_at (i := nn / 720 % 94) (by omega) (by omega)
  have ec := fIx_tx (M := N) (l := AL) (by rw [al_len]; omega) c1
  obtain ⟨t1, t2, t3, t4⟩ := take2_len hb a2 (by omega)
  have q1 := fSl_tx (M := N) (l := base) (lo := none) (hi := some (a : Int)) (by omega)
  rw [t1] at q1
  have q2 := fSl_tx (M := N) (l := base) (lo := some ((a : Int) + 1)) (hi := some (s : Int)) (by omega)
  generalize cutN base (some ((a : Int) + 1)) (some (s : Int)) = tail at *
  have q3 := fAdd_tx (M := N) (a := base.take a) (b := [c]) (by rw [t2]; simp; omega)
  have q4 := fAdd_tx (M := N) (a := base.take a ++ [c]) (b := tail) (by rw [List.length_append, t2, t3]; simp; omega)
  generalize hkey : base.take a ++ [c] ++ tail = key at *
  have kl : key.length = s := by rw [← hkey]; simp [t3]; omega
  have kA : ∀ x ∈ key, x ∈ AL := by
    rw [← hkey]
    intro x hx
    rcases List.mem_append.mp hx with hx | hx
    · rcases List.mem_append.mp hx with hx | hx
      · exact hB x (List.mem_of_mem_take hx)
      · simp at hx; subst hx; exact c2
    · exact hB x (t4 x hx)
  have p1 : ∀ r, putAt (.obj d) (.str (tx key)) (.bl true) r N = .nx r (N.set d (.dic (setD (if key ∈ keys then keys else keys ++ [key])))) := fun r => by
    rw [putAt_of (k := .inr (tx key)) rfl hD1 (by simp [setD]; omega), putD_set]
  have dl : d < N.length := (List.getElem?_eq_some_iff.mp hD1).1
  refine ⟨key, some (.int nn), some (.int (s : Nat)), some (.int (a : Nat)), some (.str (tx AL)), some (.str (tx [c])), N.set d (.dic (setD (if key ∈ keys then keys else keys ++ [key]))), ⟨al_txt kA, by omega, by omega⟩, ?_, hN.set hd, List.getElem?_set_self dl⟩
  simp [l1__law_rising, e1, es, ea, fMod_int (M := N) (i := nn / 60) (show (0 : Int) < (s : Nat) by omega), lsigns, fLen_tx (l := AL) (show AL.length ≤ 100000 by rw [al_len]; omega), al_len, ec, q1, q2, q3, q4, p1]
theorem rising_ok {ns : List Int} {k : Int} {M : Mem} (hM : At ns k M) (h0 : 0 ≤ k) (h1 : k < 900000000) (many : Int) (hm0 : 0 ≤ many) (hm : many ≤ 13) :
    ∃ ks k' M' n, Ris ks ∧ ks.length ≤ 13 ∧ f__law_rising [.obj 0, .int many] M = .ok (.obj n) M' ∧ M'[n]? = some (.lst (ks.map keyD)) ∧ n ≠ 0 ∧ At ns k' M' ∧ k ≤ k' ∧ k' ≤ k + 20 := by
  obtain ⟨nn, n0, n1, e1, hN⟩ := lnext hM h0 (by omega)
  have lN : 0 < (M.set 0 (St ns (k + 1))).length := (List.getElem?_eq_some_iff.mp hN).1
  generalize M.set 0 (St ns (k + 1)) = N at *
  obtain ⟨base, b1, b2, e2⟩ := ltext nn 12 N (by omega) (by omega)
  have b1 : base.length = 12 := b1
  obtain ⟨r', M', ef, keys, k', y4, y5, y6, y7, y8, y9, er, g1, g2, g3, g4, g5, g6, g7⟩ := forL_inv (chk := anyM) (dg := gSlot 4) (sb := l1__law_rising)
    (fun i r M => ∃ keys k' y4 y5 y6 y7 y8 y9, r = [some (.obj 0), some (.int many), some (.str (tx base)), some (.obj N.length), y4, y5, y6, y7, y8, y9] ∧ At ns k' M ∧ k + 1 ≤ k' ∧ k' ≤ k + 1 + i ∧ M[N.length]? = some (.dic (setD keys)) ∧ keys.Nodup ∧ (∀ x ∈ keys, KeyOk x) ∧ keys.length ≤ i)
    (irng 0 many.toNat) 0 [some (.obj 0), some (.int many), some (.str (tx base)), some (.obj N.length), none, none, none, none, none, none] (N ++ [.dic []]) (by
      rintro i d r M hd ⟨keys, k', y4, y5, y6, y7, y8, y9, rfl, g1, g2, g3, g4, g5, g6, g7⟩
      have hi : i < many.toNat := by
        have := (List.getElem?_eq_some_iff.mp hd).1
        simpa [irng] using this
      obtain ⟨key, z5, z6, z7, z8, z9, M2, k1, k2, k3, k4⟩ := rising_step (x1 := some (.int many)) (x4 := some d) (x5 := y5) (x6 := y6) (x7 := y7) (x8 := y8) (x9 := y9) g1 (by omega) (by omega) (by omega) g4 b1 b2 (by omega)
      refine ⟨rfl, _, _, rfl, _, M2, .inl k2, (if key ∈ keys then keys else keys ++ [key]), k' + 1, some d, z5, z6, z7, z8, z9, rfl, k3, by omega, by omega, k4, ?_, ?_, ?_⟩
      · split
        · exact g5
        · rename_i hn
          rw [List.nodup_append]
          refine ⟨g5, by simp, ?_⟩
          intro a ha b hb
          simp at hb
          subst hb
          exact fun z => hn (z ▸ ha)
      · split
        · exact g6
        · intro x hx
          rcases List.mem_append.mp hx with hx | hx
          · exact g6 x hx
          · simp at hx
            subst hx
            exact k1
      · split
        · omega
        · simp; omega) (fun _ _ _ => rfl)
    ⟨[], k + 1, none, none, none, none, none, none, rfl, hN.app, by omega, by omega, last_at, List.nodup_nil, by simp, by simp⟩
  subst er
  have li : (irng 0 many.toNat).length = many.toNat := by simp [irng]
  rw [li, Nat.zero_add] at g3 g7
  obtain ⟨ss, s1, s2, s3⟩ := sort_lt g5
  have sl : ss.length ≤ 13 := by rw [s2.length_eq]; omega
  have so := fSorted_dic (ar := true) g4 (keyStrs_set keys) (by simp; omega)
  rw [s1] at so
  have e3 : (ss.map tx).map D.str = ss.map keyD := by rw [List.map_map]; rfl
  rw [e3, newL_t (by simp; omega)] at so
  refine ⟨ss, k', M' ++ [.lst (ss.map keyD)], M'.length, ⟨fun x hx => g6 x (s2.mem_iff.mp hx), s3⟩, sl, ?_, last_at, ?_, g1.app, by omega, by omega⟩
  · have hr : dItR1 (dVar 1) [some (.obj 0), some (.int many), some (.str (tx base)), some (.obj N.length), none, none, none, none, none, none] (N ++ [.dic []]) = .ok ⟨irng 0 many.toNat, anyM⟩ (N ++ [.dic []]) := itR1K_ok (by omega) (by omega)
    simp [-dItR1_ev, f__law_rising, b__law_rising, runB_ev, e1, e2, hr, ef, so]
  · have := (List.getElem?_eq_some_iff.mp g1).1
    omega
theorem cell_ok {ns : List Int} {k : Int} {M : Mem} {sz : Nat} (hM : At ns k M) (h0 : 0 ≤ k) (h1 : k < 900000000) (z0 : 64 ≤ sz) (z1 : sz ≤ 200) : ∃ c, CellOk c ∧ f__law_cell [.obj 0, .int (sz : Nat)] M = .ok c.toD (M.set 0 (St ns (k + 1))) ∧ At ns (k + 1) (M.set 0 (St ns (k + 1))) := by
  obtain ⟨nn, n0, n1, e1, hN⟩ := lnext hM h0 (by omega)
  generalize M.set 0 (St ns (k + 1)) = N at *
  by_cases h3 : nn % 3 = 0
  · refine ⟨.out (1 + nn / 3 % 400) (1 + nn / 1200 % 4095), ⟨by omega, ⟨by omega, by omega⟩⟩, ?_, hN⟩
    simp [f__law_cell, b__law_cell, runB_ev, e1, decide_eq_true h3, Cell.toD]
  · obtain ⟨si, ⟨s0, s1⟩, es⟩ := ix_ints (P := fun z => 0 ≤ z ∧ z ≤ 63) (ns := [0, 1, (sz : Int) / 8, nn / 30 % ((sz : Int) / 8 + 1)]) (i := nn / 3 % 4) (by omega) (by simp; omega) (fun z hz => by
      have h8 : nn / 30 % ((sz : Int) / 8 + 1) < (sz : Int) / 8 + 1 := Int.emod_lt_of_pos _ (by omega)
      have h9 : 0 ≤ nn / 30 % ((sz : Int) / 8 + 1) := Int.emod_nonneg _ (by omega)
      simp only [List.mem_cons, List.mem_nil_iff, or_false] at hz
      rcases hz with rfl | rfl | rfl | rfl <;> omega)
    simp only [List.map_cons, List.map_nil] at es
    obtain ⟨l, l1, l2, e2⟩ := ltext nn si N (by omega) (by omega)
    refine ⟨.inn l, ⟨al_txt l2, by omega⟩, ?_, hN⟩
    simp [f__law_cell, b__law_cell, runB_ev, e1, decide_eq_false h3, fMod_int (M := N) (i := nn / 30) (show (0 : Int) < (sz : Int) / 8 + 1 by omega), es, e2, Cell.toD]
end K03
set_option Elab.async false
set_option linter.all false
set_option maxRecDepth 100000
set_option maxHeartbeats 4000000
namespace K03
open PySem PySem.Spec PyProof.Rows L2 LF
theorem head_elt {ns : List Int} {k : Int} {M : Mem} (hM : At ns k M) (h0 : 0 ≤ k) (h1 : k < 900000000) {x1 x2 x3 x4 x5 x6 x7 x8 x9 x10 : Option D} :
    ∃ z M', NumOk 0 z ∧ c1__law_page [some (.obj 0), x1, x2, x3, x4, x5, x6, x7, x8, x9, x10] M = .ok (.int z) M' ∧ At ns (k + 2) M' := by
  obtain ⟨n1, a0, a1, e1, hN⟩ := lnext hM h0 (by omega)
  generalize M.set 0 (St ns (k + 1)) = N at *
  obtain ⟨n2, b0, b1, e2, hO⟩ := lnext hN (by omega) (by omega)
  generalize N.set 0 (St ns (k + 1 + 1)) = O at *
  obtain ⟨z, z1, es⟩ := ix_ints (P := fun z => NumOk 0 z) (ns := [4095, 0, 63, 64, n1 % 4096]) (i := n2 % 5) (by omega) (by simp; omega) (fun z hz => by
    simp only [List.mem_cons, List.mem_nil_iff, or_false] at hz
    rcases hz with rfl | rfl | rfl | rfl | rfl <;> exact ⟨by omega, by omega⟩)
  simp only [List.map_cons, List.map_nil] at es
  refine ⟨z, O, z1, ?_, by rw [show k + 2 = k + 1 + 1 by omega]; exact hO⟩
  simp [c1__law_page, e1, e2, es]
theorem head_comp {ns : List Int} {k : Int} {M : Mem} (hM : At ns k M) (h0 : 0 ≤ k) (h1 : k < 800000000) {x1 x2 x3 x4 x5 x6 x7 x9 x10 : Option D} :
    ∃ a b c d M', (NumOk 0 a ∧ NumOk 0 b ∧ NumOk 0 c ∧ NumOk 0 d) ∧ compL anyM (gSlot 8) dYes c1__law_page [some (.obj 0), x1, x2, x3, x4, x5, x6, x7, none, x9, x10] (irng 0 4) [] M = .ok [.int a, .int b, .int c, .int d] M' ∧ At ns (k + 8) M' := by
  obtain ⟨ys, M', e, ⟨zs, i1, i2, i3⟩, el⟩ := compL_inv (chk := anyM) (dg := gSlot 8) (t := dYes) (de := c1__law_page) (r := [some (.obj 0), x1, x2, x3, x4, x5, x6, x7, none, x9, x10]) (fun i ys M => ∃ zs : List Int, ys = zs.map .int ∧ (∀ z ∈ zs, NumOk 0 z) ∧ At ns (k + 2 * i) M) (fun _ _ _ _ => rfl) (irng 0 4) 0 [] M (by
    rintro i d ys M hd ⟨zs, rfl, i2, i3⟩
    have hi : i < 4 := by
      have := (List.getElem?_eq_some_iff.mp hd).1
      simpa [irng] using this
    obtain ⟨z, M', q1, q2, q3⟩ := head_elt (x1 := x1) (x2 := x2) (x3 := x3) (x4 := x4) (x5 := x5) (x6 := x6) (x7 := x7) (x8 := some d) (x9 := x9) (x10 := x10) i3 (by omega) (by omega)
    refine ⟨_, .int z, M', rfl, rfl, q2, zs ++ [z], by simp, fun y hy => ?_, ?_⟩
    · rcases List.mem_append.mp hy with hy | hy
      · exact i2 y hy
      · simp at hy
        subst hy
        exact q1
    · rw [show k + 2 * ((0 + i + 1 : Nat) : Int) = k + 2 * ((0 + i : Nat) : Int) + 2 by omega]
      exact q3) ⟨[], rfl, by simp, by simpa using hM⟩ (by simp [irng])
  subst i1
  have zl : zs.length = 4 := by simpa [irng] using el
  obtain ⟨a, b, c, d, rfl⟩ : ∃ a b c d, zs = [a, b, c, d] := match zs, zl with
    | [a, b, c, d], _ => ⟨a, b, c, d, rfl⟩
  refine ⟨a, b, c, d, M', ⟨i2 a (by simp), i2 b (by simp), i2 c (by simp), i2 d (by simp)⟩, e, ?_⟩
  have : At ns (k + 2 * ((0 + (irng 0 4).length : Nat) : Int)) M' := i3
  rw [show (irng 0 4).length = 4 from rfl] at this
  rw [show k + 8 = k + 2 * ((0 + 4 : Nat) : Int) by omega]
  exact this
theorem rows_comp {ns : List Int} {k : Int} {M : Mem} {n : Nat} {ks : List (List Nat)} {sz : Nat} (z0 : 64 ≤ sz) (z1 : sz ≤ 200) (hM : At ns k M) (h0 : 0 ≤ k) (h1 : k < 800000000) (hn : n ≠ 0) (hD : M[n]? = some (.lst (ks.map keyD))) (hl : ks.length ≤ 13) {x2 x3 x4 x5 x6 x7 x8 x10 : Option D} :
    ∃ rows : List Row, ∃ M' k', rows.map (·.1) = ks ∧ (∀ r ∈ rows, CellOk r.2) ∧ compL (fun M => isAt M n (.lst (ks.map keyD))) (gSlot 9) dYes c2__law_page [some (.obj 0), some (.int (sz : Nat)), x2, x3, x4, x5, x6, x7, x8, none, x10] (ks.map keyD) [] M = .ok (rows.map rowD) M' ∧ At ns k' M' ∧ k ≤ k' ∧ k' ≤ k + 13 := by
  obtain ⟨ys, M', e, ⟨rows, k', i1, i2, i3, i4, i5, i6, i7⟩, el⟩ := compL_inv (chk := fun M => isAt M n (.lst (ks.map keyD))) (dg := gSlot 9) (t := dYes) (de := c2__law_page) (r := [some (.obj 0), some (.int (sz : Nat)), x2, x3, x4, x5, x6, x7, x8, none, x10]) (fun i ys M => ∃ rows : List Row, ∃ k', ys = rows.map rowD ∧ rows.map (·.1) = ks.take i ∧ (∀ r ∈ rows, CellOk r.2) ∧ At ns k' M ∧ k ≤ k' ∧ k' ≤ k + i ∧ M[n]? = some (.lst (ks.map keyD))) (fun _ _ _ h => by
      obtain ⟨_, _, _, _, _, _, _, _, h⟩ := h
      exact isAt_of h) (ks.map keyD) 0 [] M (by
    rintro i d ys M hd ⟨rows, k', rfl, i2, i3, i4, i5, i6, i7⟩
    rw [List.getElem?_map] at hd
    have hi : i < ks.length := by
      rcases Nat.lt_or_ge i ks.length with h | h
      · exact h
      · rw [List.getElem?_eq_none h] at hd
        cases hd
    rw [List.getElem?_eq_getElem hi] at hd
    cases hd
    obtain ⟨c, c1, c2, c3⟩ := cell_ok i4 (by omega) (by omega) z0 z1
    have i8 : (M.set 0 (St ns (k' + 1)))[n]? = some (.lst (ks.map keyD)) := by rw [get_set0 hn]; exact i7
    generalize M.set 0 (St ns (k' + 1)) = N at *
    refine ⟨_, rowD (ks[i], c), N, rfl, rfl, ?_, rows ++ [(ks[i], c)], k' + 1, by simp, ?_, fun r hr => ?_, c3, by omega, by omega, i8⟩
    · simp [c2__law_page, c2, rowD, keyD]
    · rw [List.map_append, i2, Nat.zero_add, List.take_succ_eq_append_getElem hi]
      rfl
    · rcases List.mem_append.mp hr with hr | hr
      · exact i3 r hr
      · simp at hr
        subst hr
        exact c1) ⟨[], k, rfl, by simp, by simp, hM, by omega, by omega, hD⟩ (by simp; omega)
  subst i1
  rw [Nat.zero_add, List.length_map, List.take_length] at i2
  rw [Nat.zero_add, List.length_map] at i6
  exact ⟨rows, M', k', i2, i3, e, i4, i5, by omega⟩
theorem erase_map {α β : Type} (f : α → β) (l : List α) (i : Nat) : (l.map f).eraseIdx i = (l.eraseIdx i).map f := by
  induction l generalizing i with
  | nil => rfl
  | cons a l ih =>
    cases i with
    | zero => rfl
    | succ i => simp [ih]
theorem leaf_good {rows : List Row} (h1 : Ris (rows.map (·.1))) (h2 : ∀ r ∈ rows, CellOk r.2) (h3 : rows.length ≤ 63) : Good (.leaf rows) := ⟨h1.rising (by simpa using h3), h2⟩
theorem leaf_body_nil {rows : List Row} (h : 2 ≤ (bodyL (.leaf rows)).length) : rows ≠ [] := by
  rintro rfl
  simp [bodyL, dig1_len] at h
theorem leaf_test {M : Mem} {q : Nat} {rows : List Row} {sz : Nat} {x0 x2 x3 x4 x5 x6 x8 x9 x10 : Option D} (hq : M[q]? = some (.lst (rows.map rowD))) (hg : Good (.leaf rows)) :
    t4__law_page [x0, some (.int (sz : Nat)), x2, x3, x4, x5, x6, some (.obj q), x8, x9, x10] M = .ok (decide ((sz : Int) - 5 < (bodyL (.leaf rows)).length)) M := by
  have hl : rows.length ≤ 63 := by have := hg.1.many; simpa using this
  have b := lbody_ok (M := M) hg
  have bl := bodyL_len hg
  simp only [Pg.toD] at b
  simp [t4__law_page, fTupOf_obj hq (by simp; omega), b, fLen_tx (l := bodyL (.leaf rows)) (M := M) (by omega)]
theorem leaf_pop {M : Mem} {q : Nat} {rows : List Row} {nn : Int} {x0 x1 x3 x4 x5 x6 x8 x9 x10 : Option D} (hq : M[q]? = some (.lst (rows.map rowD))) (hr : rows ≠ []) (hl : rows.length ≤ 63) (n0 : 0 ≤ nn) :
    ∃ j, j < rows.length ∧ l3__law_page [x0, x1, some (.int nn), x3, x4, x5, x6, some (.obj q), x8, x9, x10] M = .nx [x0, x1, some (.int nn), x3, x4, x5, x6, some (.obj q), x8, x9, x10] (M.set q (.lst ((rows.eraseIdx j).map rowD))) := by
  have lp : 0 < rows.length := List.length_pos_iff.mpr hr
  have i0 : 0 ≤ nn % (rows.length : Int) := Int.emod_nonneg _ (by omega)
  have i1 : nn % (rows.length : Int) < rows.length := Int.emod_lt_of_pos _ (by omega)
  have fl := fLen_obj hq
  rw [List.length_map] at fl
  obtain ⟨L, hL⟩ : ∃ L : Int, (rows.length : Int) = L := ⟨_, rfl⟩
  rw [hL] at i0 i1 fl
  obtain ⟨i, hi⟩ : ∃ i : Int, nn % L = i := ⟨_, rfl⟩
  rw [hi] at i0 i1
  have e2 : ixN (rows.map rowD).length i = some i.toNat := by
    have := ixN_nat (k := i.toNat) (m := (rows.map rowD).length) (by simp; omega)
    rwa [show ((i.toNat : Nat) : Int) = i by omega] at this
  have hj : i.toNat < rows.length := by omega
  have p := popAt_of' (k := i.toNat) (d := rowD rows[i.toNat]) hq (small62_of (by omega) (by omega)) e2 (by simp [hj])
  rw [erase_map] at p
  refine ⟨i.toNat, hj, ?_⟩
  simp [l3__law_page, popK1_of hq, fl, fMod_int (M := M) (i := nn) (show 0 < L by omega), hi, p]
theorem leaf_while {ns : List Int} {k : Int} {M : Mem} {q : Nat} {rows : List Row} {sz : Nat} {nn : Int} {x3 x4 x5 x6 x8 x9 x10 : Option D} (z0 : 64 ≤ sz) (hM : At ns k M) (hq0 : q ≠ 0) (hq : M[q]? = some (.lst (rows.map rowD))) (h1 : Ris (rows.map (·.1))) (h2 : ∀ r ∈ rows, CellOk r.2) (hl : rows.length ≤ 13) (n0 : 0 ≤ nn) :
    ∃ rows' M', whileN t4__law_page l3__law_page 300 [some (.obj 0), some (.int (sz : Nat)), some (.int nn), x3, x4, x5, x6, some (.obj q), x8, x9, x10] M = .nx [some (.obj 0), some (.int (sz : Nat)), some (.int nn), x3, x4, x5, x6, some (.obj q), x8, x9, x10] M' ∧ At ns k M' ∧ M'[q]? = some (.lst (rows'.map rowD)) ∧ Good (.leaf rows') ∧ (bodyL (.leaf rows')).length + 5 ≤ sz ∧ rows'.length ≤ 13 := by
  obtain ⟨r', M', e, rows', er, g1, g2, g3, g4, g5⟩ := while_inv (t := t4__law_page) (sb := l3__law_page)
    (fun m r M => ∃ rows, r = [some (.obj 0), some (.int (sz : Nat)), some (.int nn), x3, x4, x5, x6, some (.obj q), x8, x9, x10] ∧ rows.length = m ∧ At ns k M ∧ M[q]? = some (.lst (rows.map rowD)) ∧ Ris (rows.map (·.1)) ∧ (∀ r ∈ rows, CellOk r.2) ∧ rows.length ≤ 13)
    (fun r M => ∃ rows', r = [some (.obj 0), some (.int (sz : Nat)), some (.int nn), x3, x4, x5, x6, some (.obj q), x8, x9, x10] ∧ At ns k M ∧ M[q]? = some (.lst (rows'.map rowD)) ∧ Good (.leaf rows') ∧ (bodyL (.leaf rows')).length + 5 ≤ sz ∧ rows'.length ≤ 13) (by
      rintro m r M ⟨rows, rfl, rfl, g1, g2, g3, g4, g5⟩
      have hg := leaf_good g3 g4 (by omega)
      have te := leaf_test (x0 := some (.obj 0)) (x2 := some (.int nn)) (x3 := x3) (x4 := x4) (x5 := x5) (x6 := x6) (x8 := x8) (x9 := x9) (x10 := x10) (sz := sz) g2 hg
      by_cases hb : (sz : Int) - 5 < (bodyL (.leaf rows)).length
      · rw [decide_eq_true hb] at te
        have hr := leaf_body_nil (rows := rows) (by omega)
        obtain ⟨j, j1, pe⟩ := leaf_pop (x0 := some (.obj 0)) (x1 := some (.int (sz : Nat))) (x3 := x3) (x4 := x4) (x5 := x5) (x6 := x6) (x8 := x8) (x9 := x9) (x10 := x10) g2 hr (by omega) n0
        have le : (rows.eraseIdx j).length = rows.length - 1 := List.length_eraseIdx_of_lt j1
        refine .inr ⟨M, _, _, (rows.eraseIdx j).length, by omega, te, pe, rows.eraseIdx j, rfl, rfl, g1.set hq0, List.getElem?_set_self (List.getElem?_eq_some_iff.mp g2).1, ?_, fun r hr => g4 r (List.mem_of_mem_eraseIdx hr), by omega⟩
        rw [← erase_map]
        exact g3.erase j
      · rw [decide_eq_false hb] at te
        exact .inl ⟨M, te, rows, rfl, g1, g2, hg, by omega, g5⟩) rows.length 300 _ M ⟨rows, rfl, rfl, hM, hq, h1, h2, hl⟩ (by omega)
  subst er
  exact ⟨rows', M', e, g1, g2, g3, g4, g5⟩
end K03
set_option Elab.async false
set_option linter.all false
set_option maxRecDepth 100000
set_option maxHeartbeats 4000000
namespace K03
open PySem PySem.Spec PyProof.Rows L2 LF
def sumK (ks : List (List Nat)) : Int := (ks.map fun k => 1 + (k.length : Int)).sum
theorem sumK_flat : ∀ ks : List (List Nat), ((ks.map keyB).flatten.length : Int) = sumK ks
  | [] => rfl
  | k :: ks => by
    have ih := sumK_flat ks
    have e : sumK (k :: ks) = (1 + (k.length : Int)) + sumK ks := by simp [sumK]
    rw [e, ← ih]
    simp only [List.map_cons, List.flatten_cons, List.length_append, keyB, dig1_len]
    omega
theorem flatK_len (kids : List Int) : (kids.map (digL 2)).flatten.length = 2 * kids.length := by
  induction kids with
  | nil => rfl
  | cons n kids ih =>
    simp only [List.map_cons, List.flatten_cons, List.length_append, dig2_len, ih, List.length_cons]
    omega
theorem fork_len (ks : List (List Nat)) (kids : List Int) : ((bodyL (.fork ks kids)).length : Int) = 1 + sumK ks + 2 * kids.length := by
  have h1 := sumK_flat ks
  have h2 := flatK_len kids
  rw [bodyL, List.length_append, List.length_append, dig1_len]
  omega
theorem fork_test {M : Mem} {n : Nat} {ks : List (List Nat)} {sz : Nat} {x0 x2 x3 x4 x5 x7 x8 x9 x10 : Option D} (hq : M[n]? = some (.lst (ks.map keyD))) (hk : ∀ k ∈ ks, KeyOk k) (hl : ks.length ≤ 63) :
    t7__law_page [x0, some (.int (sz : Nat)), x2, x3, x4, x5, some (.obj n), x7, x8, x9, x10] M = .ok (decide ((sz : Int) - 5 < 1 + sumK ks + 2 * (ks.length : Int) + 2)) M := by
  have k := compL_same (chk := fun M => isAt M n (.lst (ks.map keyD))) (t := dYes) (de := c5__law_page) (r := [x0, some (.int (sz : Nat)), x2, x3, x4, x5, some (.obj n), x7, x8, none, x10]) (M := M) (dg := gSlot 9) (f := keyD) (g := fun k => .int (1 + (k.length : Int))) (isAt_of hq) ks [] (fun a ha => ⟨_, rfl, rfl, by
    have := (hk a ha).hi
    simp [c5__law_page, keyD, fLen_tx (l := a) (M := M) (by omega)]⟩) (by simp; omega)
  rw [List.nil_append] at k
  have e : (ks.map fun k => D.int (1 + (k.length : Int))) = (ks.map fun k => 1 + (k.length : Int)).map .int := by rw [List.map_map]; rfl
  rw [e] at k
  have s : fSum [.lst ((ks.map fun k => 1 + (k.length : Int)).map .int)] M = .ok (.int (sumK ks)) M := fSum_ints
  have fl := fLen_obj hq
  rw [List.length_map] at fl
  have m := fMulX_l (M := M) (i := 2) (j := (ks.length : Int)) (by omega) (by omega)
  simp [-dItL_ev, -List.map_map, dItL_K, itLK_obj hq, t7__law_page, k, s, fl, m]
theorem fork_pop {M : Mem} {n : Nat} {ks : List (List Nat)} {nn : Int} {x0 x1 x3 x4 x5 x7 x8 x9 x10 : Option D} (hq : M[n]? = some (.lst (ks.map keyD))) (hr : ks ≠ []) (hl : ks.length ≤ 63) (n0 : 0 ≤ nn) :
    ∃ j, j < ks.length ∧ l6__law_page [x0, x1, some (.int nn), x3, x4, x5, some (.obj n), x7, x8, x9, x10] M = .nx [x0, x1, some (.int nn), x3, x4, x5, some (.obj n), x7, x8, x9, x10] (M.set n (.lst ((ks.eraseIdx j).map keyD))) := by
  have lp : 0 < ks.length := List.length_pos_iff.mpr hr
  have i0 : 0 ≤ nn % (ks.length : Int) := Int.emod_nonneg _ (by omega)
  have i1 : nn % (ks.length : Int) < ks.length := Int.emod_lt_of_pos _ (by omega)
  have fl := fLen_obj hq
  rw [List.length_map] at fl
  obtain ⟨L, hL⟩ : ∃ L : Int, (ks.length : Int) = L := ⟨_, rfl⟩
  rw [hL] at i0 i1 fl
  obtain ⟨i, hi⟩ : ∃ i : Int, nn % L = i := ⟨_, rfl⟩
  rw [hi] at i0 i1
  have e2 : ixN (ks.map keyD).length i = some i.toNat := by
    have := ixN_nat (k := i.toNat) (m := (ks.map keyD).length) (by simp; omega)
    rwa [show ((i.toNat : Nat) : Int) = i by omega] at this
  have hj : i.toNat < ks.length := by omega
  have p := popAt_of' (k := i.toNat) (d := keyD ks[i.toNat]) hq (small62_of (by omega) (by omega)) e2 (by simp [hj])
  rw [erase_map] at p
  refine ⟨i.toNat, hj, ?_⟩
  simp [l6__law_page, popK1_of hq, fl, fMod_int (M := M) (i := nn) (show 0 < L by omega), hi, p]
theorem fork_while {ns : List Int} {k : Int} {M : Mem} {n : Nat} {ks : List (List Nat)} {sz : Nat} {nn : Int} {x3 x4 x5 x7 x8 x9 x10 : Option D} (z0 : 64 ≤ sz) (hM : At ns k M) (hq0 : n ≠ 0) (hq : M[n]? = some (.lst (ks.map keyD))) (h1 : Ris ks) (hl : ks.length ≤ 13) (n0 : 0 ≤ nn) :
    ∃ ks' M', whileN t7__law_page l6__law_page 300 [some (.obj 0), some (.int (sz : Nat)), some (.int nn), x3, x4, x5, some (.obj n), x7, x8, x9, x10] M = .nx [some (.obj 0), some (.int (sz : Nat)), some (.int nn), x3, x4, x5, some (.obj n), x7, x8, x9, x10] M' ∧ At ns k M' ∧ M'[n]? = some (.lst (ks'.map keyD)) ∧ Ris ks' ∧ 1 + sumK ks' + 2 * (ks'.length : Int) + 2 ≤ sz - 5 ∧ ks'.length ≤ 13 := by
  obtain ⟨r', M', e, ks', er, g1, g2, g3, g4, g5⟩ := while_inv (t := t7__law_page) (sb := l6__law_page)
    (fun m r M => ∃ ks, r = [some (.obj 0), some (.int (sz : Nat)), some (.int nn), x3, x4, x5, some (.obj n), x7, x8, x9, x10] ∧ ks.length = m ∧ At ns k M ∧ M[n]? = some (.lst (ks.map keyD)) ∧ Ris ks ∧ ks.length ≤ 13)
    (fun r M => ∃ ks', r = [some (.obj 0), some (.int (sz : Nat)), some (.int nn), x3, x4, x5, some (.obj n), x7, x8, x9, x10] ∧ At ns k M ∧ M[n]? = some (.lst (ks'.map keyD)) ∧ Ris ks' ∧ 1 + sumK ks' + 2 * (ks'.length : Int) + 2 ≤ (sz : Int) - 5 ∧ ks'.length ≤ 13) (by
      rintro m r M ⟨ks, rfl, rfl, g1, g2, g3, g5⟩
      have te := fork_test (x0 := some (.obj 0)) (x2 := some (.int nn)) (x3 := x3) (x4 := x4) (x5 := x5) (x7 := x7) (x8 := x8) (x9 := x9) (x10 := x10) (sz := sz) g2 g3.key (by omega)
      by_cases hb : (sz : Int) - 5 < 1 + sumK ks + 2 * (ks.length : Int) + 2
      · rw [decide_eq_true hb] at te
        have hr : ks ≠ [] := by
          rintro rfl
          simp [sumK] at hb
          omega
        obtain ⟨j, j1, pe⟩ := fork_pop (x0 := some (.obj 0)) (x1 := some (.int (sz : Nat))) (x3 := x3) (x4 := x4) (x5 := x5) (x7 := x7) (x8 := x8) (x9 := x9) (x10 := x10) g2 hr (by omega) n0
        have le : (ks.eraseIdx j).length = ks.length - 1 := List.length_eraseIdx_of_lt j1
        exact .inr ⟨M, _, _, (ks.eraseIdx j).length, by omega, te, pe, ks.eraseIdx j, rfl, rfl, g1.set hq0, List.getElem?_set_self (List.getElem?_eq_some_iff.mp g2).1, g3.erase j, by omega⟩
      · rw [decide_eq_false hb] at te
        exact .inl ⟨M, te, ks, rfl, g1, g2, g3, by omega, g5⟩) ks.length 300 _ M ⟨ks, rfl, rfl, hM, hq, h1, hl⟩ (by omega)
  subst er
  exact ⟨ks', M', e, g1, g2, g3, g4, g5⟩
theorem kids_comp {ns : List Int} {k : Int} {M : Mem} (hM : At ns k M) (h0 : 0 ≤ k) (h1 : k < 800000000) (m : Nat) (hm : m ≤ 64) {x1 x2 x3 x4 x5 x6 x7 x8 x9 : Option D} :
    ∃ (kids : List Int) (M' : Mem), kids.length = m ∧ (∀ n ∈ kids, NumOk 1 n) ∧ compL anyM (gSlot 10) dYes c8__law_page [some (.obj 0), x1, x2, x3, x4, x5, x6, x7, x8, x9, none] (irng 0 m) [] M = .ok (kids.map .int) M' ∧ At ns (k + m) M' := by
  obtain ⟨ys, M', e, ⟨zs, i1, i2, i3⟩, el⟩ := compL_inv (chk := anyM) (dg := gSlot 10) (t := dYes) (de := c8__law_page) (r := [some (.obj 0), x1, x2, x3, x4, x5, x6, x7, x8, x9, none]) (fun i ys M => ∃ zs : List Int, ys = zs.map .int ∧ (∀ z ∈ zs, NumOk 1 z) ∧ At ns (k + i) M) (fun _ _ _ _ => rfl) (irng 0 m) 0 [] M (by
    rintro i d ys M hd ⟨zs, rfl, i2, i3⟩
    have hi : i < m := by
      have := (List.getElem?_eq_some_iff.mp hd).1
      simpa [irng] using this
    obtain ⟨n1, a0, a1, e1, hN⟩ := lnext i3 (by omega) (by omega)
    generalize M.set 0 _ = N at *
    refine ⟨_, .int (1 + n1 % 4095), N, rfl, rfl, by simp [c8__law_page, e1], zs ++ [1 + n1 % 4095], by simp, fun y hy => ?_, ?_⟩
    · rcases List.mem_append.mp hy with hy | hy
      · exact i2 y hy
      · simp at hy
        subst hy
        exact ⟨by omega, by omega⟩
    · rw [show k + ((0 + i + 1 : Nat) : Int) = k + ((0 + i : Nat) : Int) + 1 by omega]
      exact hN) ⟨[], rfl, by simp, by simpa using hM⟩ (by simp [irng]; omega)
  subst i1
  have zl : zs.length = m := by simpa [irng] using el
  refine ⟨zs, M', zl, i2, e, ?_⟩
  rw [show (irng 0 m).length = m by simp [irng], Nat.zero_add] at i3
  exact i3
theorem page_ok {ns : List Int} {k : Int} {M : Mem} {sz : Nat} (z0 : 64 ≤ sz) (z1 : sz ≤ 200) (hM : At ns k M) (h0 : 0 ≤ k) (h1 : k < 700000000) :
    ∃ p M' k', Good p ∧ Fit p sz ∧ f__law_page [.obj 0, .int (sz : Nat)] M = .ok p.toD M' ∧ At ns k' M' ∧ k ≤ k' ∧ k' ≤ k + 100 := by
  obtain ⟨nn, n0, n1, e1, hN⟩ := lnext hM h0 (by omega)
  generalize M.set 0 (St ns (k + 1)) = N at *
  have s0 : 0 ≤ nn % 7 := by omega
  by_cases k0 : nn % 7 = 0
  · obtain ⟨a, b, c, d, M', hg, e2, h2⟩ := head_comp (x1 := some (.int (sz : Nat))) (x2 := some (.int nn)) (x3 := some (.int (nn % 7))) (x4 := none) (x5 := none) (x6 := none) (x7 := none) (x9 := none) (x10 := none) hN (by omega) (by omega)
    refine ⟨.head a b c d, M', k + 1 + 8, hg, ⟨z0, z1, by simp [bodyL, dig2_len]; omega⟩, ?_, h2, by omega, by omega⟩
    have ct := fCat_tup (M := M') (ar := false) (ds := [.str "head"]) (es := [.int a, .int b, .int c, .int d]) (by simp)
    simp only [List.cons_append, List.nil_append] at ct
    simp only [k0] at e2
    simp [f__law_page, b__law_page, runB_ev, e1, k0, e2, ct, Pg.toD]
  by_cases k1 : nn % 7 = 1
  · obtain ⟨m, ⟨m0, m1⟩, es⟩ := ix_ints (P := fun z => 0 ≤ z ∧ z ≤ 4095) (ns := [0, 1, 4095, nn / 7 % 4096]) (i := nn / 7 % 4) (by omega) (by simp; omega) (fun z hz => by
      simp only [List.mem_cons, List.mem_nil_iff, or_false] at hz
      rcases hz with rfl | rfl | rfl | rfl <;> omega)
    simp only [List.map_cons, List.map_nil] at es
    refine ⟨.free m, N, k + 1, ⟨m0, m1⟩, ⟨z0, z1, by simp [bodyL, dig2_len]; omega⟩, ?_, hN, by omega, by omega⟩
    simp [f__law_page, b__law_page, runB_ev, e1, k1, es, Pg.toD]
  by_cases k2 : nn % 7 = 2
  · obtain ⟨many, ⟨m0, m1⟩, es⟩ := ix_ints (P := fun z => 1 ≤ z ∧ z ≤ (sz : Int) - 7) (ns := [1, (sz : Int) - 7, 1 + nn / 7 % ((sz : Int) - 7)]) (i := nn / 7 % 3) (by omega) (by simp; omega) (fun z hz => by
      have h8 : nn / 7 % ((sz : Int) - 7) < (sz : Int) - 7 := Int.emod_lt_of_pos _ (by omega)
      have h9 : 0 ≤ nn / 7 % ((sz : Int) - 7) := Int.emod_nonneg _ (by omega)
      simp only [List.mem_cons, List.mem_nil_iff, or_false] at hz
      rcases hz with rfl | rfl | rfl <;> omega)
    obtain ⟨m, ⟨m2, m3⟩, et⟩ := ix_ints (P := fun z => 0 ≤ z ∧ z ≤ 4095) (ns := [0, nn / 21 % 4096]) (i := nn / 7 % 2) (by omega) (by simp; omega) (fun z hz => by
      simp only [List.mem_cons, List.mem_nil_iff, or_false] at hz
      rcases hz with rfl | rfl <;> omega)
    simp only [List.map_cons, List.map_nil] at es et
    obtain ⟨l, l1, l2, e2⟩ := ltext nn many N (by omega) (by omega)
    refine ⟨.rest l m, N, k + 1, ⟨al_txt l2, by omega, by omega, m2, m3⟩, ⟨z0, z1, by simp [bodyL, dig2_len]; omega⟩, ?_, hN, by omega, by omega⟩
    simp [f__law_page, b__law_page, runB_ev, e1, k2, fMod_int (M := N) (i := nn / 7) (show (0 : Int) < (sz : Int) - 7 by omega), es, et, e2, Pg.toD]
  obtain ⟨ks, k', M1, n, r1, r2, e2, r3, r4, r5, r6, r7⟩ := rising_ok hN (by omega) (by omega) (nn / 7 % 14) (by omega) (by omega)
  by_cases k5 : nn % 7 < 5
  · obtain ⟨rows, M2, k2', w1, w2, e3, w3, w4, w5⟩ := rows_comp (x2 := some (.int nn)) (x3 := some (.int (nn % 7))) (x4 := none) (x5 := none) (x6 := some (.obj n)) (x7 := none) (x8 := none) (x10 := none) z0 z1 r5 (by omega) (by omega) r4 r3 r2
    have wl : rows.length = ks.length := by rw [← w1]; simp
    obtain ⟨rows', M3, e4, v1, v2, v3, v4, v5⟩ := leaf_while (x3 := some (.int (nn % 7))) (x4 := none) (x5 := none) (x6 := some (.obj n)) (x8 := none) (x9 := none) (x10 := none) (M := M2 ++ [.lst (rows.map rowD)]) (q := M2.length) (nn := nn) z0 w3.app (by have := (List.getElem?_eq_some_iff.mp w3).1; omega) last_at (w1 ▸ r1) w2 (by omega) n0
    refine ⟨.leaf rows', M3, k2', v3, ⟨z0, z1, v4⟩, ?_, v1, by omega, by omega⟩
    simp [-dItL_ev, dItL_K, f__law_page, b__law_page, runB_ev, e1, decide_eq_false k0, decide_eq_false k1, decide_eq_false k2, e2, decide_eq_true k5, itLK_obj r3, e3, e4, fTupOf_obj v2 (by simp; omega), Pg.toD]
  · obtain ⟨ks', M2, e3, v1, v2, v3, v4, v5⟩ := fork_while (x3 := some (.int (nn % 7))) (x4 := none) (x5 := none) (x7 := none) (x8 := none) (x9 := none) (x10 := none) (nn := nn) z0 r5 r4 r3 r1 r2 n0
    obtain ⟨kids, M3, q1, q2, e4, q3⟩ := kids_comp (x1 := some (.int (sz : Nat))) (x2 := some (.int nn)) (x3 := some (.int (nn % 7))) (x4 := none) (x5 := none) (x6 := some (.obj n)) (x7 := none) (x8 := none) (x9 := none) v1 (by omega) (by omega) (ks'.length + 1) (by omega)
    refine ⟨.fork ks' kids, M3, k' + (ks'.length + 1 : Nat), ⟨v3.rising (by omega), q2, q1⟩, ⟨z0, z1, ?_⟩, ?_, q3, by omega, by omega⟩
    · have := fork_len ks' kids
      omega
    · have fl := fLen_obj v2
      rw [List.length_map] at fl
      obtain ⟨L, hL⟩ : ∃ L : Int, (ks'.length : Int) = L := ⟨_, rfl⟩
      rw [hL] at fl
      have eL : (L + 1).toNat = ks'.length + 1 := by omega
      have hr := itR1K_ok (M := M2) (j := L + 1) (by omega) (by omega)
      rw [eL] at hr
      have ft1 : fTupOf [.obj n] M2 = .ok (.tup (ks'.map keyD)) M2 := fTupOf_obj v2 (by simp; omega)
      have ft2 : fTupOf [.lst (kids.map .int)] M3 = .ok (.tup (kids.map .int)) M3 := fTupOf_lst (by simp; omega)
      simp [-itR1K_ok, -fTupOf_lst, f__law_page, b__law_page, runB_ev, e1, decide_eq_false k0, decide_eq_false k1, decide_eq_false k2, e2, decide_eq_false k5, e3, ft1, fl, hr, e4, ft2, Pg.toD]
end K03
set_option Elab.async false
set_option linter.all false
set_option maxRecDepth 100000
set_option maxHeartbeats 4000000
namespace K03
open PySem PySem.Spec PyProof.Rows L2 LF
mutual
theorem lay_up : ∀ (n : Nat) (d : D), D.lay n d = true → D.lay (n + 1) d = true
  | _, .non, _ => by simp
  | _, .bl _, _ => by simp
  | _, .int _, _ => by simp
  | n, .str x, h => by simpa using h
  | 0, .tup _, h => by simp [D.lay] at h
  | 0, .lst _, h => by simp [D.lay] at h
  | n + 1, .tup ds, h => by rw [lay_tup] at h ⊢; exact layL_up n ds h
  | n + 1, .lst ds, h => by rw [lay_lst] at h ⊢; exact layL_up n ds h
  | n, .dic _ _, h => by cases n <;> simp [D.lay] at h
  | n, .obj _, h => by cases n <;> simp [D.lay] at h
  | n, .exc _ _ _, h => by cases n <;> simp [D.lay] at h
  | n, .ins _ _ _, h => by cases n <;> simp [D.lay] at h
theorem layL_up : ∀ (n : Nat) (ds : List D), D.layL n ds = true → D.layL (n + 1) ds = true
  | _, [], _ => by simp
  | n, d :: ds, h => by
    rw [layL_cons] at h ⊢
    obtain ⟨a, b⟩ := Bool.and_eq_true_iff.mp h
    rw [lay_up n d a, layL_up n ds b]; rfl
end
theorem lay_le {n m : Nat} {d : D} (h : D.lay n d = true) (hm : n ≤ m) : D.lay m d = true := by
  induction m with
  | zero => have : n = 0 := by omega
            subst this; exact h
  | succ m ih =>
    by_cases q : n = m + 1
    · subst q; exact h
    · exact lay_up m d (ih (by omega))
theorem layL_mem {n : Nat} : ∀ {ds : List D}, D.layL n ds = true → ∀ x ∈ ds, D.lay n x = true
  | d :: ds, h, x, hx => by
    rw [layL_cons] at h
    obtain ⟨a, b⟩ := Bool.and_eq_true_iff.mp h
    rcases List.mem_cons.mp hx with rfl | hx
    · exact a
    · exact layL_mem b x hx
theorem layL_of {n : Nat} : ∀ {ds : List D}, (∀ x ∈ ds, D.lay n x = true) → D.layL n ds = true
  | [], _ => by simp
  | d :: ds, h => by rw [layL_cons, h d (by simp), layL_of fun x hx => h x (by simp [hx])]; rfl
theorem wtL_mem : ∀ {ds : List D}, ∀ x ∈ ds, D.wt x + 1 ≤ D.wtL ds
  | d :: ds, x, hx => by
    rw [D.wtL]
    rcases List.mem_cons.mp hx with rfl | hx
    · omega
    · have := wtL_mem x hx; omega
theorem wtL_len : ∀ (ds : List D), ds.length ≤ D.wtL ds
  | [] => by simp
  | d :: ds => by rw [D.wtL, List.length_cons]; have := wtL_len ds; omega
/-- data of a bounded size -/
structure Nc (n : Nat) (d : D) : Prop where
  lay : D.lay n d = true
  wt : D.wt d ≤ 90000
  n : n ≤ 60
theorem Nc.mem {n : Nat} {ds : List D} (h : Nc (n + 1) (.tup ds)) : ∀ x ∈ ds, Nc n x := fun x hx => ⟨layL_mem (by simpa using h.lay) x hx, by have := wtL_mem x hx; have := h.wt; rw [D.wt] at this; omega, by have := h.n; omega⟩
theorem Nc.len {n : Nat} {ds : List D} (h : Nc n (.tup ds)) : ds.length ≤ 90000 := by have := wtL_len ds; have := h.wt; rw [D.wt] at this; omega
theorem Nc.memL {n : Nat} {ds : List D} (h : Nc (n + 1) (.lst ds)) : ∀ x ∈ ds, Nc n x := fun x hx => ⟨layL_mem (by simpa using h.lay) x hx, by have := wtL_mem x hx; have := h.wt; rw [D.wt] at this; omega, by have := h.n; omega⟩
theorem Nc.tup {n : Nat} {ds : List D} (h : Nc n (.tup ds)) : ∀ x ∈ ds, Nc n x := fun x hx => by
  cases n with
  | zero => have := h.lay; simp [D.lay] at this
  | succ n => exact ⟨lay_up n x (h.mem x hx).lay, (h.mem x hx).wt, h.n⟩
theorem Nc.lst {n : Nat} {ds : List D} (h : Nc n (.lst ds)) : ∀ x ∈ ds, Nc n x := fun x hx => by
  cases n with
  | zero => have := h.lay; simp [D.lay] at this
  | succ n => exact ⟨lay_up n x (h.memL x hx).lay, (h.memL x hx).wt, h.n⟩
theorem Nc.str {n : Nat} {x : Str} (h : Nc n (.str x)) : PyData.strOk x = true ∧ x.cps.toList.length ≤ 90000 := by
  refine ⟨by simpa using h.lay, ?_⟩
  have := h.wt
  rw [D.wt, tx_eta x, tx_len] at this
  exact this
def txtB : D → Bool
  | .str x => x.cps.toList.all okc
  | _ => false
def lenB (a b : Int) : D → Bool
  | .str x => decide (a ≤ (x.cps.toList.length : Int)) && decide ((x.cps.toList.length : Int) ≤ b)
  | _ => false
theorem is_text_any {n : Nat} {d : D} {M : Mem} (h : Nc n d) : f_is_text [d] M = .ok (.bl (txtB d)) M := by
  cases d with
  | str x =>
    have q := is_text_tx x.cps.toList M (by have := h.str.2; omega)
    rw [← tx_eta] at q
    exact q
  | non => simp [f_is_text, b_is_text, runB_ev, txtB]
  | bl => simp [f_is_text, b_is_text, runB_ev, txtB]
  | int => simp [f_is_text, b_is_text, runB_ev, txtB]
  | tup => simp [f_is_text, b_is_text, runB_ev, txtB]
  | lst => simp [f_is_text, b_is_text, runB_ev, txtB]
  | _ => have := h.lay; cases n <;> simp [D.lay] at this
theorem txt_str {d : D} (h : txtB d = true) : ∃ l, d = .str (tx l) ∧ l.all okc = true := by
  cases d with
  | str x => exact ⟨x.cps.toList, by rw [← tx_eta], h⟩
  | _ => simp [txtB] at h
def kyB (d : D) : Bool := txtB d && lenB 1 12 d
def valB (d : D) : Bool := txtB d && lenB 0 400 d
theorem is_key_any {n : Nat} {d : D} {M : Mem} (h : Nc n d) : f_is_key [d] M = .ok (.bl (kyB d)) M := by
  have t := is_text_any (M := M) h
  unfold kyB
  cases q : txtB d with
  | false => simp [f_is_key, b_is_key, runB_ev, t, q]
  | true =>
    obtain ⟨l, rfl, hl⟩ := txt_str q
    have ln := fLen_tx (M := M) (l := l) (by have := h.str.2; rw [tx_tl] at this; omega)
    rw [q] at t
    generalize hL : (l.length : Int) = L at *
    simp [f_is_key, b_is_key, runB_ev, t, ln, lenB, tx_tl, hL]
    cases decide (1 ≤ L) <;> simp
theorem is_value_any {n : Nat} {d : D} {M : Mem} (h : Nc n d) : f_is_value [d] M = .ok (.bl (valB d)) M := by
  have t := is_text_any (M := M) h
  unfold valB
  cases q : txtB d with
  | false => simp [f_is_value, b_is_value, runB_ev, t, q]
  | true =>
    obtain ⟨l, rfl, hl⟩ := txt_str q
    have ln := fLen_tx (M := M) (l := l) (by have := h.str.2; rw [tx_tl] at this; omega)
    rw [q] at t
    have z : (0 : Int) ≤ l.length := by omega
    generalize hL : (l.length : Int) = L at *
    simp [f_is_value, b_is_value, runB_ev, t, ln, lenB, tx_tl, hL, decide_eq_true z]
def whB : D → Bool
  | .int _ => true
  | _ => false
def numB (a b : Int) : D → Bool
  | .int i => decide (a ≤ i) && decide (i ≤ b)
  | _ => false
theorem whole_any {n : Nat} {d : D} {M : Mem} (h : Nc n d) : f_is_whole [d] M = .ok (.bl (whB d)) M := by
  cases d with
  | str x => simp [f_is_whole, b_is_whole, runB_ev, whB]
  | non => simp [f_is_whole, b_is_whole, runB_ev, whB]
  | bl => simp [f_is_whole, b_is_whole, runB_ev, whB]
  | int => simp [f_is_whole, b_is_whole, runB_ev, whB]
  | tup => simp [f_is_whole, b_is_whole, runB_ev, whB]
  | lst => simp [f_is_whole, b_is_whole, runB_ev, whB]
  | _ => have := h.lay; cases n <;> simp [D.lay] at this
theorem wh_int {d : D} (h : whB d = true) : ∃ i, d = .int i := by
  cases d with
  | int i => exact ⟨i, rfl⟩
  | _ => simp [whB] at h
theorem num_no {a b : Int} {d : D} (h : whB d = false) : numB a b d = false := by
  cases d with
  | int i => simp [whB] at h
  | _ => rfl
theorem is_size_any {n : Nat} {d : D} {M : Mem} (h : Nc n d) : f_is_size [d] M = .ok (.bl (numB 64 200 d)) M := by
  have t := whole_any (M := M) h
  cases q : whB d with
  | false => simp [f_is_size, b_is_size, runB_ev, t, q, num_no q]
  | true =>
    obtain ⟨i, rfl⟩ := wh_int q
    rw [q] at t
    simp [f_is_size, b_is_size, runB_ev, t, numB]
    cases decide (64 ≤ i) <;> simp
theorem is_number_any {n : Nat} {d : D} {M : Mem} {a : Int} (h : Nc n d) : f_is_number [d, .int a] M = .ok (.bl (numB a 4095 d)) M := by
  have t := whole_any (M := M) h
  cases q : whB d with
  | false => simp [f_is_number, b_is_number, runB_ev, t, q, num_no q]
  | true =>
    obtain ⟨i, rfl⟩ := wh_int q
    rw [q] at t
    simp [f_is_number, b_is_number, runB_ev, t, numB]
    cases decide (a ≤ i) <;> simp
theorem lnumber_any {n : Nat} {d : D} {M : Mem} {a b : Int} (h : Nc n d) : f__law_number [d, .int a, .int b] M = .ok (.bl (numB a b d)) M := by
  cases d with
  | str x => simp [f__law_number, b__law_number, runB_ev, numB]
  | non => simp [f__law_number, b__law_number, runB_ev, numB]
  | bl => simp [f__law_number, b__law_number, runB_ev, numB]
  | int i =>
    simp [f__law_number, b__law_number, runB_ev, numB]
    cases decide (a ≤ i) <;> simp
  | tup => simp [f__law_number, b__law_number, runB_ev, numB]
  | lst => simp [f__law_number, b__law_number, runB_ev, numB]
  | _ => have := h.lay; cases n <;> simp [D.lay] at this
theorem filter_none {α : Type} {p : α → Bool} : ∀ l : List α, (l.filter fun a => !p a).isEmpty = l.all p
  | [] => rfl
  | a :: l => by
    cases q : p a with
    | true => rw [List.filter_cons_of_neg (by simp [q]), filter_none l, List.all_cons, q, Bool.true_and]
    | false => rw [List.filter_cons_of_pos (by simp [q]), List.all_cons, q]; rfl
theorem al_iff (c : Nat) : decide (c ∈ AL) = okc c := by
  by_cases h : c ∈ AL
  · rw [decide_eq_true h, (al_ok h).1]
  · rw [decide_eq_false h]
    cases q : okc c with
    | false => rfl
    | true => exact absurd (okc_al q) h
theorem lgood_any {n : Nat} {d : D} {M : Mem} {a b : Int} (h : Nc n d) : f__law_good_text [d, .int a, .int b] M = .ok (.bl (txtB d && lenB a b d)) M := by
  cases d with
  | str x =>
    obtain ⟨h1, h2⟩ := h.str
    rw [tx_eta x] at h1 ⊢
    generalize x.cps.toList = l at *
    have ln := fLen_tx (M := M) (l := l) (by omega)
    have k := compL_imgF (t := t2__law_good_text) (de := c1__law_good_text) (r := [some (.str (tx l)), some (.int a), some (.int b), none]) (M := M) (dg := gSlot 3) (f := fun c : Nat => .str (tx [c])) (g := fun c : Nat => .str (tx [c])) (p := fun c => !okc c) l [] (fun c hc => ⟨_, rfl, by
      simp [t2__law_good_text, lsigns, fInS_tx, al_iff], fun _ => rfl⟩) (by simp; omega)
    rw [List.nil_append] at k
    have e : ∀ ks : List Nat, (∀ c ∈ ks, c < 1114112) → fEq (.lst (ks.map fun c => .str (tx [c]))) (.lst []) M = .ok (.bl ks.isEmpty) M := fun ks hk => by
      rw [fEq_of (by
        rw [lay_lst]
        exact layL_of fun x hx => by
          obtain ⟨c, hc, rfl⟩ := List.mem_map.mp hx
          rw [lay_str, strOk_tx]; simp [hk c hc]) (by simp)]
      cases ks <;> rfl
    have e := e (l.filter fun c => !okc c) (fun c hc => by
      rw [strOk_tx] at h1
      have := List.all_eq_true.mp h1 c (List.mem_filter.mp hc).1
      simpa using this)
    rw [filter_none] at e
    have hy : txtB (.str (tx l)) = l.all okc := rfl
    have hz : lenB a b (.str (tx l)) = (decide (a ≤ (l.length : Int)) && decide ((l.length : Int) ≤ b)) := rfl
    rw [hy, hz]
    generalize hL : (l.length : Int) = L at *
    by_cases c1 : a ≤ L
    · by_cases c2 : L ≤ b
      · simp [f__law_good_text, b__law_good_text, runB_ev, ln, decide_eq_true c1, decide_eq_true c2, signs_tx, k, e]
      · simp [f__law_good_text, b__law_good_text, runB_ev, ln, decide_eq_true c1, decide_eq_false c2]
    · simp [f__law_good_text, b__law_good_text, runB_ev, ln, decide_eq_false c1]
  | non => simp [f__law_good_text, b__law_good_text, runB_ev, txtB]
  | bl => simp [f__law_good_text, b__law_good_text, runB_ev, txtB]
  | int i => simp [f__law_good_text, b__law_good_text, runB_ev, txtB]
  | tup => simp [f__law_good_text, b__law_good_text, runB_ev, txtB]
  | lst => simp [f__law_good_text, b__law_good_text, runB_ev, txtB]
  | _ => have := h.lay; cases n <;> simp [D.lay] at this
end K03
set_option Elab.async false
set_option linter.all false
set_option maxRecDepth 100000
set_option maxHeartbeats 4000000
namespace K03
open PySem PySem.Spec PyProof.Rows L2 LF
def clB : D → Bool
  | .tup [.str a, x] => (a == Str.ofString "in") && (txtB x && lenB 0 63 x)
  | .tup [.str a, x, y] => (a == Str.ofString "out") && (numB 1 400 x && numB 1 4095 y)
  | _ => false
theorem so_str {n : Nat} {x : Str} (h : Nc n (.str x)) : PyData.strOk x = true := h.str.1
theorem is_cell_any {n : Nat} {d : D} {M : Mem} (h : Nc n d) : f_is_cell [d] M = .ok (.bl (clB d)) M := by
  cases d with
  | str x => simp [f_is_cell, b_is_cell, runB_ev, clB]
  | non => simp [f_is_cell, b_is_cell, runB_ev, clB]
  | bl => simp [f_is_cell, b_is_cell, runB_ev, clB]
  | int i => simp [f_is_cell, b_is_cell, runB_ev, clB]
  | lst => simp [f_is_cell, b_is_cell, runB_ev, clB]
  | tup ds =>
    match ds, h with
    | [], h => simp [f_is_cell, b_is_cell, runB_ev, clB]
    | [a], h => simp [f_is_cell, b_is_cell, runB_ev, clB]
    | a :: x :: r, h =>
      have ha := h.tup a (by simp)
      have hx := h.tup x (by simp)
      have g : ¬ ((r.length : Int) + 1 + 1 < 2) := by omega
      cases a with
      | str w =>
        have e1 := fEq_str (M := M) (so_str ha) so_in
        have e2 := fNe_str (M := M) (so_str ha) so_out
        cases q : (w == Str.ofString "in") with
        | true =>
          rw [q] at e1
          cases r with
          | nil =>
            have t := is_text_any (M := M) hx
            cases qt : txtB x with
            | false => simp [f_is_cell, b_is_cell, runB_ev, clB, e1, q, t, qt]
            | true =>
              obtain ⟨l, rfl, hl⟩ := txt_str qt
              have ln := fLen_tx (M := M) (l := l) (by have := hx.str.2; rw [tx_tl] at this; omega)
              have z : (0 : Int) ≤ l.length := by omega
              rw [qt] at t
              generalize hL : (l.length : Int) = L at *
              simp [f_is_cell, b_is_cell, runB_ev, clB, e1, q, t, qt, ln, lenB, tx_tl, hL, decide_eq_true z]
          | cons y r =>
            have g2 : ¬ ((r.length : Int) + 1 + 1 + 1 = 2) := by omega
            have w1 : (w == Str.ofString "out") = false := by
              rw [beq_iff_eq] at q
              rw [q]; exact bq_in_out
            have c : clB (.tup (.str w :: x :: y :: r)) = false := by
              cases r with
              | nil => simp [clB, w1]
              | cons => rfl
            have g1 : ¬ ((r.length : Int) + 1 + 1 + 1 < 2) := by omega
            simp [f_is_cell, b_is_cell, runB_ev, e1, c, decide_eq_false g1, decide_eq_false g2]
        | false =>
          rw [q] at e1
          cases q2 : (w == Str.ofString "out") with
          | false =>
            rw [q2] at e2
            have c : clB (.tup (.str w :: x :: r)) = false := by
              match r with
              | [] => simp [clB, q]
              | [y] => simp [clB, q2]
              | y :: z :: r => rfl
            simp [f_is_cell, b_is_cell, runB_ev, e1, e2, c, decide_eq_false g]
          | true =>
            rw [q2] at e2
            match r, h with
            | [], h =>
              simp [f_is_cell, b_is_cell, runB_ev, e1, e2, clB, q]
            | [y], h =>
              have t := whole_any (M := M) hx
              have n2 := is_number_any (M := M) (a := 1) (h.tup y (by simp))
              have i2 : fIx (.tup [.str w, x, y]) (.int 2) M = .ok y M := fIx_tup (L2.atI_nat (j := 2) rfl)
              cases qw : whB x with
              | false => simp [f_is_cell, b_is_cell, runB_ev, e1, e2, clB, q2, t, qw, num_no qw]
              | true =>
                obtain ⟨i, rfl⟩ := wh_int qw
                rw [qw] at t
                by_cases c1 : 1 ≤ i
                · by_cases c2 : i ≤ 400
                  · simp [f_is_cell, b_is_cell, runB_ev, e1, e2, clB, q2, t, i2, n2, numB, decide_eq_true c1, decide_eq_true c2]
                  · simp [f_is_cell, b_is_cell, runB_ev, e1, e2, clB, q2, t, i2, n2, numB, decide_eq_true c1, decide_eq_false c2]
                · simp [f_is_cell, b_is_cell, runB_ev, e1, e2, clB, q2, t, i2, n2, numB, decide_eq_false c1]
            | y :: z :: r, h =>
              have g2 : ¬ ((r.length : Int) + 1 + 1 + 1 + 1 = 3) := by omega
              have g1 : ¬ ((r.length : Int) + 1 + 1 + 1 + 1 < 2) := by omega
              simp [f_is_cell, b_is_cell, runB_ev, e1, e2, clB, decide_eq_false g1, decide_eq_false g2]
      | non => simp [f_is_cell, b_is_cell, runB_ev, clB, decide_eq_false g]
      | bl => simp [f_is_cell, b_is_cell, runB_ev, clB, decide_eq_false g]
      | int i => simp [f_is_cell, b_is_cell, runB_ev, clB, decide_eq_false g]
      | lst => simp [f_is_cell, b_is_cell, runB_ev, clB, decide_eq_false g]
      | tup => simp [f_is_cell, b_is_cell, runB_ev, clB, decide_eq_false g]
      | _ => have := ha.lay; cases n <;> simp [D.lay] at this
  | _ => have := h.lay; cases n <;> simp [D.lay] at this
theorem lis_cell_any {n : Nat} {d : D} {M : Mem} (h : Nc n d) : f__law_is_cell [d] M = .ok (.bl (clB d)) M := by
  cases d with
  | str x => simp [f__law_is_cell, b__law_is_cell, runB_ev, clB]
  | non => simp [f__law_is_cell, b__law_is_cell, runB_ev, clB]
  | bl => simp [f__law_is_cell, b__law_is_cell, runB_ev, clB]
  | int i => simp [f__law_is_cell, b__law_is_cell, runB_ev, clB]
  | lst => simp [f__law_is_cell, b__law_is_cell, runB_ev, clB]
  | tup ds =>
    match ds, h with
    | [], h => simp [f__law_is_cell, b__law_is_cell, runB_ev, clB]
    | [a], h => simp [f__law_is_cell, b__law_is_cell, runB_ev, clB]
    | a :: x :: r, h =>
      have ha := h.tup a (by simp)
      have hx := h.tup x (by simp)
      have g : ¬ ((r.length : Int) + 1 + 1 < 2) := by omega
      cases a with
      | str w =>
        have e1 := fEq_str (M := M) (so_str ha) so_in
        have e2 := fNe_str (M := M) (so_str ha) so_out
        cases q : (w == Str.ofString "in") with
        | true =>
          rw [q] at e1
          cases r with
          | nil =>
            have t := lgood_any (M := M) (a := 0) (b := 63) hx
            simp [f__law_is_cell, b__law_is_cell, runB_ev, clB, e1, q, t]
          | cons y r =>
            have g2 : ¬ ((r.length : Int) + 1 + 1 + 1 = 2) := by omega
            have w1 : (w == Str.ofString "out") = false := by
              rw [beq_iff_eq] at q
              rw [q]; exact bq_in_out
            have c : clB (.tup (.str w :: x :: y :: r)) = false := by
              cases r with
              | nil => simp [clB, w1]
              | cons => rfl
            have g1 : ¬ ((r.length : Int) + 1 + 1 + 1 < 2) := by omega
            simp [f__law_is_cell, b__law_is_cell, runB_ev, e1, c, decide_eq_false g1, decide_eq_false g2]
        | false =>
          rw [q] at e1
          cases q2 : (w == Str.ofString "out") with
          | false =>
            rw [q2] at e2
            have c : clB (.tup (.str w :: x :: r)) = false := by
              match r with
              | [] => simp [clB, q]
              | [y] => simp [clB, q2]
              | y :: z :: r => rfl
            simp [f__law_is_cell, b__law_is_cell, runB_ev, e1, e2, c, decide_eq_false g]
          | true =>
            rw [q2] at e2
            match r, h with
            | [], h =>
              simp [f__law_is_cell, b__law_is_cell, runB_ev, e1, e2, clB, q]
            | [y], h =>
              have n1 := lnumber_any (M := M) (a := 1) (b := 400) hx
              have n2 := lnumber_any (M := M) (a := 1) (b := 4095) (h.tup y (by simp))
              have i2 : fIx (.tup [.str w, x, y]) (.int 2) M = .ok y M := fIx_tup (L2.atI_nat (j := 2) rfl)
              cases qw : numB 1 400 x with
              | false => simp [f__law_is_cell, b__law_is_cell, runB_ev, e1, e2, clB, q2, n1, qw]
              | true => simp [f__law_is_cell, b__law_is_cell, runB_ev, e1, e2, clB, q2, n1, qw, i2, n2]
            | y :: z :: r, h =>
              have g2 : ¬ ((r.length : Int) + 1 + 1 + 1 + 1 = 3) := by omega
              have g1 : ¬ ((r.length : Int) + 1 + 1 + 1 + 1 < 2) := by omega
              simp [f__law_is_cell, b__law_is_cell, runB_ev, e1, e2, clB, decide_eq_false g1, decide_eq_false g2]
      | non => simp [f__law_is_cell, b__law_is_cell, runB_ev, clB, decide_eq_false g]
      | bl => simp [f__law_is_cell, b__law_is_cell, runB_ev, clB, decide_eq_false g]
      | int i => simp [f__law_is_cell, b__law_is_cell, runB_ev, clB, decide_eq_false g]
      | lst => simp [f__law_is_cell, b__law_is_cell, runB_ev, clB, decide_eq_false g]
      | tup => simp [f__law_is_cell, b__law_is_cell, runB_ev, clB, decide_eq_false g]
      | _ => have := ha.lay; cases n <;> simp [D.lay] at this
  | _ => have := h.lay; cases n <;> simp [D.lay] at this
def rwB : D → Bool
  | .tup [k, c] => kyB k && clB c
  | _ => false
def rowC : D → Bool
  | .tup [k, c] => clB c
  | _ => false
def fstD : D → D
  | .tup (k :: _) => k
  | _ => .non
theorem is_row_any {n : Nat} {d : D} {M : Mem} (h : Nc n d) : f_is_row [d] M = .ok (.bl (rwB d)) M := by
  cases d with
  | str x => simp [f_is_row, b_is_row, runB_ev, rwB]
  | non => simp [f_is_row, b_is_row, runB_ev, rwB]
  | bl => simp [f_is_row, b_is_row, runB_ev, rwB]
  | int i => simp [f_is_row, b_is_row, runB_ev, rwB]
  | lst => simp [f_is_row, b_is_row, runB_ev, rwB]
  | tup ds =>
    match ds, h with
    | [], h => simp [f_is_row, b_is_row, runB_ev, rwB]
    | [a], h => simp [f_is_row, b_is_row, runB_ev, rwB]
    | [a, b], h =>
      have ka := is_key_any (M := M) (h.tup a (by simp))
      have kb := is_cell_any (M := M) (h.tup b (by simp))
      cases q : kyB a <;> simp [f_is_row, b_is_row, runB_ev, rwB, ka, kb, q]
    | a :: b :: c :: r, h =>
      have g2 : ¬ ((r.length : Int) + 1 + 1 + 1 = 2) := by omega
      simp [f_is_row, b_is_row, runB_ev, rwB, decide_eq_false g2]
  | _ => have := h.lay; cases n <;> simp [D.lay] at this
def ltB : D → D → Bool
  | .str x, .str y => strLt x y
  | _, _ => false
def adjB (ds : List D) : Bool := (List.range (ds.length - 1)).all fun i => ltB (ds.getD i .non) (ds.getD (i + 1) .non)
def riseB (ds : List D) : Bool := !decide (63 < (ds.length : Int)) && (ds.all kyB && adjB ds)
theorem compL_self {g : D → D} {M : Mem} {dg : DG} {t : DT} {de : DE} {r : Env'} (ds acc : List D) (h : ∀ a ∈ ds, ∃ r1, dg a r M = .ok r1 M ∧ t r1 M = .ok true M ∧ de r1 M = .ok (g a) M) (hl : acc.length + ds.length ≤ 100000) : compL anyM dg t de r ds acc M = .ok (acc ++ ds.map g) M := by
  have k := compL_img (f := fun d : D => d) ds acc h hl
  rw [List.map_id'] at k
  exact k
theorem key_str {d : D} (h : kyB d = true) : ∃ x, d = .str x := by
  cases d with
  | str x => exact ⟨x, rfl⟩
  | _ => simp [kyB, txtB] at h
theorem rise_comp {T : D} {ds : List D} {M : Mem} {de : DE} {r : Env'} (hd : ∀ i : Int, de (r.set 2 (some (.int i))) M = binK1 fLtX (fIx T (.int i) M) (dBin fIx (dVar 0) (dBin fAdd (dVar 2) (dC (.int 1)))) (r.set 2 (some (.int i))))
    (h0 : r[0]? = some (some T)) (h2 : 2 < r.length) (hT : ∀ (j : Nat) (d : D), ds[j]? = some d → fIx T (.int (j : Nat)) M = .ok d M) (hk : ds.all kyB = true) (hl : ds.length ≤ 1000) :
    compL anyM (gSlot 2) dYes de r (irng 0 (ds.length - 1)) [] M = .ok ((List.range (ds.length - 1)).map fun i => .bl (ltB (ds.getD i .non) (ds.getD (i + 1) .non))) M := by
  have e : irng 0 (ds.length - 1) = (List.range (ds.length - 1)).map fun i : Nat => .int (i : Int) := by
    unfold irng
    exact List.map_congr_left fun i _ => by simp
  have k2 := compL_img (t := dYes) (de := de) (r := r) (M := M) (dg := gSlot 2) (f := fun i : Nat => .int (i : Int)) (g := fun i => .bl (ltB (ds.getD i .non) (ds.getD (i + 1) .non))) (List.range (ds.length - 1)) [] (fun i hi => ⟨_, rfl, rfl, by
    have hi := List.mem_range.mp hi
    have g1 : ds[i]? = some (ds[i]'(by omega)) := List.getElem?_eq_getElem (by omega)
    have g2 : ds[i + 1]? = some (ds[i + 1]'(by omega)) := List.getElem?_eq_getElem (by omega)
    obtain ⟨x, hx⟩ := key_str (List.all_eq_true.mp hk _ (List.getElem_mem (show i < ds.length by omega)))
    obtain ⟨y, hy⟩ := key_str (List.all_eq_true.mp hk _ (List.getElem_mem (show i + 1 < ds.length by omega)))
    rw [hx] at g1
    rw [hy] at g2
    have v0 : (r.set 2 (some (D.int (i : Int))))[0]? = some (some T) := by rw [List.getElem?_set_ne (by decide)]; exact h0
    have v2 : (r.set 2 (some (D.int (i : Int))))[2]? = some (some (D.int (i : Int))) := by rw [List.getElem?_set_self h2]
    have t2 := hT (i + 1) _ g2
    rw [show ((i + 1 : Nat) : Int) = (i : Int) + 1 by omega] at t2
    rw [hd, hT i _ g1]
    simp [v0, v2, t2, List.getD_eq_getElem?_getD, g1, g2, ltB]⟩) (by simp; omega)
  rw [List.nil_append] at k2
  rw [e]
  exact k2
theorem are_keys_any {n : Nat} {ds : List D} {M : Mem} (hd : ∀ x ∈ ds, Nc n x) (hl : ds.length ≤ 90000) : f_are_keys [.lst ds] M = .ok (.bl (riseB ds)) M := by
  unfold riseB
  have k1 := compL_self (t := dYes) (de := c1_are_keys) (r := [some (.lst ds), none, none]) (M := M) (dg := gSlot 1) (g := fun d => .bl (kyB d)) ds [] (fun a ha => ⟨_, rfl, rfl, by
    simp [c1_are_keys, is_key_any (M := M) (hd a ha)]⟩) (by simp; omega)
  rw [List.nil_append] at k1
  have al := fAll_of (M := M) (blsOf_map (f := kyB) ds)
  rw [List.all_map] at al
  have al : fAll [.lst (ds.map fun a => .bl (kyB a))] M = .ok (.bl (ds.all kyB)) M := al
  by_cases c : (63 : Int) < ds.length
  · simp [-dItL_ev, f_are_keys, b_are_keys, runB_ev, decide_eq_true c]
  · cases q : ds.all kyB with
    | false =>
      rw [q] at al
      simp [-dItL_ev, f_are_keys, b_are_keys, runB_ev, decide_eq_false c, dItL_K, k1, al]
    | true =>
      rw [q] at al
      have k2 := rise_comp (T := .lst ds) (ds := ds) (M := M) (de := c2_are_keys) (r := [some (.lst ds), none, none]) (fun i => by simp [c2_are_keys]) rfl (by simp) (fun j d e => fIx_lst (L2.atI_nat e)) q (by omega)
      have al2 := fAll_of (M := M) (blsOf_map (f := fun i => ltB (ds.getD i .non) (ds.getD (i + 1) .non)) (List.range (ds.length - 1)))
      rw [List.all_map] at al2
      have al2 : fAll [.lst ((List.range (ds.length - 1)).map fun i => .bl (ltB (ds.getD i .non) (ds.getD (i + 1) .non)))] M = .ok (.bl (adjB ds)) M := al2
      simp only [List.getD_eq_getElem?_getD] at k2 al2
      have b1 : (-4611686018427387904 : Int) ≤ (ds.length : Int) - 1 := by omega
      have b2 : (ds.length : Int) - 1 < 4611686018427387904 := by omega
      simp [-dItL_ev, f_are_keys, b_are_keys, runB_ev, decide_eq_false c, dItL_K, k1, al, itR1K_ok b1 b2, k2, al2]
theorem lrise_any {n : Nat} {T : D} {ds : List D} {M : Mem} (hT : T = .lst ds ∨ T = .tup ds) (hd : ∀ x ∈ ds, Nc n x) (hl : ds.length ≤ 90000) : f__law_rise [T] M = .ok (.bl (riseB ds)) M := by
  have hi : itUK (.ok T M) = .ok ⟨ds, anyM⟩ M := by
    rcases hT with rfl | rfl
    · exact itUK_L itLK_lst
    · rfl
  have hn : fLen [T] M = .ok (.int ds.length) M := by
    rcases hT with rfl | rfl <;> rfl
  have hx : ∀ (j : Nat) (d : D), ds[j]? = some d → fIx T (.int (j : Nat)) M = .ok d M := fun j d e => by
    rcases hT with rfl | rfl
    · exact fIx_lst (L2.atI_nat e)
    · exact fIx_tup (L2.atI_nat e)
  clear hT
  unfold riseB
  have k1 := compL_self (t := dYes) (de := c1__law_rise) (r := [some T, none, none]) (M := M) (dg := gSlot 1) (g := fun d => .bl (kyB d)) ds [] (fun a ha => ⟨_, rfl, rfl, by
    simp [c1__law_rise, lgood_any (M := M) (hd a ha), kyB]⟩) (by simp; omega)
  rw [List.nil_append] at k1
  have al := fAll_of (M := M) (blsOf_map (f := kyB) ds)
  rw [List.all_map] at al
  have al : fAll [.lst (ds.map fun a => .bl (kyB a))] M = .ok (.bl (ds.all kyB)) M := al
  by_cases c : (63 : Int) < ds.length
  · simp [f__law_rise, b__law_rise, runB_ev, hn, decide_eq_true c]
  · cases q : ds.all kyB with
    | false =>
      rw [q] at al
      simp [f__law_rise, b__law_rise, runB_ev, hn, decide_eq_false c, hi, k1, al]
    | true =>
      rw [q] at al
      have k2 := rise_comp (T := T) (ds := ds) (M := M) (de := c2__law_rise) (r := [some T, none, none]) (fun i => by simp [c2__law_rise]) rfl (by simp) hx q (by omega)
      have al2 := fAll_of (M := M) (blsOf_map (f := fun i => ltB (ds.getD i .non) (ds.getD (i + 1) .non)) (List.range (ds.length - 1)))
      rw [List.all_map] at al2
      have al2 : fAll [.lst ((List.range (ds.length - 1)).map fun i => .bl (ltB (ds.getD i .non) (ds.getD (i + 1) .non)))] M = .ok (.bl (adjB ds)) M := al2
      simp only [List.getD_eq_getElem?_getD] at k2 al2
      have b1 : (-4611686018427387904 : Int) ≤ (ds.length : Int) - 1 := by omega
      have b2 : (ds.length : Int) - 1 < 4611686018427387904 := by omega
      simp [f__law_rise, b__law_rise, runB_ev, hn, decide_eq_false c, hi, k1, al, itR1K_ok b1 b2, k2, al2]
end K03
set_option Elab.async false
set_option linter.all false
set_option maxRecDepth 100000
set_option maxHeartbeats 4000000
namespace K03
open PySem PySem.Spec PyProof.Rows L2 LF
def restB : List D → Bool
  | [x, y] => (txtB x && lenB 1 400 x) && numB 0 4095 y
  | _ => false
def forkB : List D → Bool
  | [.tup ks, .tup ns] => riseB ks && (decide ((ns.length : Int) = (ks.length : Int) + 1) && ns.all (numB 1 4095))
  | _ => false
def leafB : List D → Bool
  | [.tup rows] => rows.all rowC && riseB (rows.map fstD)
  | _ => false
def numsB (k : Nat) (r : List D) : Bool := decide ((r.length : Int) = k) && r.all (numB 0 4095)
def wB (w : Str) (r : List D) : Bool :=
  if (w == Str.ofString "head") = true then numsB 4 r else if (w == Str.ofString "free") = true then numsB 1 r
  else if (w == Str.ofString "rest") = true then restB r else if (w == Str.ofString "fork") = true then forkB r
  else (w == Str.ofString "leaf") && leafB r
def pageB : D → Bool
  | .tup (.str w :: r) => wB w r
  | _ => false
theorem key_inv {n : Nat} {d : D} (h : Nc n d) (k : kyB d = true) : ∃ l, d = keyD l ∧ KeyOk l := by
  obtain ⟨k1, k2⟩ := Bool.and_eq_true_iff.mp k
  obtain ⟨l, rfl, hl⟩ := txt_str k1
  obtain ⟨a, b⟩ := Bool.and_eq_true_iff.mp k2
  rw [tx_tl] at a b
  have a := of_decide_eq_true a
  have b := of_decide_eq_true b
  exact ⟨l, rfl, List.all_eq_true.mp hl, by omega, by omega⟩
theorem list_inv {α : Type} {f : α → D} {P : D → Bool} {Q : α → Prop} : ∀ {ds : List D}, (∀ d ∈ ds, P d = true → ∃ a, d = f a ∧ Q a) → ds.all P = true → ∃ l : List α, ds = l.map f ∧ ∀ a ∈ l, Q a
  | [], _, _ => ⟨[], rfl, by simp⟩
  | d :: ds, h, k => by
    rw [List.all_cons] at k
    obtain ⟨k1, k2⟩ := Bool.and_eq_true_iff.mp k
    obtain ⟨a, rfl, qa⟩ := h d (by simp) k1
    obtain ⟨l, rfl, ql⟩ := list_inv (fun x hx => h x (by simp [hx])) k2
    exact ⟨a :: l, rfl, fun b hb => by
      rcases List.mem_cons.mp hb with rfl | hb
      · exact qa
      · exact ql b hb⟩
theorem num_inv {a b : Int} {d : D} (h : numB a b d = true) : ∃ i, d = .int i ∧ a ≤ i ∧ i ≤ b := by
  cases d with
  | int i =>
    obtain ⟨h1, h2⟩ := Bool.and_eq_true_iff.mp h
    exact ⟨i, rfl, of_decide_eq_true h1, of_decide_eq_true h2⟩
  | _ => simp [numB] at h
theorem cell_inv {n : Nat} {d : D} (h : Nc n d) (k : clB d = true) : ∃ c : Cell, d = c.toD ∧ CellOk c := by
  unfold clB at k
  split at k
  · rename_i a x
    obtain ⟨k1, k2⟩ := Bool.and_eq_true_iff.mp k
    obtain ⟨k2, k3⟩ := Bool.and_eq_true_iff.mp k2
    obtain ⟨l, rfl, hl⟩ := txt_str k2
    unfold lenB at k3
    obtain ⟨_, b⟩ := Bool.and_eq_true_iff.mp k3
    rw [tx_tl] at b
    have b := of_decide_eq_true b
    rw [beq_iff_eq] at k1
    subst k1
    exact ⟨.inn l, rfl, List.all_eq_true.mp hl, by omega⟩
  · rename_i a x y
    obtain ⟨k1, k2⟩ := Bool.and_eq_true_iff.mp k
    obtain ⟨k2, k3⟩ := Bool.and_eq_true_iff.mp k2
    obtain ⟨i, rfl, i1, i2⟩ := num_inv k2
    obtain ⟨j, rfl, j1, j2⟩ := num_inv k3
    rw [beq_iff_eq] at k1
    subst k1
    exact ⟨.out i j, rfl, ⟨i1, i2⟩, j1, j2⟩
  · cases k
theorem rise_inv {n : Nat} {ds : List D} (hd : ∀ x ∈ ds, Nc n x) (h : riseB ds = true) : ∃ ks, ds = ks.map keyD ∧ Rising ks := by
  unfold riseB at h
  obtain ⟨h1, h2⟩ := Bool.and_eq_true_iff.mp h
  obtain ⟨h2, h3⟩ := Bool.and_eq_true_iff.mp h2
  have h1 : ¬ (63 : Int) < ds.length := by simpa using h1
  obtain ⟨ks, rfl, hk⟩ := list_inv (f := keyD) (Q := KeyOk) (fun d hx k => key_inv (hd d hx) k) h2
  refine ⟨ks, rfl, by simp at h1; omega, hk, fun i a b ha hb => ?_⟩
  have hi := (List.getElem?_eq_some_iff.mp hb).1
  have := List.all_eq_true.mp h3 i (List.mem_range.mpr (by simp; omega))
  simp [List.getD_eq_getElem?_getD, ha, hb, keyD, ltB, strLt_tx] at this
  exact this
theorem rows_inv {n : Nat} {rows : List D} (hd : ∀ x ∈ rows, Nc n x) (h1 : rows.all rowC = true) (h2 : riseB (rows.map fstD) = true) : ∃ rs : List Row, rows = rs.map rowD ∧ Rising (rs.map (·.1)) ∧ ∀ r ∈ rs, CellOk r.2 := by
  have h3 : (rows.map fstD).all kyB = true := by
    unfold riseB at h2
    exact (Bool.and_eq_true_iff.mp (Bool.and_eq_true_iff.mp h2).2).1
  have key : ∀ d ∈ rows, (rowC d && kyB (fstD d)) = true → ∃ r : Row, d = rowD r ∧ CellOk r.2 := fun d hx k => by
    obtain ⟨k1, k2⟩ := Bool.and_eq_true_iff.mp k
    unfold rowC at k1
    split at k1
    · rename_i a c
      obtain ⟨l, rfl, hl⟩ := key_inv ((hd _ hx).tup a (by simp)) k2
      obtain ⟨c, rfl, hc⟩ := cell_inv ((hd _ hx).tup c (by simp)) k1
      exact ⟨(l, c), rfl, hc⟩
    · cases k1
  have h4 : rows.all (fun d => rowC d && kyB (fstD d)) = true := List.all_eq_true.mpr fun d hx => by
    rw [List.all_eq_true.mp h1 d hx, List.all_eq_true.mp h3 _ (List.mem_map.mpr ⟨d, hx, rfl⟩)]; rfl
  obtain ⟨rs, rfl, hr⟩ := list_inv key h4
  refine ⟨rs, rfl, ?_, hr⟩
  have e : (rs.map rowD).map fstD = (rs.map (·.1)).map keyD := by
    rw [List.map_map, List.map_map]; rfl
  rw [e] at h2
  obtain ⟨ks, e2, hk⟩ := rise_inv (n := n) (fun x hx => by
    rw [← e] at hx
    obtain ⟨d, hd1, rfl⟩ := List.mem_map.mp hx
    obtain ⟨r, hr1, rfl⟩ := List.mem_map.mp hd1
    exact (hd _ hd1).tup _ (by simp [rowD, fstD])) h2
  have inj : ∀ (a b : List (List Nat)), a.map keyD = b.map keyD → a = b := by
    intro a
    induction a with
    | nil => intro b h; cases b with
      | nil => rfl
      | cons => simp at h
    | cons x a ih =>
      intro b h
      cases b with
      | nil => simp at h
      | cons y b =>
        simp only [List.map_cons, List.cons.injEq, keyD, D.str.injEq] at h
        rw [tx_inj h.1, ih b h.2]
  rw [inj _ _ e2]
  exact hk
theorem page_inv {n : Nat} {d : D} (h : Nc n d) (k : pageB d = true) : ∃ p : Pg, d = p.toD ∧ Good p := by
  unfold pageB at k
  split at k
  · rename_i w r
    unfold wB at k
    split at k
    · rename_i q
      rw [beq_iff_eq] at q
      subst q
      obtain ⟨k1, k2⟩ := Bool.and_eq_true_iff.mp k
      have k1 := of_decide_eq_true k1
      obtain ⟨ns, rfl, hn⟩ := list_inv (f := D.int) (Q := fun i => NumOk 0 i) (fun d _ k => by
        obtain ⟨i, rfl, a, b⟩ := num_inv k
        exact ⟨i, rfl, a, b⟩) k2
      match ns, k1, hn with
      | [a, b, c, e], _, hn => exact ⟨.head a b c e, rfl, hn a (by simp), hn b (by simp), hn c (by simp), hn e (by simp)⟩
      | [], k1, _ => simp at k1
      | [_], k1, _ => simp at k1
      | [_, _], k1, _ => simp at k1
      | [_, _, _], k1, _ => simp at k1
      | _ :: _ :: _ :: _ :: _ :: _, k1, _ => simp at k1; omega
    · split at k
      · rename_i _ q
        rw [beq_iff_eq] at q
        subst q
        obtain ⟨k1, k2⟩ := Bool.and_eq_true_iff.mp k
        have k1 := of_decide_eq_true k1
        obtain ⟨ns, rfl, hn⟩ := list_inv (f := D.int) (Q := fun i => NumOk 0 i) (fun d _ k => by
          obtain ⟨i, rfl, a, b⟩ := num_inv k
          exact ⟨i, rfl, a, b⟩) k2
        match ns, k1, hn with
        | [a], _, hn => exact ⟨.free a, rfl, hn a (by simp)⟩
        | [], k1, _ => simp at k1
        | _ :: _ :: _, k1, _ => simp at k1; omega
      · split at k
        · rename_i _ _ q
          rw [beq_iff_eq] at q
          subst q
          unfold restB at k
          split at k
          · rename_i x y
            obtain ⟨k1, k2⟩ := Bool.and_eq_true_iff.mp k
            obtain ⟨k0, k1⟩ := Bool.and_eq_true_iff.mp k1
            obtain ⟨i, rfl, a, b⟩ := num_inv k2
            obtain ⟨l, rfl, hl⟩ := txt_str k0
            obtain ⟨c, e⟩ := Bool.and_eq_true_iff.mp k1
            rw [tx_tl] at c e
            have c := of_decide_eq_true c
            have e := of_decide_eq_true e
            exact ⟨.rest l i, rfl, List.all_eq_true.mp hl, by omega, by omega, a, b⟩
          · cases k
        · split at k
          · rename_i _ _ _ q
            rw [beq_iff_eq] at q
            subst q
            unfold forkB at k
            split at k
            · rename_i ks ns
              obtain ⟨k1, k2⟩ := Bool.and_eq_true_iff.mp k
              obtain ⟨k2, k3⟩ := Bool.and_eq_true_iff.mp k2
              have k2 := of_decide_eq_true k2
              obtain ⟨ks, rfl, hk⟩ := rise_inv (fun x hx => (h.tup (.tup ks) (by simp)).tup x hx) k1
              obtain ⟨ns, rfl, hn⟩ := list_inv (f := D.int) (Q := fun i => NumOk 1 i) (fun d _ k => by
                obtain ⟨i, rfl, a, b⟩ := num_inv k
                exact ⟨i, rfl, a, b⟩) k3
              exact ⟨.fork ks ns, rfl, hk, hn, by simp at k2; omega⟩
            · cases k
          · obtain ⟨q, kk⟩ := Bool.and_eq_true_iff.mp k
            rw [beq_iff_eq] at q
            subst q
            clear k
            unfold leafB at kk
            split at kk
            · rename_i rows
              have k := kk
              obtain ⟨k1, k2⟩ := Bool.and_eq_true_iff.mp k
              obtain ⟨rs, rfl, h1, h2⟩ := rows_inv (fun x hx => (h.tup (.tup rows) (by simp)).tup x hx) k1 k2
              exact ⟨.leaf rs, rfl, h1, h2⟩
            · cases kk
  · cases k
end K03
set_option Elab.async false
set_option linter.all false
set_option maxRecDepth 100000
set_option maxHeartbeats 4000000
namespace K03
open PySem PySem.Spec PyProof.Rows L2 LF
theorem hw_no {n : Nat} {d : D} {M : Mem} {w : Str} {k : Int} (h : Nc n d) (hk : 0 < k) (hd : ∀ v r, d ≠ .tup (.str v :: r)) : f_has_word [d, .str w, .int k] M = .ok (.bl false) M := by
  cases d with
  | str x => simp [f_has_word, b_has_word, runB_ev]
  | non => simp [f_has_word, b_has_word, runB_ev]
  | bl => simp [f_has_word, b_has_word, runB_ev]
  | int i => simp [f_has_word, b_has_word, runB_ev]
  | lst => simp [f_has_word, b_has_word, runB_ev]
  | tup ds =>
    match ds, h, hd with
    | [], _, _ => simp [f_has_word, b_has_word, runB_ev, decide_eq_false (show ¬ (0 : Int) = k by omega)]
    | a :: r, h, hd =>
      have ha := h.tup a (by simp)
      cases q : decide ((r.length : Int) + 1 = k) with
      | false => simp [f_has_word, b_has_word, runB_ev, q]
      | true =>
        cases a with
        | str x => exact absurd rfl (hd x r)
        | non => simp [f_has_word, b_has_word, runB_ev, q]
        | bl => simp [f_has_word, b_has_word, runB_ev, q]
        | int i => simp [f_has_word, b_has_word, runB_ev, q]
        | lst => simp [f_has_word, b_has_word, runB_ev, q]
        | tup => simp [f_has_word, b_has_word, runB_ev, q]
        | _ => have := ha.lay; cases n <;> simp [D.lay] at this
  | _ => have := h.lay; cases n <;> simp [D.lay] at this
theorem all_ev {ds : List D} {p : D → Bool} {M : Mem} : fAll [.lst (ds.map fun a => .bl (p a))] M = .ok (.bl (ds.all p)) M := by
  have al := fAll_of (M := M) (blsOf_map (f := p) ds)
  rw [List.all_map] at al
  exact al
theorem made_bad {n : Nat} {d : D} {M : Mem} (h : Nc n d) (hd : ∀ v r, d ≠ .tup (.str v :: r)) : f_made [d] M = .ok .non M := by
  have e := fun w k (hk : 0 < k) => hw_no (M := M) (w := w) (k := k) h hk hd
  simp [f_made, b_made, runB_ev, e (Str.ofString "head") 5 (by decide), e (Str.ofString "leaf") 2 (by decide), e (Str.ofString "fork") 3 (by decide), e (Str.ofString "rest") 3 (by decide), e (Str.ofString "free") 2 (by decide)]
section
variable {n : Nat} {r : List D} {M : Mem}
theorem made_no_head (h : Nc n (.tup (.str (Str.ofString "head") :: r))) (k : numsB 4 r = false) : f_made [.tup (.str (Str.ofString "head") :: r)] M = .ok .non M := by
  cases q : decide ((r.length : Int) + 1 = 5) with
  | false => simp [f_made, b_made, runB_ev, has_word_ev so_head so_head, has_word_ev so_head so_leaf, has_word_ev so_head so_fork, has_word_ev so_head so_rest, has_word_ev so_head so_free, bq_head_leaf, bq_head_fork, bq_head_rest, bq_head_free, q]
  | true =>
    have c := compL_self (t := dYes) (de := c1_made) (r := [some (.tup (.str (Str.ofString "head") :: r)), none, none, none]) (M := M) (dg := gSlot 1) (g := fun d => .bl (numB 0 4095 d)) r [] (fun a ha => ⟨_, rfl, rfl, by
      simp [c1_made, is_number_any (M := M) (a := 0) (h.tup a (by simp [ha]))]⟩) (by have := h.len; simp at this ⊢; omega)
    rw [List.nil_append] at c
    have al := all_ev (ds := r) (p := numB 0 4095) (M := M)
    have f : r.all (numB 0 4095) = false := by
      unfold numsB at k
      have q := of_decide_eq_true q
      rw [decide_eq_true (show (r.length : Int) = ((4 : Nat) : Int) by omega)] at k
      exact k
    rw [f] at al
    simp [f_made, b_made, runB_ev, has_word_ev so_head so_head, has_word_ev so_head so_leaf, has_word_ev so_head so_fork, has_word_ev so_head so_rest, has_word_ev so_head so_free, bq_head_head, bq_head_leaf, bq_head_fork, bq_head_rest, bq_head_free, q, cutN_one, c, al]
theorem made_no_free (h : Nc n (.tup (.str (Str.ofString "free") :: r))) (k : numsB 1 r = false) : f_made [.tup (.str (Str.ofString "free") :: r)] M = .ok .non M := by
  cases q : decide ((r.length : Int) + 1 = 2) with
  | false => simp [f_made, b_made, runB_ev, has_word_ev so_free so_head, has_word_ev so_free so_leaf, has_word_ev so_free so_fork, has_word_ev so_free so_rest, has_word_ev so_free so_free, bq_free_head, bq_free_leaf, bq_free_fork, bq_free_rest, bq_free_free, q]
  | true =>
    have q' := of_decide_eq_true q
    match r, h, k, q' with
    | [x], h, k, _ =>
      have f : numB 0 4095 x = false := by
        unfold numsB at k
        simpa using k
      have t := is_number_any (M := M) (a := 0) (h.tup x (by simp))
      simp [f_made, b_made, runB_ev, has_word_ev so_free so_head, has_word_ev so_free so_leaf, has_word_ev so_free so_fork, has_word_ev so_free so_rest, has_word_ev so_free so_free, bq_free_head, bq_free_leaf, bq_free_fork, bq_free_rest, bq_free_free, t, f]
    | [], _, _, q' => simp at q'
    | _ :: _ :: _, _, _, q' => simp at q'; omega
theorem made_no_rest (h : Nc n (.tup (.str (Str.ofString "rest") :: r))) (k : restB r = false) : f_made [.tup (.str (Str.ofString "rest") :: r)] M = .ok .non M := by
  cases q : decide ((r.length : Int) + 1 = 3) with
  | false => simp [f_made, b_made, runB_ev, has_word_ev so_rest so_head, has_word_ev so_rest so_leaf, has_word_ev so_rest so_fork, has_word_ev so_rest so_rest, has_word_ev so_rest so_free, bq_rest_head, bq_rest_leaf, bq_rest_fork, bq_rest_rest, bq_rest_free, q]
  | true =>
    have q' := of_decide_eq_true q
    match r, h, k, q' with
    | [x, y], h, k, _ =>
      have t := is_number_any (M := M) (a := 0) (h.tup y (by simp))
      have v := is_value_any (M := M) (h.tup x (by simp))
      have i2 : fIx (.tup [.str (Str.ofString "rest"), x, y]) (.int 2) M = .ok y M := fIx_tup (L2.atI_nat (j := 2) rfl)
      cases qv : valB x with
      | false => simp [f_made, b_made, runB_ev, has_word_ev so_rest so_head, has_word_ev so_rest so_leaf, has_word_ev so_rest so_fork, has_word_ev so_rest so_rest, has_word_ev so_rest so_free, bq_rest_head, bq_rest_leaf, bq_rest_fork, bq_rest_rest, bq_rest_free, v, qv]
      | true =>
        obtain ⟨q1, q2⟩ := Bool.and_eq_true_iff.mp qv
        obtain ⟨l, rfl, hl⟩ := txt_str q1
        have so := (h.tup (.str (tx l)) (by simp)).str.1
        have e := fNe_str (M := M) so (show PyData.strOk (Str.ofString "") = true by decide +kernel)
        rw [tx_empty, tx_beq] at e
        unfold lenB at q2
        obtain ⟨_, q3⟩ := Bool.and_eq_true_iff.mp q2
        cases l with
        | nil =>
          have e : fNe (.str (tx [])) (.str (tx [])) M = .ok (.bl false) M := e
          simp [f_made, b_made, runB_ev, has_word_ev so_rest so_head, has_word_ev so_rest so_leaf, has_word_ev so_rest so_fork, has_word_ev so_rest so_rest, has_word_ev so_rest so_free, bq_rest_head, bq_rest_leaf, bq_rest_fork, bq_rest_rest, bq_rest_free, v, qv, tx_empty, e]
        | cons c l =>
          have e : fNe (.str (tx (c :: l))) (.str (tx [])) M = .ok (.bl true) M := e
          have f : numB 0 4095 y = false := by
            have k : ((txtB (.str (tx (c :: l))) && lenB 1 400 (.str (tx (c :: l)))) && numB 0 4095 y) = false := k
            rw [q1, Bool.true_and] at k
            have z : lenB 1 400 (.str (tx (c :: l))) = true := by
              show (decide ((1 : Int) ≤ ((tx (c :: l)).cps.toList.length : Nat)) && decide (((tx (c :: l)).cps.toList.length : Int) ≤ 400)) = true
              rw [tx_tl] at q3 ⊢
              rw [decide_eq_true (show (1 : Int) ≤ ((c :: l).length : Nat) by simp; omega), q3]; rfl
            rw [z] at k
            exact k
          simp [f_made, b_made, runB_ev, has_word_ev so_rest so_head, has_word_ev so_rest so_leaf, has_word_ev so_rest so_fork, has_word_ev so_rest so_rest, has_word_ev so_rest so_free, bq_rest_head, bq_rest_leaf, bq_rest_fork, bq_rest_rest, bq_rest_free, v, qv, tx_empty, e, i2, t, f]
    | [], _, _, q' => simp at q'
    | [_], _, _, q' => simp at q'
    | _ :: _ :: _ :: _, _, _, q' => simp at q'; omega
theorem isB_tup {d : D} (h : Nc n d) (p : ∀ ds, d ≠ .tup ds) : isBK (fun t => t == "tuple") (.ok d M) = .ok (.bl false) M := by
  cases d with
  | tup ds => exact absurd rfl (p ds)
  | str x => simp
  | non => simp
  | bl => simp
  | int i => simp
  | lst => simp
  | _ => have := h.lay; cases n <;> simp [D.lay] at this
theorem isB_str {d : D} (h : Nc n d) (p : ∀ x, d ≠ .str x) : isBK (fun t => t == "str") (.ok d M) = .ok (.bl false) M := by
  cases d with
  | tup ds => simp
  | str x => exact absurd rfl (p x)
  | non => simp
  | bl => simp
  | int i => simp
  | lst => simp
  | _ => have := h.lay; cases n <;> simp [D.lay] at this
theorem made_no_fork (h : Nc n (.tup (.str (Str.ofString "fork") :: r))) (k : forkB r = false) : f_made [.tup (.str (Str.ofString "fork") :: r)] M = .ok .non M := by
  cases q : decide ((r.length : Int) + 1 = 3) with
  | false => simp [f_made, b_made, runB_ev, has_word_ev so_fork so_head, has_word_ev so_fork so_leaf, has_word_ev so_fork so_fork, has_word_ev so_fork so_rest, has_word_ev so_fork so_free, bq_fork_head, bq_fork_leaf, bq_fork_fork, bq_fork_rest, bq_fork_free, q]
  | true =>
    have q' := of_decide_eq_true q
    match r, h, k, q' with
    | [x, y], h, k, _ =>
      have hx := h.tup x (by simp)
      have hy := h.tup y (by simp)
      have i2 : fIx (.tup [.str (Str.ofString "fork"), x, y]) (.int 2) M = .ok y M := fIx_tup (L2.atI_nat (j := 2) rfl)
      by_cases tx : ∃ ks, x = .tup ks
      · obtain ⟨ks, rfl⟩ := tx
        by_cases ty : ∃ ns, y = .tup ns
        · obtain ⟨ns, rfl⟩ := ty
          have k1 := are_keys_any (M := M) (ds := ks) (fun z hz => hx.tup z hz) hx.len
          have nl : newL false ks M = .ok (.lst ks) M := newL_f (by have := hx.len; omega)
          have c := compL_self (t := dYes) (de := c4_made) (r := [some (.tup [.str (Str.ofString "fork"), .tup ks, .tup ns]), none, none, none]) (M := M) (dg := gSlot 3) (g := fun d => .bl (numB 1 4095 d)) ns [] (fun a ha => ⟨_, rfl, rfl, by
            simp [c4_made, is_number_any (M := M) (a := 1) (hy.tup a ha)]⟩) (by have := hy.len; simp; omega)
          rw [List.nil_append] at c
          have al := all_ev (ds := ns) (p := numB 1 4095) (M := M)
          have k : (riseB ks && (decide ((ns.length : Int) = (ks.length : Int) + 1) && ns.all (numB 1 4095))) = false := k
          cases q1 : riseB ks with
          | false =>
            rw [q1] at k1
            simp [f_made, b_made, runB_ev, has_word_ev so_fork so_head, has_word_ev so_fork so_leaf, has_word_ev so_fork so_fork, has_word_ev so_fork so_rest, has_word_ev so_fork so_free, bq_fork_head, bq_fork_leaf, bq_fork_fork, bq_fork_rest, bq_fork_free, i2, nl, k1]
          | true =>
            rw [q1] at k1 k
            cases q2 : ns.all (numB 1 4095) with
            | false =>
              rw [q2] at al
              simp [f_made, b_made, runB_ev, has_word_ev so_fork so_head, has_word_ev so_fork so_leaf, has_word_ev so_fork so_fork, has_word_ev so_fork so_rest, has_word_ev so_fork so_free, bq_fork_head, bq_fork_leaf, bq_fork_fork, bq_fork_rest, bq_fork_free, i2, nl, k1, c, al]
            | true =>
              rw [q2] at al k
              have q3 : decide ((ns.length : Int) = (ks.length : Int) + 1) = false := by simpa using k
              simp [f_made, b_made, runB_ev, has_word_ev so_fork so_head, has_word_ev so_fork so_leaf, has_word_ev so_fork so_fork, has_word_ev so_fork so_rest, has_word_ev so_fork so_free, bq_fork_head, bq_fork_leaf, bq_fork_fork, bq_fork_rest, bq_fork_free, i2, nl, k1, c, al, q3]
        · have b := isB_tup (M := M) hy fun ns e => ty ⟨ns, e⟩
          simp [f_made, b_made, runB_ev, has_word_ev so_fork so_head, has_word_ev so_fork so_leaf, has_word_ev so_fork so_fork, has_word_ev so_fork so_rest, has_word_ev so_fork so_free, bq_fork_head, bq_fork_leaf, bq_fork_fork, bq_fork_rest, bq_fork_free, i2, b]
      · have b := isB_tup (M := M) hx fun ns e => tx ⟨ns, e⟩
        simp [f_made, b_made, runB_ev, has_word_ev so_fork so_head, has_word_ev so_fork so_leaf, has_word_ev so_fork so_fork, has_word_ev so_fork so_rest, has_word_ev so_fork so_free, bq_fork_head, bq_fork_leaf, bq_fork_fork, bq_fork_rest, bq_fork_free, b]
    | [], _, _, q' => simp at q'
    | [_], _, _, q' => simp at q'
    | _ :: _ :: _ :: _, _, _, q' => simp at q'; omega
theorem row_rowC {d : D} (h : rwB d = true) : rowC d = true ∧ ∃ a c, d = .tup [a, c] := by
  unfold rwB at h
  split at h
  · obtain ⟨_, b⟩ := Bool.and_eq_true_iff.mp h
    exact ⟨b, _, _, rfl⟩
  · cases h
theorem rowC_tup {d : D} (h : rowC d = true) : ∃ a c, d = .tup [a, c] := by
  unfold rowC at h
  split at h
  · exact ⟨_, _, rfl⟩
  · cases h
theorem made_no_leaf (h : Nc n (.tup (.str (Str.ofString "leaf") :: r))) (k : leafB r = false) : f_made [.tup (.str (Str.ofString "leaf") :: r)] M = .ok .non M := by
  cases q : decide ((r.length : Int) + 1 = 2) with
  | false => simp [f_made, b_made, runB_ev, has_word_ev so_leaf so_head, has_word_ev so_leaf so_leaf, has_word_ev so_leaf so_fork, has_word_ev so_leaf so_rest, has_word_ev so_leaf so_free, bq_leaf_head, bq_leaf_leaf, bq_leaf_fork, bq_leaf_rest, bq_leaf_free, q]
  | true =>
    have q' := of_decide_eq_true q
    match r, h, k, q' with
    | [x], h, k, _ =>
      have hx := h.tup x (by simp)
      by_cases tx : ∃ rows, x = .tup rows
      · obtain ⟨rows, rfl⟩ := tx
        have hl := hx.len
        have c := compL_self (t := dYes) (de := c2_made) (r := [some (.tup [.str (Str.ofString "leaf"), .tup rows]), none, none, none]) (M := M) (dg := gSlot 2) (g := fun d => .bl (rwB d)) rows [] (fun a ha => ⟨_, rfl, rfl, by
          simp [c2_made, is_row_any (M := M) (hx.tup a ha)]⟩) (by simp; omega)
        rw [List.nil_append] at c
        have al := all_ev (ds := rows) (p := rwB) (M := M)
        cases q1 : rows.all rwB with
        | false =>
          rw [q1] at al
          simp [f_made, b_made, runB_ev, has_word_ev so_leaf so_head, has_word_ev so_leaf so_leaf, has_word_ev so_leaf so_fork, has_word_ev so_leaf so_rest, has_word_ev so_leaf so_free, bq_leaf_head, bq_leaf_leaf, bq_leaf_fork, bq_leaf_rest, bq_leaf_free, c, al]
        | true =>
          rw [q1] at al
          have c3 := compL_self (t := dYes) (de := c3_made) (r := [some (.tup [.str (Str.ofString "leaf"), .tup rows]), none, none, none]) (M := M) (dg := gSlot 2) (g := fstD) rows [] (fun a ha => ⟨_, rfl, rfl, by
            obtain ⟨_, u, v, rfl⟩ := row_rowC (List.all_eq_true.mp q1 a ha)
            simp [c3_made, fstD]⟩) (by simp; omega)
          rw [List.nil_append] at c3
          have ak := are_keys_any (M := M) (n := n) (ds := rows.map fstD) (fun z hz => by
            obtain ⟨a, ha, rfl⟩ := List.mem_map.mp hz
            obtain ⟨_, u, v, rfl⟩ := row_rowC (List.all_eq_true.mp q1 a ha)
            exact (hx.tup _ ha).tup _ (by simp [fstD])) (by simpa using hl)
          have qr : riseB (rows.map fstD) = false := by
            have e : rows.all rowC = true := List.all_eq_true.mpr fun d hd => (row_rowC (List.all_eq_true.mp q1 d hd)).1
            have k : (rows.all rowC && riseB (rows.map fstD)) = false := k
            rw [e, Bool.true_and] at k
            exact k
          rw [qr] at ak
          simp [f_made, b_made, runB_ev, has_word_ev so_leaf so_head, has_word_ev so_leaf so_leaf, has_word_ev so_leaf so_fork, has_word_ev so_leaf so_rest, has_word_ev so_leaf so_free, bq_leaf_head, bq_leaf_leaf, bq_leaf_fork, bq_leaf_rest, bq_leaf_free, c, al, c3, ak]
      · have b := isB_tup (M := M) hx fun ns e => tx ⟨ns, e⟩
        simp [f_made, b_made, runB_ev, has_word_ev so_leaf so_head, has_word_ev so_leaf so_leaf, has_word_ev so_leaf so_fork, has_word_ev so_leaf so_rest, has_word_ev so_leaf so_free, bq_leaf_head, bq_leaf_leaf, bq_leaf_fork, bq_leaf_rest, bq_leaf_free, b]
    | [], _, _, q' => simp at q'
    | _ :: _ :: _, _, _, q' => simp at q'; omega
end
theorem made_no {n : Nat} {d : D} {M : Mem} (h : Nc n d) (k : pageB d = false) : f_made [d] M = .ok .non M := by
  by_cases hd : ∃ v r, d = .tup (.str v :: r)
  · obtain ⟨w, r, rfl⟩ := hd
    have k : wB w r = false := k
    unfold wB at k
    have so := so_str (h.tup (.str w) (by simp))
    split at k
    · rename_i q
      rw [beq_iff_eq] at q; subst q; exact made_no_head h k
    · rename_i q1
      split at k
      · rename_i q
        rw [beq_iff_eq] at q; subst q; exact made_no_free h k
      · rename_i q2
        split at k
        · rename_i q
          rw [beq_iff_eq] at q; subst q; exact made_no_rest h k
        · rename_i q3
          split at k
          · rename_i q
            rw [beq_iff_eq] at q; subst q; exact made_no_fork h k
          · rename_i q4
            cases q5 : (w == Str.ofString "leaf") with
            | true =>
              rw [q5] at k
              rw [beq_iff_eq] at q5; subst q5; exact made_no_leaf h k
            | false =>
              have q1 : (w == Str.ofString "head") = false := by simpa using q1
              have q2 : (w == Str.ofString "free") = false := by simpa using q2
              have q3 : (w == Str.ofString "rest") = false := by simpa using q3
              have q4 : (w == Str.ofString "fork") = false := by simpa using q4
              simp only [f_made, b_made, runB_ev, has_word_ev so so_head, has_word_ev so so_leaf, has_word_ev so so_fork, has_word_ev so so_rest, has_word_ev so so_free, q1, q2, q3, q4, q5, Bool.and_false]
              simp [has_word_ev so so_head, has_word_ev so so_leaf, has_word_ev so so_fork, has_word_ev so so_rest, has_word_ev so so_free, q1, q2, q3, q4, q5]
  · exact made_bad h fun v r e => hd ⟨v, r, e⟩
end K03
set_option Elab.async false
set_option linter.all false
set_option maxRecDepth 100000
set_option maxHeartbeats 4000000
namespace K03
open PySem PySem.Spec PyProof.Rows L2 LF
section
variable {n : Nat} {r : List D} {M : Mem}
def DD2 : MO := .dic (mergeD [] [(.inr "head", .int 5), (.inr "free", .int 2)])
theorem dd2 {ev : Env'} : dDisp [(.inr "head", (dC (.int 5))), (.inr "free", (dC (.int 2)))] ev M = .ok (.obj M.length) (M ++ [DD2]) := rfl
theorem eq_nil {a : D} {ds : List D} (h : Nc n (.tup (a :: ds))) : fEq (.tup (a :: ds)) (.tup []) M = .ok (.bl false) M := by
  rw [fEq_of (lay_le h.lay (by have := h.n; omega)) (by simp)]; rfl
theorem so_ne {w v : Str} (h : ¬ (w == v) = true) : (w == v) = false := by simpa using h
theorem l3_loop {ev : Env'} : ∀ (rows : List D) (x2 : Option D), (∀ x ∈ rows, Nc n x) → ∃ y2, forL anyM (gSlot 2) l3__law_is_page rows [ev[0]?.getD none, ev[1]?.getD none, x2, ev[3]?.getD none, ev[4]?.getD none] M = bif rows.all rowC then .nx [ev[0]?.getD none, ev[1]?.getD none, y2, ev[3]?.getD none, ev[4]?.getD none] M else .rt (.bl false) M
  | [], x2, _ => ⟨x2, by simp⟩
  | d :: rows, x2, h => by
    obtain ⟨y2, ih⟩ := l3_loop (ev := ev) rows (some d) fun x hx => h x (by simp [hx])
    have hd := h d (by simp)
    generalize ev[0]?.getD none = e0 at *
    generalize ev[1]?.getD none = e1 at *
    generalize ev[3]?.getD none = e3 at *
    generalize ev[4]?.getD none = e4 at *
    refine ⟨y2, ?_⟩
    have key : l3__law_is_page [e0, e1, some d, e3, e4] M = bif rowC d then .nx [e0, e1, some d, e3, e4] M else .rt (.bl false) M := by
      by_cases t : ∃ ds, d = .tup ds
      · obtain ⟨ds, rfl⟩ := t
        match ds, hd with
        | [], _ => simp [l3__law_is_page, rowC]
        | [a], _ => simp [l3__law_is_page, rowC]
        | [a, c], hd =>
          have k := lis_cell_any (M := M) (hd.tup c (by simp))
          cases q : clB c <;> simp [l3__law_is_page, rowC, k, q]
        | a :: b :: c :: s, _ =>
          have g2 : ¬ ((s.length : Int) + 1 + 1 + 1 = 2) := by omega
          simp [l3__law_is_page, rowC, decide_eq_false g2]
      · have b := isB_tup (M := M) hd fun ns e => t ⟨ns, e⟩
        have rc : rowC d = false := by
          cases q : rowC d with
          | false => rfl
          | true =>
            obtain ⟨a, c, rfl⟩ := rowC_tup q
            exact absurd ⟨_, rfl⟩ t
        simp [l3__law_is_page, b, rc]
    rw [forL_consA, gSlot_ev]
    simp only [List.set_cons_succ, List.set_cons_zero, forK1_ok, key, List.all_cons]
    cases q : rowC d with
    | false => simp
    | true => simp only [cond_true, forK2_nx, ih, Bool.true_and]
theorem lpage_head (h : Nc n (.tup (.str (Str.ofString "head") :: r))) : f__law_is_page [.tup (.str (Str.ofString "head") :: r)] M = .ok (.bl (numsB 4 r)) (M ++ [DD2]) := by
  have e0 := eq_nil (M := M) h
  have M1 : (M ++ [DD2])[M.length]? = some DD2 := last_at
  have g := fDGet_of (k := .inr "head") (y := .str "head") (d := .int 5) rfl M1 rfl
  have e1 := lit_eq (M := M) so_head so_head bq_head_head
  have c := compL_self (t := dYes) (de := c1__law_is_page) (r := [some (.tup (.str (Str.ofString "head") :: r)), some (.int 5), none, none, none]) (M := M ++ [DD2]) (dg := gSlot 3) (g := fun d => .bl (numB 0 4095 d)) r [] (fun a ha => ⟨_, rfl, rfl, by
    simp [c1__law_is_page, lnumber_any (M := M ++ [DD2]) (a := 0) (b := 4095) (h.tup a (by simp [ha]))]⟩) (by have := h.len; simp at this ⊢; omega)
  rw [List.nil_append] at c
  have al := all_ev (ds := r) (p := numB 0 4095) (M := M ++ [DD2])
  unfold numsB
  cases q : decide ((r.length : Int) = ((4 : Nat) : Int)) with
  | false =>
    have q' : ¬ (r.length : Int) + 1 = 5 := by have := of_decide_eq_false q; omega
    simp [-dDisp_ev, f__law_is_page, b__law_is_page, runB_ev, e0, e1, dd2, g, decide_eq_false q']
  | true =>
    have q' : (r.length : Int) + 1 = 5 := by have := of_decide_eq_true q; omega
    simp [-dDisp_ev, f__law_is_page, b__law_is_page, runB_ev, e0, e1, dd2, g, decide_eq_true q', cutN_one, c, al]
theorem lpage_free (h : Nc n (.tup (.str (Str.ofString "free") :: r))) : f__law_is_page [.tup (.str (Str.ofString "free") :: r)] M = .ok (.bl (numsB 1 r)) (M ++ [DD2]) := by
  have e0 := eq_nil (M := M) h
  have M1 : (M ++ [DD2])[M.length]? = some DD2 := last_at
  have g := fDGet_of (k := .inr "free") (y := .str "free") (d := .int 2) rfl M1 rfl
  have e1 := lit_eq (M := M) so_free so_head bq_free_head
  have e2 := lit_eq (M := M) so_free so_free bq_free_free
  have c := compL_self (t := dYes) (de := c1__law_is_page) (r := [some (.tup (.str (Str.ofString "free") :: r)), some (.int 2), none, none, none]) (M := M ++ [DD2]) (dg := gSlot 3) (g := fun d => .bl (numB 0 4095 d)) r [] (fun a ha => ⟨_, rfl, rfl, by
    simp [c1__law_is_page, lnumber_any (M := M ++ [DD2]) (a := 0) (b := 4095) (h.tup a (by simp [ha]))]⟩) (by have := h.len; simp at this ⊢; omega)
  rw [List.nil_append] at c
  have al := all_ev (ds := r) (p := numB 0 4095) (M := M ++ [DD2])
  unfold numsB
  cases q : decide ((r.length : Int) = ((1 : Nat) : Int)) with
  | false =>
    have q' : ¬ (r.length : Int) + 1 = 2 := by have := of_decide_eq_false q; omega
    simp [-dDisp_ev, f__law_is_page, b__law_is_page, runB_ev, e0, e1, e2, dd2, g, decide_eq_false q']
  | true =>
    have q' : (r.length : Int) + 1 = 2 := by have := of_decide_eq_true q; omega
    simp [-dDisp_ev, f__law_is_page, b__law_is_page, runB_ev, e0, e1, e2, dd2, g, decide_eq_true q', cutN_one, c, al]
theorem lpage_rest (h : Nc n (.tup (.str (Str.ofString "rest") :: r))) : f__law_is_page [.tup (.str (Str.ofString "rest") :: r)] M = .ok (.bl (restB r)) M := by
  have e0 := eq_nil (M := M) h
  have e1 := lit_eq (M := M) so_rest so_head bq_rest_head
  have e2 := lit_eq (M := M) so_rest so_free bq_rest_free
  have e3 := lit_eq (M := M) so_rest so_rest bq_rest_rest
  match r, h, e0 with
  | [], _, e0 => simp [f__law_is_page, b__law_is_page, runB_ev, e0, e1, e2, e3, restB]
  | [x], _, e0 => simp [f__law_is_page, b__law_is_page, runB_ev, e0, e1, e2, e3, restB]
  | [x, y], h, e0 =>
    have t := lgood_any (M := M) (a := 1) (b := 400) (h.tup x (by simp))
    have m := lnumber_any (M := M) (a := 0) (b := 4095) (h.tup y (by simp))
    have i2 : fIx (.tup [.str (Str.ofString "rest"), x, y]) (.int 2) M = .ok y M := fIx_tup (L2.atI_nat (j := 2) rfl)
    cases q : txtB x && lenB 1 400 x with
    | false =>
      rw [q] at t
      simp [f__law_is_page, b__law_is_page, runB_ev, e0, e1, e2, e3, restB, t, q]
    | true =>
      rw [q] at t
      simp [f__law_is_page, b__law_is_page, runB_ev, e0, e1, e2, e3, restB, t, q, i2, m]
  | x :: y :: z :: s, _, e0 =>
    have g2 : ¬ ((s.length : Int) + 1 + 1 + 1 + 1 = 3) := by omega
    simp [f__law_is_page, b__law_is_page, runB_ev, e0, e1, e2, e3, restB, decide_eq_false g2]
theorem lpage_fork (h : Nc n (.tup (.str (Str.ofString "fork") :: r))) : f__law_is_page [.tup (.str (Str.ofString "fork") :: r)] M = .ok (.bl (forkB r)) M := by
  have e0 := eq_nil (M := M) h
  have e1 := lit_eq (M := M) so_fork so_head bq_fork_head
  have e2 := lit_eq (M := M) so_fork so_free bq_fork_free
  have e3 := lit_eq (M := M) so_fork so_rest bq_fork_rest
  have e4 := lit_eq (M := M) so_fork so_fork bq_fork_fork
  match r, h, e0 with
  | [], _, e0 => simp [f__law_is_page, b__law_is_page, runB_ev, e0, e1, e2, e3, forkB]
  | [x], h, e0 =>
    by_cases tx : ∃ ks, x = .tup ks
    · obtain ⟨ks, rfl⟩ := tx
      simp [f__law_is_page, b__law_is_page, runB_ev, e0, e1, e2, e3, e4, forkB]
    · have b := isB_tup (M := M) (h.tup x (by simp)) fun ns e => tx ⟨ns, e⟩
      simp [f__law_is_page, b__law_is_page, runB_ev, e0, e1, e2, e3, e4, forkB, b]
  | [x, y], h, e0 =>
    have hx := h.tup x (by simp)
    have hy := h.tup y (by simp)
    have i2 : fIx (.tup [.str (Str.ofString "fork"), x, y]) (.int 2) M = .ok y M := fIx_tup (L2.atI_nat (j := 2) rfl)
    by_cases tx : ∃ ks, x = .tup ks
    · obtain ⟨ks, rfl⟩ := tx
      by_cases ty : ∃ ns, y = .tup ns
      · obtain ⟨ns, rfl⟩ := ty
        have k1 := lrise_any (M := M) (T := .tup ks) (ds := ks) (.inr rfl) (fun z hz => hx.tup z hz) hx.len
        have c := compL_self (t := dYes) (de := c2__law_is_page) (r := [some (.tup [.str (Str.ofString "fork"), .tup ks, .tup ns]), none, none, none, none]) (M := M) (dg := gSlot 4) (g := fun d => .bl (numB 1 4095 d)) ns [] (fun a ha => ⟨_, rfl, rfl, by
          simp [c2__law_is_page, lnumber_any (M := M) (a := 1) (b := 4095) (hy.tup a ha)]⟩) (by have := hy.len; simp; omega)
        rw [List.nil_append] at c
        have al := all_ev (ds := ns) (p := numB 1 4095) (M := M)
        show _ = Out.ok (D.bl (riseB ks && (decide ((ns.length : Int) = (ks.length : Int) + 1) && ns.all (numB 1 4095)))) M
        cases q1 : riseB ks with
        | false =>
          rw [q1] at k1
          simp [f__law_is_page, b__law_is_page, runB_ev, e0, e1, e2, e3, e4, i2, k1]
        | true =>
          rw [q1] at k1
          cases q2 : decide ((ns.length : Int) = (ks.length : Int) + 1) with
          | false => simp [f__law_is_page, b__law_is_page, runB_ev, e0, e1, e2, e3, e4, i2, k1, q2]
          | true => simp [f__law_is_page, b__law_is_page, runB_ev, e0, e1, e2, e3, e4, i2, k1, q2, c, al]
      · have b := isB_tup (M := M) hy fun ns e => ty ⟨ns, e⟩
        have f : forkB [.tup ks, y] = false := by
          unfold forkB
          split
          · rename_i ns e
            simp only [List.cons.injEq] at e
            exact absurd ⟨ns, e.2.1⟩ ty
          · rfl
        simp [f__law_is_page, b__law_is_page, runB_ev, e0, e1, e2, e3, e4, i2, b, f]
    · have b := isB_tup (M := M) hx fun ns e => tx ⟨ns, e⟩
      have f : forkB [x, y] = false := by
        unfold forkB
        split
        · rename_i ks ns e
          simp only [List.cons.injEq] at e
          exact absurd ⟨ks, e.1⟩ tx
        · rfl
      simp [f__law_is_page, b__law_is_page, runB_ev, e0, e1, e2, e3, e4, b, f]
  | x :: y :: z :: s, h, e0 =>
    have g1 : ¬ ((s.length : Int) + 1 + 1 + 1 + 1 < 2) := by omega
    have g2 : ¬ ((s.length : Int) + 1 + 1 + 1 + 1 = 3) := by omega
    by_cases tx : ∃ ks, x = .tup ks
    · obtain ⟨ks, rfl⟩ := tx
      simp [f__law_is_page, b__law_is_page, runB_ev, e0, e1, e2, e3, e4, forkB, decide_eq_false g1, decide_eq_false g2]
    · have b := isB_tup (M := M) (h.tup x (by simp)) fun ns e => tx ⟨ns, e⟩
      simp [f__law_is_page, b__law_is_page, runB_ev, e0, e1, e2, e3, e4, forkB, b, decide_eq_false g1]
theorem lpage_leaf (h : Nc n (.tup (.str (Str.ofString "leaf") :: r))) : f__law_is_page [.tup (.str (Str.ofString "leaf") :: r)] M = .ok (.bl (leafB r)) M := by
  have e0 := eq_nil (M := M) h
  have e1 := lit_eq (M := M) so_leaf so_head bq_leaf_head
  have e2 := lit_eq (M := M) so_leaf so_free bq_leaf_free
  have e3 := lit_eq (M := M) so_leaf so_rest bq_leaf_rest
  have e4 := lit_eq (M := M) so_leaf so_fork bq_leaf_fork
  have e5 := lit_ne (M := M) so_leaf so_leaf bq_leaf_leaf
  match r, h, e0 with
  | [], _, e0 => simp [f__law_is_page, b__law_is_page, runB_ev, e0, e1, e2, e3, leafB]
  | [x], h, e0 =>
    have hx := h.tup x (by simp)
    by_cases tx : ∃ ks, x = .tup ks
    · obtain ⟨rows, rfl⟩ := tx
      have hl := hx.len
      obtain ⟨y2, lp⟩ := l3_loop (n := n) (M := M) (ev := [some (.tup [.str (Str.ofString "leaf"), .tup rows]), none, none, none, none]) rows none fun x h => hx.tup x h
      simp only [List.getElem?_cons_zero, List.getElem?_cons_succ, Option.getD_some] at lp
      show _ = Out.ok (D.bl (rows.all rowC && riseB (rows.map fstD))) M
      cases q : rows.all rowC with
      | false =>
        rw [q] at lp
        have lp : forL anyM (gSlot 2) l3__law_is_page rows [some (.tup [.str (Str.ofString "leaf"), .tup rows]), none, none, none, none] M = .rt (.bl false) M := lp
        simp [f__law_is_page, b__law_is_page, runB_ev, e0, e1, e2, e3, e4, e5, lp]
      | true =>
        rw [q] at lp
        have lp : forL anyM (gSlot 2) l3__law_is_page rows [some (.tup [.str (Str.ofString "leaf"), .tup rows]), none, none, none, none] M = .nx [some (.tup [.str (Str.ofString "leaf"), .tup rows]), none, y2, none, none] M := lp
        have c3 := compL_self (t := dYes) (de := c4__law_is_page) (r := [some (.tup [.str (Str.ofString "leaf"), .tup rows]), none, none, none, none]) (M := M) (dg := gSlot 2) (g := fstD) rows [] (fun a ha => ⟨_, rfl, rfl, by
          obtain ⟨u, v, rfl⟩ := rowC_tup (List.all_eq_true.mp q a ha)
          simp [c4__law_is_page, fstD]⟩) (by simp; omega)
        rw [List.nil_append] at c3
        have ak := lrise_any (M := M) (n := n) (T := .lst (rows.map fstD)) (ds := rows.map fstD) (.inl rfl) (fun z hz => by
          obtain ⟨a, ha, rfl⟩ := List.mem_map.mp hz
          obtain ⟨u, v, rfl⟩ := rowC_tup (List.all_eq_true.mp q a ha)
          exact (hx.tup _ ha).tup _ (by simp [fstD])) (by simpa using hl)
        simp [f__law_is_page, b__law_is_page, runB_ev, e0, e1, e2, e3, e4, e5, lp, c3, ak]
    · have b := isB_tup (M := M) hx fun ns e => tx ⟨ns, e⟩
      have f : leafB [x] = false := by
        unfold leafB
        split
        · rename_i rows e
          simp only [List.cons.injEq] at e
          exact absurd ⟨rows, e.1⟩ tx
        · rfl
      simp [f__law_is_page, b__law_is_page, runB_ev, e0, e1, e2, e3, e4, b, f]
  | x :: y :: s, h, e0 =>
    have g1 : ¬ ((s.length : Int) + 1 + 1 + 1 < 2) := by omega
    have g2 : ¬ ((s.length : Int) + 1 + 1 + 1 = 2) := by omega
    by_cases tx : ∃ ks, x = .tup ks
    · obtain ⟨ks, rfl⟩ := tx
      simp [f__law_is_page, b__law_is_page, runB_ev, e0, e1, e2, e3, e4, e5, leafB, decide_eq_false g1, decide_eq_false g2]
    · have b := isB_tup (M := M) (h.tup x (by simp)) fun ns e => tx ⟨ns, e⟩
      simp [f__law_is_page, b__law_is_page, runB_ev, e0, e1, e2, e3, e4, leafB, b, decide_eq_false g1]
theorem lpage_other {w : Str} (h : Nc n (.tup (.str w :: r))) (q1 : (w == Str.ofString "head") = false) (q2 : (w == Str.ofString "free") = false) (q3 : (w == Str.ofString "rest") = false) (q4 : (w == Str.ofString "fork") = false) (q5 : (w == Str.ofString "leaf") = false) : f__law_is_page [.tup (.str w :: r)] M = .ok (.bl false) M := by
  have e0 := eq_nil (M := M) h
  have so := so_str (h.tup (.str w) (by simp))
  have e1 := lit_eq (M := M) so so_head q1
  have e2 := lit_eq (M := M) so so_free q2
  have e3 := lit_eq (M := M) so so_rest q3
  have e4 := lit_eq (M := M) so so_fork q4
  have e5 := lit_ne (M := M) so so_leaf q5
  match r, h, e0 with
  | [], _, e0 => simp [f__law_is_page, b__law_is_page, runB_ev, e0, e1, e2, e3]
  | x :: s, h, e0 =>
    have g1 : ¬ ((s.length : Int) + 1 + 1 < 2) := by omega
    by_cases tx : ∃ ks, x = .tup ks
    · obtain ⟨ks, rfl⟩ := tx
      simp [f__law_is_page, b__law_is_page, runB_ev, e0, e1, e2, e3, e4, e5, decide_eq_false g1]
    · have b := isB_tup (M := M) (h.tup x (by simp)) fun ns e => tx ⟨ns, e⟩
      simp [f__law_is_page, b__law_is_page, runB_ev, e0, e1, e2, e3, e4, b, decide_eq_false g1]
theorem lpage_bad {d : D} (h : Nc n d) (hd : ∀ v r, d ≠ .tup (.str v :: r)) : f__law_is_page [d] M = .ok (.bl false) M := by
  cases d with
  | str x => simp [f__law_is_page, b__law_is_page, runB_ev]
  | non => simp [f__law_is_page, b__law_is_page, runB_ev]
  | bl => simp [f__law_is_page, b__law_is_page, runB_ev]
  | int i => simp [f__law_is_page, b__law_is_page, runB_ev]
  | lst => simp [f__law_is_page, b__law_is_page, runB_ev]
  | tup ds =>
    match ds, h, hd with
    | [], h, _ =>
      have e : fEq (.tup []) (.tup []) M = .ok (.bl true) M := fEq_same (by simp)
      simp [f__law_is_page, b__law_is_page, runB_ev, e]
    | a :: r, h, hd =>
      have e0 := eq_nil (M := M) h
      have b := isB_str (M := M) (h.tup a (by simp)) fun x e => hd x r (by rw [e])
      simp [f__law_is_page, b__law_is_page, runB_ev, e0, b]
  | _ => have := h.lay; cases n <;> simp [D.lay] at this
end
theorem lis_page_any {n : Nat} {d : D} (M : Mem) (h : Nc n d) : ∃ X, f__law_is_page [d] M = .ok (.bl (pageB d)) (M ++ X) := by
  by_cases hd : ∃ v r, d = .tup (.str v :: r)
  · obtain ⟨w, r, rfl⟩ := hd
    have so := so_str (h.tup (.str w) (by simp))
    show ∃ X, f__law_is_page [.tup (.str w :: r)] M = .ok (.bl (wB w r)) (M ++ X)
    unfold wB
    split
    · rename_i q
      rw [beq_iff_eq] at q; subst q; exact ⟨_, lpage_head h⟩
    · rename_i q1
      split
      · rename_i q
        rw [beq_iff_eq] at q; subst q; exact ⟨_, lpage_free h⟩
      · rename_i q2
        split
        · rename_i q
          rw [beq_iff_eq] at q; subst q; exact ⟨[], by rw [List.append_nil]; exact lpage_rest h⟩
        · rename_i q3
          split
          · rename_i q
            rw [beq_iff_eq] at q; subst q; exact ⟨[], by rw [List.append_nil]; exact lpage_fork h⟩
          · rename_i q4
            cases q5 : (w == Str.ofString "leaf") with
            | true =>
              rw [beq_iff_eq] at q5; subst q5; exact ⟨[], by rw [List.append_nil]; exact lpage_leaf h⟩
            | false => exact ⟨[], by rw [List.append_nil]; exact lpage_other h (so_ne q1) (so_ne q2) (so_ne q3) (so_ne q4) q5⟩
  · have f : pageB d = false := by
      unfold pageB
      split
      · exact absurd ⟨_, _, rfl⟩ hd
      · rfl
    rw [f]
    exact ⟨[], by rw [List.append_nil]; exact lpage_bad h fun v r e => hd ⟨v, r, e⟩⟩
end K03
set_option Elab.async false
set_option linter.all false
set_option maxRecDepth 100000
set_option maxHeartbeats 4000000
namespace K03
open PySem PySem.Spec PyProof.Rows L2 LF
def isOut (r : Row) : Bool := match r.2 with
  | .inn _ => false
  | .out _ _ => true
def outN (r : Row) : Int := match r.2 with
  | .inn _ => 0
  | .out _ b => b
def leadsL : Pg → List Int
  | .head a _ _ d => [a, d].filter fun x => !decide (x = 0)
  | .leaf rows => (rows.filter isOut).map outN
  | .fork _ kids => kids
  | .rest _ n => if n = 0 then [] else [n]
  | .free n => if n = 0 then [] else [n]
def lst (ns : List Int) : MO := .lst (ns.map .int)
theorem fNe0 (n : Int) (M : Mem) : fNe (.int n) (.int 0) M = .ok (.bl (!decide (n = 0))) M := fNe_int
theorem leads_meth {M : Mem} {n : Nat} {p : Pg} {r : Env'} (hM : M[n]? = some p.obj) (h : Good p) : methK1 "leads" mt_leads (.ok (.obj n) M) dNil r = .ok (.obj M.length) (M ++ [lst (leadsL p)]) := by
  cases p with
  | head a b c d =>
    rw [methK1_of (F := f_Head_leads) (k := 1) hM rfl rfl]
    have g1 := fAttr_of (f := "top") (d := .int a) (ok := okF itab "top") hM rfl rfl
    have g4 := fAttr_of (f := "free") (d := .int d) (ok := okF itab "free") hM rfl rfl
    have k := compL_imgF (t := t2_Head_leads) (de := c1_Head_leads) (r := [some (.obj n), none]) (M := M) (dg := gSlot 1) (f := D.int) (g := D.int) (p := fun x => !decide (x = 0)) [a, d] [] (fun n hn => ⟨_, rfl, by simp [t2_Head_leads], fun _ => by simp [c1_Head_leads]⟩) (by simp)
    rw [List.nil_append] at k
    simp only [List.map_cons, List.map_nil] at k
    simp [-List.filter_cons, f_Head_leads, b_Head_leads, runB_ev, g1, g4, k, lst, leadsL]
  | leaf rows =>
    rw [methK1_of (F := f_Leaf_leads) (k := 1) hM rfl rfl]
    have hl : rows.length ≤ 63 := by have := h.1.many; simpa using this
    have g1 := fAttr_of (f := "entries") (ok := okF itab "entries") (d := .tup (rows.map rowD)) hM rfl rfl
    have k := compL_imgF (t := t2_Leaf_leads) (de := c1_Leaf_leads) (r := [some (.obj n), none, none]) (M := M) (dg := gTupD 2 (gsCons (gSlot 1) (gsCons (gSlot 2) gsNil))) (f := rowD) (g := fun r => .int (outN r)) (p := isOut) rows [] (fun r hr => ⟨_, rfl, by
      obtain ⟨q, c⟩ := r
      cases c with
      | inn t => simp [t2_Leaf_leads, Cell.toD, lit_eq so_in so_out bq_in_out, isOut]
      | out a b => simp [t2_Leaf_leads, Cell.toD, lit_eq so_out so_out bq_out_out, isOut], fun e => by
      obtain ⟨q, c⟩ := r
      cases c with
      | inn t => simp [isOut] at e
      | out a b => simp [c1_Leaf_leads, Cell.toD, outN]⟩) (by simp; omega)
    rw [List.nil_append] at k
    have e : ((rows.filter isOut).map outN).map D.int = (rows.filter isOut).map fun r => .int (outN r) := by rw [List.map_map]; rfl
    simp only [lst, leadsL]
    rw [e]
    simp [-List.map_map, f_Leaf_leads, b_Leaf_leads, runB_ev, g1, k]
  | fork keys kids =>
    rw [methK1_of (F := f_Fork_leads) (k := 1) hM rfl rfl]
    have hl := h.1.many
    have h3 := h.2.2
    have g2 := fAttr_of (f := "kids") (ok := okF itab "kids") (d := .tup (kids.map .int)) hM rfl rfl
    simp [f_Fork_leads, b_Fork_leads, runB_ev, g2, newL_t (M := M) (ds := kids.map D.int) (by simp; omega), lst, leadsL]
  | rest t m =>
    rw [methK1_of (F := f_Rest_leads) (k := 1) hM rfl rfl]
    have g2 := fAttr_of (f := "behind") (ok := okF itab "behind") (d := .int m) hM rfl rfl
    by_cases h0 : m = 0
    · simp [f_Rest_leads, b_Rest_leads, runB_ev, g2, fNe0, decide_eq_true h0, lst, leadsL, if_pos h0]
    · simp [f_Rest_leads, b_Rest_leads, runB_ev, g2, fNe0, decide_eq_false h0, lst, leadsL, if_neg h0]
  | free m =>
    rw [methK1_of (F := f_Free_leads) (k := 1) hM rfl rfl]
    have g2 := fAttr_of (f := "behind") (ok := okF itab "behind") (d := .int m) hM rfl rfl
    by_cases h0 : m = 0
    · simp [f_Free_leads, b_Free_leads, runB_ev, g2, fNe0, decide_eq_true h0, lst, leadsL, if_pos h0]
    · simp [f_Free_leads, b_Free_leads, runB_ev, g2, fNe0, decide_eq_false h0, lst, leadsL, if_neg h0]
theorem leads_to_ok {p : Pg} {M : Mem} (h : Good p) : f_leads_to [p.toD] M = .ok (.obj (M ++ [p.obj]).length) ((M ++ [p.obj]) ++ [lst (leadsL p)]) := by
  have b := fun r => leads_meth (r := r) (n := M.length) (M := M ++ [p.obj]) (p := p) last_at h
  simp only [List.length_append, List.length_cons, List.length_nil] at b ⊢
  simp [f_leads_to, b_leads_to, runB_ev, need_page_ok (M := M) h, b]
end K03
set_option Elab.async false
set_option linter.all false
set_option maxRecDepth 100000
set_option maxHeartbeats 4000000
namespace K03
open PySem PySem.Spec PyProof.Rows L2 LF
theorem is_page_any {n : Nat} {d : D} (M : Mem) (h : Nc n d) : ∃ X, f_is_page [d] M = .ok (.bl (pageB d)) (M ++ X) := by
  cases q : pageB d with
  | true =>
    obtain ⟨p, rfl, hp⟩ := page_inv h q
    exact ⟨[p.obj], by simp [f_is_page, b_is_page, runB_ev, made_ok (M := M) hp]⟩
  | false => exact ⟨[], by simp [f_is_page, b_is_page, runB_ev, made_no (M := M) h q]⟩
theorem set_mid {M X : Mem} {o p : MO} : (M ++ [o] ++ X).set M.length p = M ++ [p] ++ X := by
  rw [List.append_assoc, List.set_append_right _ _ (Nat.le_refl _), Nat.sub_self]
  simp
theorem looks_A {M M1 : Mem} {d s : D} {a b c e : Bool} {X : Mem} (e1 : f_is_key [d] M = .ok (.bl a) M) (e2 : f_is_value [d] M = .ok (.bl b) M) (e3 : f_is_size [d] M = .ok (.bl c) M) (e4 : f_is_page [d] M = .ok (.bl e) M1)
    (k1 : f__law_good_text [d, .int 1, .int 12] M1 = .ok (.bl a) M1) (k2 : f__law_good_text [d, .int 0, .int 400] M1 = .ok (.bl b) M1) (k3 : f__law_number [d, .int 64, .int 200] M1 = .ok (.bl c) M1) (k4 : f__law_is_page [d] (M1 ++ [.lst [.bl a, .bl b, .bl c]]) = .ok (.bl e) (M1 ++ [.lst [.bl a, .bl b, .bl c]] ++ X)) :
    f__law_looks [d, s] M = .ok (.bl true) (M1 ++ [.lst [.bl a, .bl b, .bl c, .bl e]] ++ X) := by
  have g1 : (M1 ++ [MO.lst [.bl a, .bl b, .bl c]])[M1.length]? = some (.lst [.bl a, .bl b, .bl c]) := by simp
  have g2 : (M1 ++ [MO.lst [.bl a, .bl b, .bl c]] ++ X)[M1.length]? = some (.lst [.bl a, .bl b, .bl c]) := by simp
  have g3 : (M1 ++ [MO.lst [.bl a, .bl b, .bl c, .bl e]] ++ X)[M1.length]? = some (.lst [.bl a, .bl b, .bl c, .bl e]) := by simp
  have p1 := fun (de : DE) r => appK1_of (de := de) (r := r) g1
  have p2 := appAt_of (y := .bl e) g2 (by simp)
  rw [set_mid] at p2
  simp only [List.cons_append, List.nil_append] at p2
  have eq : fEqM (.lst [.bl a, .bl b, .bl c, .bl e]) (.obj M1.length) (M1 ++ [MO.lst [.bl a, .bl b, .bl c, .bl e]] ++ X) = .ok (.bl true) (M1 ++ [MO.lst [.bl a, .bl b, .bl c, .bl e]] ++ X) := by
    unfold fEqM
    rw [rdD_obj g3, show ∀ M, rdD M (.lst [.bl a, .bl b, .bl c, .bl e]) = .lst [.bl a, .bl b, .bl c, .bl e] from fun _ => rfl]
    exact fEq_same (by simp)
  have la : ∀ M : Mem, lstAK (.ok [.bl a, .bl b, .bl c] M) = .ok (.obj M.length) (M ++ [.lst [.bl a, .bl b, .bl c]]) := fun M => lstAK_ok (by simp)
  have al : ∀ M : Mem, fAll [.lst [.bl true, .bl true, .bl true, .bl true]] M = .ok (.bl true) M := fun _ => rfl
  generalize hA : M1 ++ [MO.lst [.bl a, .bl b, .bl c]] ++ X = A at *
  generalize hB : M1 ++ [MO.lst [.bl a, .bl b, .bl c, .bl e]] ++ X = B at *
  generalize hC : M1 ++ [MO.lst [.bl a, .bl b, .bl c]] = C at *
  simp [-lstAK_ok, -List.append_assoc, -dItL_ev, f__law_looks, b__law_looks, runB_ev, e1, e2, e3, e4, k1, k2, k3, la, hC, p1, k4, p2, eq, dItL_K, c1__law_looks, al]
theorem looks_ok {n : Nat} {d : D} (M : Mem) (s : D) (h : Nc n d) : ∃ X, f__law_looks [d, s] M = .ok (.bl true) (M ++ X) := by
  obtain ⟨X1, e4⟩ := is_page_any M h
  obtain ⟨X2, k4⟩ := lis_page_any (M ++ X1 ++ [.lst [.bl (kyB d), .bl (valB d), .bl (numB 64 200 d)]]) h
  exact ⟨X1 ++ [.lst [.bl (kyB d), .bl (valB d), .bl (numB 64 200 d), .bl (pageB d)]] ++ X2, by
    rw [looks_A (is_key_any h) (is_value_any h) (is_size_any h) e4 (lgood_any h) (lgood_any h) (lnumber_any h) k4]
    simp only [List.append_assoc]⟩
theorem isBK_dic {p : String → Bool} {M : Mem} {i : Nat} {kvs : List (Key × D)} (hM : M[i]? = some (.dic kvs)) : isBK p (.ok (.obj i) M) = .ok (.bl (p "dict")) M := by
  unfold isBK
  dsimp only [Out.bind, tagOf]
  rw [hM]
theorem looks_dict {M : Mem} {i : Nat} {kvs : List (Key × D)} (s : D) (hM : M[i]? = some (.dic kvs)) : ∃ X, f__law_looks [.obj i, s] M = .ok (.bl true) (M ++ X) := by
  have b := fun p => isBK_dic (p := p) hM
  have tx : f_is_text [.obj i] M = .ok (.bl false) M := by simp [f_is_text, b_is_text, runB_ev, b]
  have wh : f_is_whole [.obj i] M = .ok (.bl false) M := by simp [f_is_whole, b_is_whole, runB_ev, b]
  have e1 : f_is_key [.obj i] M = .ok (.bl false) M := by simp [f_is_key, b_is_key, runB_ev, tx]
  have e2 : f_is_value [.obj i] M = .ok (.bl false) M := by simp [f_is_value, b_is_value, runB_ev, tx]
  have e3 : f_is_size [.obj i] M = .ok (.bl false) M := by simp [f_is_size, b_is_size, runB_ev, wh]
  have hw : ∀ w k, f_has_word [.obj i, .str w, .int k] M = .ok (.bl false) M := fun w k => by simp [f_has_word, b_has_word, runB_ev, b]
  have md : f_made [.obj i] M = .ok .non M := by simp [f_made, b_made, runB_ev, hw]
  have e4 : f_is_page [.obj i] M = .ok (.bl false) M := by simp [f_is_page, b_is_page, runB_ev, md]
  have k1 : ∀ x y, f__law_good_text [.obj i, .int x, .int y] M = .ok (.bl false) M := fun x y => by simp [f__law_good_text, b__law_good_text, runB_ev, b]
  have k3 : ∀ x y, f__law_number [.obj i, .int x, .int y] M = .ok (.bl false) M := fun x y => by simp [f__law_number, b__law_number, runB_ev, b]
  have hN : (M ++ [MO.lst [.bl false, .bl false, .bl false]])[i]? = some (.dic kvs) := by
    rw [List.getElem?_append_left (List.getElem?_eq_some_iff.mp hM).1]; exact hM
  have b2 := fun p => isBK_dic (p := p) hN
  have k4 : f__law_is_page [.obj i] (M ++ [.lst [.bl false, .bl false, .bl false]]) = .ok (.bl false) (M ++ [.lst [.bl false, .bl false, .bl false]] ++ []) := by
    rw [List.append_nil]
    generalize M ++ [MO.lst [.bl false, .bl false, .bl false]] = N at *
    simp [f__law_is_page, b__law_is_page, runB_ev, b2]
  exact ⟨[.lst [.bl false, .bl false, .bl false, .bl false]] ++ [], by
    rw [looks_A e1 e2 e3 e4 (k1 1 12) (k1 0 400) (k3 64 200) k4]
    simp only [List.append_assoc]⟩
def BPe : Exn := ⟨"BadPage", ["number"], [.non]⟩
def BSe : Exn := ⟨"BadSize", [], []⟩
theorem need_no {n : Nat} {d : D} {M : Mem} (h : Nc n d) (k : pageB d = false) : f_need_page [d] M = .ex BPe M := by
  simp [f_need_page, b_need_page, runB_ev, made_no (M := M) h k, BPe]
theorem methK1_ex {m : Str} {tab : MTab} {da : DA} {e : Exn} {M : Mem} {r : Env'} : methK1 m tab (.ex e M) da r = .ex e M := rfl
theorem fB {M : Mem} : isK (isX xtab ["BadPage"]) (.ok (.exc "BadPage" ["number"] [.non]) M) = .ok (.bl true) M := isK_exc (by decide +kernel)
theorem fB2 {M : Mem} : isK (isX xtab ["BadSize"]) (.ok (.exc "BadPage" ["number"] [.non]) M) = .ok (.bl false) M := isK_exc (by decide +kernel)
theorem fBa {M : Mem} : isK (isX xtab ["BadKey", "BadLine", "BadNumber", "BadText", "BadValue", "Closed"]) (.ok (.exc "BadPage" ["number"] [.non]) M) = .ok (.bl false) M := isK_exc (by decide +kernel)
theorem fBb {M : Mem} : isK (isX xtab ["InBundle", "NoBundle", "NoKey", "PowerGone"]) (.ok (.exc "BadPage" ["number"] [.non]) M) = .ok (.bl false) M := isK_exc (by decide +kernel)
theorem fBv {M : Mem} : isK (isXv xtab) (.ok (.exc "BadPage" ["number"] [.non]) M) = .ok (.bl true) M := isK_exc (by decide +kernel)
theorem fS1 {M : Mem} : isK (isX xtab ["BadPage"]) (.ok (.exc "BadSize" [] []) M) = .ok (.bl false) M := isK_exc (by decide +kernel)
theorem fS2 {M : Mem} : isK (isX xtab ["BadSize"]) (.ok (.exc "BadSize" [] []) M) = .ok (.bl true) M := isK_exc (by decide +kernel)
theorem fSa {M : Mem} : isK (isX xtab ["BadKey", "BadLine", "BadNumber", "BadText", "BadValue", "Closed"]) (.ok (.exc "BadSize" [] []) M) = .ok (.bl false) M := isK_exc (by decide +kernel)
theorem fSb {M : Mem} : isK (isX xtab ["InBundle", "NoBundle", "NoKey", "PowerGone"]) (.ok (.exc "BadSize" [] []) M) = .ok (.bl false) M := isK_exc (by decide +kernel)
theorem fSv {M : Mem} : isK (isXv xtab) (.ok (.exc "BadSize" [] []) M) = .ok (.bl true) M := isK_exc (by decide +kernel)
theorem tkP {M : Mem} {r : Env'} {hand : DS} : tryK (exX xtab "TableError") 3 (.ex BPe r M) hand = offS 3 (hand (r.set 3 (some (.exc "BadPage" ["number"] [.non]))) M) := tryK_yes (e := BPe) (by decide +kernel)
theorem tkS {M : Mem} {r : Env'} {hand : DS} : tryK (exX xtab "TableError") 3 (.ex BSe r M) hand = offS 3 (hand (r.set 3 (some (.exc "BadSize" [] []))) M) := tryK_yes (e := BSe) (by decide +kernel)
theorem xfN {M : Mem} : fXf (fun c => c == "BadPage") "number" (.exc "BadPage" ["number"] [.non]) M = .ok .non M := rfl
/-- the three ways: what a refusal with BadPage tells -/
theorem ref0 {M M1 : Mem} {d s : D} (h : f_body_of [d] M = .ex BPe M1) : f__law_refused [.int 0, d, s] M = .ok (.str "page") M1 := by
  simp [-fXf_ev, f__law_refused, b__law_refused, runB_ev, h, tkP, fB, fB2, fBa, fBb, fBv, xfN]
theorem ref1 {M M1 : Mem} {d s : D} (h : f_leads_to [d] M = .ex BPe M1) : f__law_refused [.int 1, d, s] M = .ok (.str "page") M1 := by
  simp [-fXf_ev, f__law_refused, b__law_refused, runB_ev, h, tkP, fB, fB2, fBa, fBb, fBv, xfN]
theorem ref2 {M M1 : Mem} {d s : D} (h : f_page_text [d, s] M = .ex BPe M1) : f__law_refused [.int 2, d, s] M = .ok (.str "page") M1 := by
  simp [-fXf_ev, f__law_refused, b__law_refused, runB_ev, h, tkP, fB, fB2, fBa, fBb, fBv, xfN]
theorem refS {M M1 : Mem} {d s : D} (h : f_page_text [d, s] M = .ex BSe M1) : f__law_refused [.int 2, d, s] M = .ok (.str "size") M1 := by
  simp [-fXf_ev, f__law_refused, b__law_refused, runB_ev, h, tkS, fS1, fS2, fSa, fSb, fSv, xfN]
theorem ref0n {M M1 : Mem} {d s x : D} (h : f_body_of [d] M = .ok x M1) : f__law_refused [.int 0, d, s] M = .ok (.str "") M1 := by
  simp [-fXf_ev, f__law_refused, b__law_refused, runB_ev, h]
theorem ref1n {M M1 : Mem} {d s x : D} (h : f_leads_to [d] M = .ok x M1) : f__law_refused [.int 1, d, s] M = .ok (.str "") M1 := by
  simp [-fXf_ev, f__law_refused, b__law_refused, runB_ev, h]
theorem refused_no {n : Nat} {d : D} {M : Mem} (s : D) (h : Nc n d) (k : pageB d = false) : f__law_refused [.int 0, d, s] M = .ok (.str "page") M ∧ f__law_refused [.int 1, d, s] M = .ok (.str "page") M ∧ f__law_refused [.int 2, d, s] M = .ok (.str "page") M := by
  have q := need_no (M := M) h k
  exact ⟨ref0 (by simp [f_body_of, b_body_of, runB_ev, q, methK1_ex]), ref1 (by simp [f_leads_to, b_leads_to, runB_ev, q, methK1_ex]), ref2 (by simp [f_page_text, b_page_text, runB_ev, q])⟩
theorem refused_size {n : Nat} {d s : D} {M : Mem} {m : Nat} (h : Nc n d) (k : pageB d = true) (hs : Nc m s) (k2 : numB 64 200 s = false) : ∃ X, f__law_refused [.int 2, d, s] M = .ok (.str "size") (M ++ X) := by
  obtain ⟨p, rfl, hp⟩ := page_inv h k
  have q := is_size_any (M := M ++ [p.obj]) hs
  rw [k2] at q
  have nd : f_need_size [s] (M ++ [p.obj]) = .ex BSe (M ++ [p.obj]) := by simp [f_need_size, b_need_size, runB_ev, q, BSe]
  exact ⟨[p.obj], refS (by simp [f_page_text, b_page_text, runB_ev, need_page_ok (M := M) hp, nd])⟩
end K03
set_option Elab.async false
set_option linter.all false
set_option maxRecDepth 100000
set_option maxHeartbeats 4000000
namespace K03
open PySem PySem.Spec PyProof.Rows L2 LF
/-- data of a bounded size whose numbers are short -/
structure Ns (n w : Nat) (d : D) : Prop where
  lay : D.lay n d = true
  ish : D.ish d = true
  wt : D.wt d ≤ w
theorem Ns.nc {n w : Nat} {d : D} (h : Ns n w d) (hn : n ≤ 60) (hw : w ≤ 90000) : Nc n d := ⟨h.lay, Nat.le_trans h.wt hw, hn⟩
theorem Ns.up {n m w v : Nat} {d : D} (h : Ns n w d) (hn : n ≤ m) (hw : w ≤ v) : Ns m v d := ⟨lay_le h.lay hn, h.ish, Nat.le_trans h.wt hw⟩
theorem ishL_mem : ∀ {ds : List D}, D.ishL ds = true → ∀ x ∈ ds, D.ish x = true
  | d :: ds, h, x, hx => by
    rw [D.ishL] at h
    obtain ⟨a, b⟩ := Bool.and_eq_true_iff.mp h
    rcases List.mem_cons.mp hx with rfl | hx
    · exact a
    · exact ishL_mem b x hx
theorem ishL_of : ∀ {ds : List D}, (∀ x ∈ ds, D.ish x = true) → D.ishL ds = true
  | [], _ => by simp [D.ishL]
  | d :: ds, h => by rw [D.ishL, h d (by simp), ishL_of fun x hx => h x (by simp [hx])]; rfl
theorem wtL_app : ∀ (a b : List D), D.wtL (a ++ b) = D.wtL a + D.wtL b
  | [], b => by simp [D.wtL]
  | d :: a, b => by rw [List.cons_append, D.wtL, D.wtL, wtL_app a b]; omega
theorem wtL_rev : ∀ a : List D, D.wtL a.reverse = D.wtL a
  | [] => rfl
  | d :: a => by rw [List.reverse_cons, wtL_app, wtL_rev a, D.wtL, D.wtL, D.wtL]; omega
theorem wtL_take (a : List D) (k : Nat) : D.wtL (a.take k) ≤ D.wtL a := by
  have := wtL_app (a.take k) (a.drop k)
  rw [List.take_append_drop] at this
  omega
theorem wtL_drop (a : List D) (k : Nat) : D.wtL (a.drop k) ≤ D.wtL a := by
  have := wtL_app (a.take k) (a.drop k)
  rw [List.take_append_drop] at this
  omega
theorem Ns.mem {n w : Nat} {ds : List D} (h : Ns (n + 1) w (.tup ds)) : ∀ x ∈ ds, Ns n w x := fun x hx => ⟨layL_mem (by simpa using h.lay) x hx, ishL_mem (by have := h.ish; rwa [D.ish] at this) x hx, by have := wtL_mem x hx; have := h.wt; rw [D.wt] at this; omega⟩
theorem Ns.tupl {n w : Nat} {ds : List D} (h : ∀ x ∈ ds, D.lay n x = true ∧ D.ish x = true) (hw : D.wtL ds ≤ w) : Ns (n + 1) w (.tup ds) := ⟨by rw [lay_tup]; exact layL_of fun x hx => (h x hx).1, by rw [D.ish]; exact ishL_of fun x hx => (h x hx).2, by rw [D.wt]; exact hw⟩
theorem Ns.lstl {n w : Nat} {ds : List D} (h : ∀ x ∈ ds, D.lay n x = true ∧ D.ish x = true) (hw : D.wtL ds ≤ w) : Ns (n + 1) w (.lst ds) := ⟨by rw [lay_lst]; exact layL_of fun x hx => (h x hx).1, by rw [D.ish]; exact ishL_of fun x hx => (h x hx).2, by rw [D.wt]; exact hw⟩
def oddA : List D := [.non, .bl true, .int 5, .int (-1), .int 4096, .str "", .str "a\tb", .str "abcdefghijklm", .tup [], .lst [], .tup [.str "in", .str "x"], .tup [.str "in", .int 5], .tup [.str "out", .int 0, .int 1]]
def xs401 : Str := tx (List.replicate 401 120)
def xs64 : Str := tx (List.replicate 64 120)
def oddB : List D := [.tup [.str "out", .int 401, .int 1], .tup [.str "out", .int 1, .int 0], .tup [.str "out", .int 5, .bl true], .tup [.str "on", .str "x"], .str xs401, .str xs64, .str "leaf"]
def oddC : List D := [.tup [.str "in"]]
theorem x401 (M : Mem) : fRep false (.str "x") (.int 401) M = .ok (.str xs401) M := by
  have e : Str.ofString "x" = tx [120] := by rw [tx_lit]; rfl
  rw [e, fRep_str (by decide) (by decide) (by simp), mul_tx]; rfl
theorem x64 (M : Mem) : fRep false (.str "x") (.int 64) M = .ok (.str xs64) M := by
  have e : Str.ofString "x" = tx [120] := by rw [tx_lit]; rfl
  rw [e, fRep_str (by decide) (by decide) (by simp), mul_tx]; rfl
theorem odd_ns : ∀ d ∈ oddA ++ oddB ++ oddC, Ns 2 1000 d := by
  have h : (oddA ++ oddB ++ oddC).all (fun d => D.lay 2 d && (D.ish d && Nat.ble (D.wt d) 1000)) = true := by decide +kernel
  intro d hd
  have := List.all_eq_true.mp h d hd
  obtain ⟨a, b⟩ := Bool.and_eq_true_iff.mp this
  obtain ⟨b, c⟩ := Bool.and_eq_true_iff.mp b
  exact ⟨a, b, Nat.le_of_ble_eq_true c⟩
def mk4 (ds : List D) : List D := [.lst ds, .tup (ds ++ cutN ds (some (-1)) none), .tup (cutN ds none (some (-1))), .tup ds.reverse]
theorem odd_pick {N : Mem} {q : Nat} {L : List D} {k : Int} (hq : N[q]? = some (.lst L)) (hl : L ≠ []) (h : L.length ≤ 1000) : ∃ d ∈ L, fIx (.obj q) (.int (k % (L.length : Nat))) N = .ok d N := by
  have p : 0 < L.length := List.length_pos_iff.mpr hl
  have h0 : 0 ≤ k % ((L.length : Nat) : Int) := Int.emod_nonneg _ (by omega)
  have h1 : k % ((L.length : Nat) : Int) < (L.length : Nat) := Int.emod_lt_of_pos _ (by omega)
  obtain ⟨j, hj⟩ : ∃ j : Nat, k % ((L.length : Nat) : Int) = j := ⟨(k % ((L.length : Nat) : Int)).toNat, by omega⟩
  rw [hj] at h1 ⊢
  have hj2 : j < L.length := by omega
  exact ⟨L[j], List.getElem_mem hj2, fIx_obj hq (L2.atI_nat (List.getElem?_eq_getElem hj2))⟩
theorem odd_A {M : Mem} {x : D} {k : Int} {N : Mem} {T : D} (e1 : fCatL true (.lst oddA) (.lst oddB) M = .ok (.obj M.length) N) (e2 : ∀ (de : DE) (r : Env'), appK1 (.ok (.obj M.length) N) de r = appK2 (.obj M.length) (de r N)) {N2 : Mem} (e3 : appAt (.obj M.length) (.tup [.str "in"]) N = .ok .non N2)
    (hx : isBK (fun t => t == "tuple") (.ok x N2) = .ok (.bl false) N2) {L : Nat} (l : fLen [.obj M.length] N2 = .ok (.int (L : Nat)) N2) (hL : 0 < L) {d : D} (ix : fIx (.obj M.length) (.int (k % (L : Nat))) N2 = .ok d N2) : f__law_odd [.int k, x] M = .ok d N2 := by
  have m : fMod (.int k) (.int (L : Nat)) N2 = .ok (.int (k % (L : Nat))) N2 := fMod_int (by omega)
  have la : ∀ M : Mem, lstK (.ok [.non, .bl true, .int 5, .int (-1), .int 4096, .str "", .str "a\tb", .str "abcdefghijklm", .tup [], .lst [], .tup [.str "in", .str "x"], .tup [.str "in", .int 5], .tup [.str "out", .int 0, .int 1]] M) = .ok (.lst oddA) M := fun M => lstK_ok (by simp)
  have l0 : ∀ M : Mem, lstK (.ok [] M) = .ok (.lst []) M := fun M => lstK_ok (by simp)
  have lb : ∀ M : Mem, lstK (.ok [.tup [.str "out", .int 401, .int 1], .tup [.str "out", .int 1, .int 0], .tup [.str "out", .int 5, .bl true], .tup [.str "on", .str "x"], .str xs401, .str xs64, .str "leaf"] M) = .ok (.lst oddB) M := fun M => lstK_ok (by simp)
  generalize ((L : Nat) : Int) = LL at *
  unfold f__law_odd b__law_odd
  rw [runB_ev]
  simp [-lstK_ok, x401, x64, l0, la, lb, e1, e2, e3, hx, l, m, ix]
theorem odd_B {M : Mem} {ds : List D} {k : Int} {N : Mem} (hd : ds.length ≤ 40000) (e1 : fCatL true (.lst oddA) (.lst oddB) M = .ok (.obj M.length) N) (e2 : ∀ (de : DE) (r : Env'), appK1 (.ok (.obj M.length) N) de r = appK2 (.obj M.length) (de r N)) {N2 N3 : Mem} (e3 : appAt (.obj M.length) (.tup [.str "in"]) N = .ok .non N2)
    {L4 T : List D} (rp : fRep false (.obj N2.length) (.int 2) (N2 ++ [.lst (mk4 ds)]) = .ok (.lst L4) N3) (ct : fCatL false (.obj M.length) (.lst L4) N3 = .ok (.lst T) N3) (hT : 0 < T.length) {d : D} (ix : fIx (.lst T) (.int (k % (T.length : Nat))) N3 = .ok d N3) : f__law_odd [.int k, .tup ds] M = .ok d N3 := by
  have m : fMod (.int k) (.int (T.length : Nat)) N3 = .ok (.int (k % (T.length : Nat))) N3 := fMod_int (by omega)
  have ln : fLen [.lst T] N3 = .ok (.int (T.length : Nat)) N3 := rfl
  have la : ∀ M : Mem, lstK (.ok [.non, .bl true, .int 5, .int (-1), .int 4096, .str "", .str "a\tb", .str "abcdefghijklm", .tup [], .lst [], .tup [.str "in", .str "x"], .tup [.str "in", .int 5], .tup [.str "out", .int 0, .int 1]] M) = .ok (.lst oddA) M := fun M => lstK_ok (by simp)
  have l0 : ∀ M : Mem, lstK (.ok [] M) = .ok (.lst []) M := fun M => lstK_ok (by simp)
  have lb : ∀ M : Mem, lstK (.ok [.tup [.str "out", .int 401, .int 1], .tup [.str "out", .int 1, .int 0], .tup [.str "out", .int 5, .bl true], .tup [.str "on", .str "x"], .str xs401, .str xs64, .str "leaf"] M) = .ok (.lst oddB) M := fun M => lstK_ok (by simp)
  have nl : newL false ds N2 = .ok (.lst ds) N2 := newL_f (by omega)
  have c1 : fCat false (.tup ds) (.tup (cutN ds (some (-1)) none)) N2 = .ok (.tup (ds ++ cutN ds (some (-1)) none)) N2 := fCat_tup (by unfold cutN; rw [List.length_take, List.length_drop]; omega)
  have l4 : lstAK (.ok [.lst ds, .tup (ds ++ cutN ds (some (-1)) none), .tup (cutN ds none (some (-1))), .tup ds.reverse] N2) = .ok (.obj N2.length) (N2 ++ [.lst (mk4 ds)]) := lstAK_ok (by simp)
  generalize ((T.length : Nat) : Int) = LL at *
  generalize hN4 : N2 ++ [MO.lst (mk4 ds)] = N4 at *
  unfold f__law_odd b__law_odd
  rw [runB_ev]
  simp [-lstK_ok, -lstAK_ok, -fLen_lst, x401, x64, l0, la, lb, e1, e2, e3, nl, c1, l4, rp, ct, ln, m, ix]
theorem odd_ok {n w : Nat} {x : D} (k : Int) (M : Mem) (h : Ns n w x) (hn : 2 ≤ n) (hn2 : n ≤ 60) (hw : w ≤ 40000) : ∃ d X, f__law_odd [.int k, x] M = .ok d (M ++ X) ∧ Ns n (2 * w + 1000) d := by
  have e1 : fCatL true (.lst oddA) (.lst oddB) M = .ok (.obj M.length) (M ++ [.lst (oddA ++ oddB)]) := by
    unfold fCatL
    exact newL_t (by decide)
  have g1 : (M ++ [MO.lst (oddA ++ oddB)])[M.length]? = some (.lst (oddA ++ oddB)) := by simp
  have e2 := fun (de : DE) (r : Env') => appK1_of (de := de) (r := r) g1
  have e3 := appAt_of (y := .tup [.str "in"]) g1 (by decide)
  rw [set_last] at e3
  have e3 : appAt (.obj M.length) (.tup [.str "in"]) (M ++ [MO.lst (oddA ++ oddB)]) = .ok .non (M ++ [MO.lst (oddA ++ oddB ++ oddC)]) := e3
  have g2 : (M ++ [MO.lst (oddA ++ oddB ++ oddC)])[M.length]? = some (.lst (oddA ++ oddB ++ oddC)) := by simp
  by_cases t : ∃ ds, x = .tup ds
  · obtain ⟨ds, rfl⟩ := t
    have hl : ds.length ≤ 40000 := by
      have a := wtL_len ds
      have b := h.wt
      rw [D.wt] at b
      omega
    have g3 : (M ++ [MO.lst (oddA ++ oddB ++ oddC)] ++ [.lst (mk4 ds)])[(M ++ [MO.lst (oddA ++ oddB ++ oddC)]).length]? = some (.lst (mk4 ds)) := by simp
    have g4 : (M ++ [MO.lst (oddA ++ oddB ++ oddC)] ++ [.lst (mk4 ds)])[M.length]? = some (.lst (oddA ++ oddB ++ oddC)) := by simp
    have rp := fRep_obj (ar := false) (j := 2) g3 (by decide) (by decide)
    have rp : fRep false (.obj (M ++ [MO.lst (oddA ++ oddB ++ oddC)]).length) (.int 2) (M ++ [MO.lst (oddA ++ oddB ++ oddC)] ++ [.lst (mk4 ds)]) = .ok (.lst (mk4 ds ++ mk4 ds)) (M ++ [MO.lst (oddA ++ oddB ++ oddC)] ++ [.lst (mk4 ds)]) := by
      rw [rp]; exact newL_f (by simp [List.replicate, mk4])
    have ct : fCatL false (.obj M.length) (.lst (mk4 ds ++ mk4 ds)) (M ++ [MO.lst (oddA ++ oddB ++ oddC)] ++ [.lst (mk4 ds)]) = .ok (.lst (oddA ++ oddB ++ oddC ++ (mk4 ds ++ mk4 ds))) (M ++ [MO.lst (oddA ++ oddB ++ oddC)] ++ [.lst (mk4 ds)]) := by
      unfold fCatL
      dsimp only [lstOf]
      rw [g4]
      exact newL_f (by simp [mk4, oddA, oddB, oddC])
    have hT : (oddA ++ oddB ++ oddC ++ (mk4 ds ++ mk4 ds)).length = 29 := by simp [mk4, oddA, oddB, oddC]
    have i0 : 0 ≤ k % ((29 : Nat) : Int) := Int.emod_nonneg _ (by omega)
    have i1 : k % ((29 : Nat) : Int) < ((29 : Nat) : Int) := Int.emod_lt_of_pos _ (by omega)
    obtain ⟨j, hj⟩ : ∃ j : Nat, k % ((29 : Nat) : Int) = j := ⟨(k % ((29 : Nat) : Int)).toNat, by omega⟩
    have hj2 : j < (oddA ++ oddB ++ oddC ++ (mk4 ds ++ mk4 ds)).length := by omega
    have ix : fIx (.lst (oddA ++ oddB ++ oddC ++ (mk4 ds ++ mk4 ds))) (.int (k % ((oddA ++ oddB ++ oddC ++ (mk4 ds ++ mk4 ds)).length : Nat))) (M ++ [MO.lst (oddA ++ oddB ++ oddC)] ++ [.lst (mk4 ds)]) = .ok ((oddA ++ oddB ++ oddC ++ (mk4 ds ++ mk4 ds))[j]) (M ++ [MO.lst (oddA ++ oddB ++ oddC)] ++ [.lst (mk4 ds)]) := by
      rw [hT, hj]
      exact fIx_lst (L2.atI_nat (List.getElem?_eq_getElem hj2))
    refine ⟨_, [MO.lst (oddA ++ oddB ++ oddC)] ++ [.lst (mk4 ds)], by rw [← List.append_assoc]; exact odd_B hl e1 e2 e3 rp ct (by omega) ix, ?_⟩
    have m4 : ∀ d ∈ mk4 ds, Ns n (2 * w + 1000) d := fun d hd => by
      obtain ⟨m, rfl⟩ : ∃ m, n = m + 1 := ⟨n - 1, by omega⟩
      have hm := h.mem
      have hw := h.wt
      rw [D.wt] at hw
      have c1 : ∀ lo hi, ∃ a b, cutN ds lo hi = (ds.drop a).take b := fun lo hi => ⟨_, _, rfl⟩
      have cm : ∀ lo hi, ∀ x ∈ cutN ds lo hi, x ∈ ds := fun lo hi x hx => by
        obtain ⟨a, b, e⟩ := c1 lo hi
        rw [e] at hx
        exact List.mem_of_mem_drop (List.mem_of_mem_take hx)
      have cw : ∀ lo hi, D.wtL (cutN ds lo hi) ≤ D.wtL ds := fun lo hi => by
        obtain ⟨a, b, e⟩ := c1 lo hi
        rw [e]
        exact Nat.le_trans (wtL_take _ _) (wtL_drop _ _)
      unfold mk4 at hd
      simp only [List.mem_cons, List.mem_nil_iff, or_false] at hd
      rcases hd with rfl | rfl | rfl | rfl
      · exact Ns.lstl (fun x hx => ⟨(hm x hx).lay, (hm x hx).ish⟩) (by omega)
      · exact Ns.tupl (fun x hx => by
          rcases List.mem_append.mp hx with hx | hx
          · exact ⟨(hm x hx).lay, (hm x hx).ish⟩
          · exact ⟨(hm x (cm _ _ x hx)).lay, (hm x (cm _ _ x hx)).ish⟩) (by rw [wtL_app]; have := cw (some (-1)) none; omega)
      · exact Ns.tupl (fun x hx => ⟨(hm x (cm _ _ x hx)).lay, (hm x (cm _ _ x hx)).ish⟩) (by have := cw none (some (-1)); omega)
      · exact Ns.tupl (fun x hx => by
          have hx := List.mem_reverse.mp hx
          exact ⟨(hm x hx).lay, (hm x hx).ish⟩) (by rw [wtL_rev]; omega)
    have hmem := List.getElem_mem hj2
    rcases List.mem_append.mp hmem with q | q
    · exact (odd_ns _ q).up hn (by omega)
    · rcases List.mem_append.mp q with q | q <;> exact m4 _ q
  · obtain ⟨d, hd, ix⟩ := odd_pick (k := k) g2 (by simp [oddA]) (by simp [oddA, oddB, oddC])
    refine ⟨d, [.lst (oddA ++ oddB ++ oddC)], odd_A (T := x) e1 e2 e3 (isB_tup (h.nc hn2 (by omega)) fun ds e => t ⟨ds, e⟩) (fLen_obj g2) (by simp [oddA]) ix, (odd_ns d hd).up hn (by omega)⟩
end K03
set_option Elab.async false
set_option linter.all false
set_option maxRecDepth 100000
set_option maxHeartbeats 4000000
namespace K03
open PySem PySem.Spec PyProof.Rows L2 LF
theorem spoilt_ok {ns : List Int} : ∀ (f n w : Nat) (x : D) (M : Mem) (k : Int), n < f → n ≤ 50 → w ≤ 30000 → At ns k M → 0 ≤ k → k + f < 900000000 → Ns n w x →
    ∃ d M' k', f__law_spoilt f [.obj 0, x] M = .ok d M' ∧ At ns k' M' ∧ k ≤ k' ∧ k' ≤ k + f ∧ Ns (n + 2) (2 * w + 1000) d
  | 0, n, w, x, M, k, h, _, _, _, _, _, _ => by omega
  | f + 1, n, w, x, M, k, hf, hn, hw, hM, h0, h1, hx => by
    obtain ⟨nn, n0, n1, e1, hN⟩ := lnext hM h0 (by omega)
    generalize M.set 0 (St ns (k + 1)) = N at *
    have odd : ∃ d X, f__law_odd [.int (nn / 4), x] N = .ok d (N ++ X) ∧ Ns (n + 2) (2 * w + 1000) d := odd_ok (nn / 4) N (hx.up (m := n + 2) (v := w) (by omega) (by omega)) (by omega) (by omega) (by omega)
    obtain ⟨od, X, eo, ho⟩ := odd
    have fd : fFdiv (.int nn) (.int 4) N = .ok (.int (nn / 4)) N := fFdiv_int (by decide) (by decide)
    have fm : fMod (.int nn) (.int 4) N = .ok (.int (nn % 4)) N := fMod_int (by decide)
    have nc := hx.nc (by omega) (show w ≤ 90000 by omega)
    by_cases t : ∃ ds, x = .tup ds
    · obtain ⟨ds, rfl⟩ := t
      match n, ds, hx, nc, hf, hn, ho with
      | 0, ds, hx, _, _, _, _ => have := hx.lay; simp [D.lay] at this
      | n + 1, [], hx, nc, _, _, ho =>
        have e : fEq (.tup []) (.tup []) N = .ok (.bl true) N := fEq_same (by simp)
        refine ⟨od, N ++ X, k + 1, ?_, hN.app, by omega, by omega, ho⟩
        simp [f__law_spoilt, b__law_spoilt, runB_ev, e1, e, fd, eo]
      | n + 1, a :: ds, hx, nc, hf, hn, ho =>
        have e := eq_nil (M := N) nc
        by_cases z : nn % 4 = 0
        · refine ⟨od, N ++ X, k + 1, ?_, hN.app, by omega, by omega, ho⟩
          simp [f__law_spoilt, b__law_spoilt, runB_ev, e1, e, fd, fm, decide_eq_true z, z, eo]
        · clear eo ho
          have i0 : 0 ≤ nn / 4 % (((a :: ds).length : Nat) : Int) := Int.emod_nonneg _ (by simp only [List.length_cons]; omega)
          have i1 : nn / 4 % (((a :: ds).length : Nat) : Int) < ((a :: ds).length : Nat) := Int.emod_lt_of_pos _ (by simp only [List.length_cons]; omega)
          have fm2 : fMod (.int (nn / 4)) (.int ((a :: ds).length : Nat)) N = .ok (.int (nn / 4 % ((a :: ds).length : Nat))) N := fMod_int (by simp only [List.length_cons]; omega)
          obtain ⟨j, hj⟩ : ∃ j : Nat, nn / 4 % (((a :: ds).length : Nat) : Int) = j := ⟨(nn / 4 % (((a :: ds).length : Nat) : Int)).toNat, by omega⟩
          rw [hj] at i1 fm2
          have hj2 : j < (a :: ds).length := by omega
          have ln : fLen [.tup (a :: ds)] N = .ok (.int ((a :: ds).length : Nat)) N := rfl
          have hmem := hx.mem
          have hwt := hx.wt
          have hlay := hx.lay
          have hish := hx.ish
          rw [D.wt] at hwt
          have hlen := wtL_len (a :: ds)
          generalize (a :: ds) = L at *
          have wsum : D.wtL L = D.wtL (L.take j) + (D.wt L[j] + 1 + D.wtL (L.drop (j + 1))) := by
            have e : L.drop j = L[j] :: L.drop (j + 1) := List.drop_eq_getElem_cons hj2
            have := wtL_app (L.take j) (L.drop j)
            rw [List.take_append_drop, e, D.wtL] at this
            exact this
          have hel := hmem _ (List.getElem_mem hj2)
          have hel2 : Ns n (D.wt L[j]) L[j] := ⟨hel.lay, hel.ish, Nat.le_refl _⟩
          obtain ⟨d, M', k', es, hM', b0, b1, hd⟩ := spoilt_ok f n (D.wt L[j]) L[j] N (k + 1) (by omega) (by omega) (by omega) hN (by omega) (by omega) hel2
          have ix : fIx (.tup L) (.int (j : Nat)) N = .ok L[j] N := fIx_tup (L2.atI_nat (List.getElem?_eq_getElem hj2))
          have s1 : cutN L none (some ((j : Nat) : Int)) = L.take j := cutN_to (by omega)
          have s2 : cutN L (some (((j : Nat) : Int) + 1)) none = L.drop (j + 1) := cutN_from (k := j + 1) (by omega)
          have c1 : fCat false (.tup (L.take j)) (.tup [d]) M' = .ok (.tup (L.take j ++ [d])) M' := fCat_tup (by rw [List.length_take]; simp; omega)
          have c2 : fCat false (.tup (L.take j ++ [d])) (.tup (L.drop (j + 1))) M' = .ok (.tup (L.take j ++ [d] ++ L.drop (j + 1))) M' := fCat_tup (by rw [List.length_append, List.length_take, List.length_drop]; simp; omega)
          refine ⟨.tup (L.take j ++ [d] ++ L.drop (j + 1)), M', k', ?_, hM', by omega, by omega, ?_⟩
          · generalize ((L.length : Nat) : Int) = LL at *
            generalize L[j] = Lj at *
            generalize ((j : Nat) : Int) = J at *
            simp [-fLen_tup, -List.append_assoc, f__law_spoilt, b__law_spoilt, runB_ev, e1, e, fd, fm, decide_eq_false z, z, ln, fm2, s1, s2, ix, es, c1, c2]
          · refine Ns.tupl (n := n + 2) (fun y hy => ?_) ?_
            · rcases List.mem_append.mp hy with hy | hy
              · rcases List.mem_append.mp hy with hy | hy
                · exact ⟨lay_le (hmem y (List.mem_of_mem_take hy)).lay (by omega), (hmem y (List.mem_of_mem_take hy)).ish⟩
                · simp only [List.mem_cons, List.mem_nil_iff, or_false] at hy
                  subst hy
                  exact ⟨hd.lay, hd.ish⟩
              · exact ⟨lay_le (hmem y (List.mem_of_mem_drop hy)).lay (by omega), (hmem y (List.mem_of_mem_drop hy)).ish⟩
            · have := hd.wt
              rw [wtL_app, wtL_app, D.wtL, D.wtL]
              omega
    · have b := isB_tup (M := N) nc fun ds e => t ⟨ds, e⟩
      refine ⟨od, N ++ X, k + 1, ?_, hN.app, by omega, by omega, ho⟩
      simp [f__law_spoilt, b__law_spoilt, runB_ev, e1, b, fd, eo]
theorem key_ns {k : List Nat} (h : KeyOk k) : Ns 0 12 (keyD k) := by
  refine ⟨?_, rfl, ?_⟩
  · unfold keyD
    rw [lay_str, strOk_tx, List.all_eq_true]
    intro c hc
    have := h.t c hc
    unfold okc at this
    simp at this ⊢
    omega
  · unfold keyD
    rw [D.wt, tx_len]
    exact h.hi
theorem txt_ns {t : List Nat} {w : Nat} (h : TxtOk t) (hl : t.length ≤ w) : Ns 0 w (.str (tx t)) := by
  refine ⟨?_, rfl, ?_⟩
  · rw [lay_str, strOk_tx, List.all_eq_true]
    intro c hc
    have := h c hc
    unfold okc at this
    simp at this ⊢
    omega
  · rw [D.wt, tx_len]
    exact hl
theorem num_ns {i : Int} (h0 : 0 ≤ i) (h1 : i ≤ 4095) : Ns 0 41 (.int i) := ⟨rfl, by rw [D.ish, decide_eq_true (by omega), decide_eq_true (by omega)]; rfl, Nat.le_refl _⟩
theorem lit_ns {s : Str} (h : PyData.strOk s = true) {w : Nat} (hw : s.length ≤ w) : Ns 0 w (.str s) := ⟨by rw [lay_str]; exact h, rfl, by rw [D.wt]; exact hw⟩
theorem wtL_le {w : Nat} : ∀ {ds : List D}, (∀ d ∈ ds, D.wt d ≤ w) → D.wtL ds ≤ ds.length * (w + 1)
  | [], _ => by simp [D.wtL]
  | d :: ds, h => by
    have := wtL_le (ds := ds) fun x hx => h x (by simp [hx])
    have := h d (by simp)
    rw [D.wtL, List.length_cons, Nat.succ_mul]
    omega
theorem tup_ns {n w : Nat} {ds : List D} (h : ∀ d ∈ ds, Ns n w d) : Ns (n + 1) (ds.length * (w + 1)) (.tup ds) := Ns.tupl (fun x hx => ⟨(h x hx).lay, (h x hx).ish⟩) (wtL_le fun d hd => (h d hd).wt)
theorem cell_ns {c : Cell} (h : CellOk c) : Ns 1 200 c.toD := by
  cases c with
  | inn t =>
    obtain ⟨h1, h2⟩ := h
    have a := lit_ns (w := 63) so_in (by decide)
    have b := txt_ns (w := 63) h1 h2
    exact (tup_ns (w := 63) (ds := [.str "in", .str (tx t)]) (by simp; exact ⟨a, b⟩)).up (by omega) (by simp)
  | out x y =>
    obtain ⟨⟨h1, h2⟩, h3, h4⟩ := h
    have a := lit_ns (w := 41) so_out (by decide)
    exact (tup_ns (w := 41) (ds := [.str "out", .int x, .int y]) (by simp; exact ⟨a, num_ns (by omega) (by omega), num_ns (by omega) (by omega)⟩)).up (by omega) (by simp)
theorem row_ns {r : Row} (h1 : KeyOk r.1) (h2 : CellOk r.2) : Ns 2 300 (rowD r) := by
  have a := (key_ns h1).up (m := 1) (v := 200) (by omega) (by omega)
  exact (Ns.tupl (n := 1) (w := 300) (ds := [.str (tx r.1), r.2.toD]) (by simp; exact ⟨⟨a.lay, a.ish⟩, (cell_ns h2).lay, (cell_ns h2).ish⟩) (by
    have b := (key_ns h1).wt
    have c := (cell_ns h2).wt
    unfold keyD at b
    simp only [D.wtL]
    omega))
/-- keys, rows: of these so many -/
theorem rows_ns {rows : List Row} (h1 : ∀ r ∈ rows, KeyOk r.1) (h2 : ∀ r ∈ rows, CellOk r.2) (hl : rows.length ≤ 66) : Ns 3 19866 (.tup (rows.map rowD)) := by
  have t := tup_ns (n := 2) (w := 300) (ds := rows.map rowD) fun d hd => by
    obtain ⟨r, hr, rfl⟩ := List.mem_map.mp hd
    exact row_ns (h1 r hr) (h2 r hr)
  refine t.up (by omega) ?_
  rw [List.length_map]
  exact Nat.le_trans (Nat.mul_le_mul_right 301 hl) (by decide)
theorem keys_ns {ks : List (List Nat)} (h1 : ∀ r ∈ ks, KeyOk r) (hl : ks.length ≤ 66) : Ns 1 858 (.tup (ks.map keyD)) := by
  have t := tup_ns (n := 0) (w := 12) (ds := ks.map keyD) fun d hd => by
    obtain ⟨r, hr, rfl⟩ := List.mem_map.mp hd
    exact key_ns (h1 r hr)
  refine t.up (by omega) ?_
  rw [List.length_map]
  exact Nat.le_trans (Nat.mul_le_mul_right 13 hl) (by decide)
theorem kids_ns {kids : List Int} (h1 : ∀ r ∈ kids, 0 ≤ r ∧ r ≤ 4095) (hl : kids.length ≤ 68) : Ns 1 2856 (.tup (kids.map .int)) := by
  have t := tup_ns (n := 0) (w := 41) (ds := kids.map .int) fun d hd => by
    obtain ⟨r, hr, rfl⟩ := List.mem_map.mp hd
    exact num_ns (h1 r hr).1 (h1 r hr).2
  refine t.up (by omega) ?_
  rw [List.length_map]
  exact Nat.le_trans (Nat.mul_le_mul_right 42 hl) (by decide)
theorem leaf_ns {x : D} {n w : Nat} (h : Ns n w x) : Ns (n + 1) (w + 10) (.tup [.str "leaf", x]) :=
  Ns.tupl (fun y hy => by
    simp only [List.mem_cons, List.mem_nil_iff, or_false] at hy
    rcases hy with rfl | rfl
    · exact ⟨by rw [lay_str]; exact so_leaf, rfl⟩
    · exact ⟨h.lay, h.ish⟩) (by have := h.wt; simp only [D.wtL, D.wt]; rw [show (Str.ofString "leaf").length = 4 from by decide +kernel]; omega)
theorem fork_ns {x y : D} {n w v : Nat} (h : Ns n w x) (h2 : Ns n v y) : Ns (n + 1) (w + v + 10) (.tup [.str "fork", x, y]) :=
  Ns.tupl (fun z hy => by
    simp only [List.mem_cons, List.mem_nil_iff, or_false] at hy
    rcases hy with rfl | rfl | rfl
    · exact ⟨by rw [lay_str]; exact so_fork, rfl⟩
    · exact ⟨h.lay, h.ish⟩
    · exact ⟨h2.lay, h2.ish⟩) (by have := h.wt; have := h2.wt; simp only [D.wtL, D.wt]; rw [show (Str.ofString "fork").length = 4 from by decide +kernel]; omega)
theorem page_ns {p : Pg} (h : Good p) : Ns 4 20000 p.toD := by
  cases p with
  | head a b c d =>
    obtain ⟨⟨a1, a2⟩, ⟨b1, b2⟩, ⟨c1, c2⟩, d1, d2⟩ := h
    exact (tup_ns (n := 0) (w := 41) (ds := [.str "head", .int a, .int b, .int c, .int d]) (by simp; exact ⟨lit_ns so_head (by decide), num_ns a1 a2, num_ns b1 b2, num_ns c1 c2, num_ns d1 d2⟩)).up (by omega) (by simp)
  | leaf rows =>
    have hl : rows.length ≤ 63 := by have := h.1.many; simpa using this
    exact (leaf_ns (rows_ns (fun r hr => h.1.key r.1 (List.mem_map.mpr ⟨r, hr, rfl⟩)) h.2 (by omega))).up (by omega) (by omega)
  | fork keys kids =>
    obtain ⟨h1, h2, h3⟩ := h
    have := h1.many
    exact (fork_ns (keys_ns h1.key (by omega)) (kids_ns (fun r hr => ⟨by have := (h2 r hr).1; omega, (h2 r hr).2⟩) (by omega))).up (by omega) (by omega)
  | rest t n =>
    obtain ⟨h1, h2, h3, h4, h5⟩ := h
    exact (tup_ns (n := 0) (w := 400) (ds := [.str "rest", .str (tx t), .int n]) (by simp; exact ⟨lit_ns so_rest (by decide), txt_ns h1 h3, (num_ns h4 h5).up (by omega) (by omega)⟩)).up (by omega) (by simp)
  | free n =>
    exact (tup_ns (n := 0) (w := 41) (ds := [.str "free", .int n]) (by simp; exact ⟨lit_ns so_free (by decide), num_ns h.1 h.2⟩)).up (by omega) (by simp)
end K03
set_option Elab.async false
set_option linter.all false
set_option maxRecDepth 100000
set_option maxHeartbeats 4000000
namespace K03
open PySem PySem.Spec PyProof.Rows L2 LF
def oneD (b : Bool) (w : Str) : D := bif b then .str w else .tup [.str w, .tup [.str "in", .str ""]]
def T3 (R : List D) (j : Nat) (o : D) : List D := R.take j ++ [o] ++ R.drop (j + 1)
def T1 (R : List D) (j : Nat) : List D := R.take j ++ cutN R (some (j : Int)) (some ((j : Int) + 1)) ++ R.drop j
def T2 (R : List D) (j : Nat) : List D := R.take j ++ R.drop (j + 1) ++ cutN R (some (j : Int)) (some ((j : Int) + 1))
theorem cut_len {α : Type} (R : List α) (lo hi : Option Int) : (cutN R lo hi).length ≤ R.length := by unfold cutN; rw [List.length_take, List.length_drop]; omega
theorem cut_mem {α : Type} {R : List α} {lo hi : Option Int} {x : α} (h : x ∈ cutN R lo hi) : x ∈ R := by unfold cutN at h; exact List.mem_of_mem_drop (List.mem_of_mem_take h)
theorem cut_from {R : List D} {j : Nat} (h : j < R.length) : cutN R (some ((j : Int) + 1)) none = R.drop (j + 1) := cutN_from (k := j + 1) (by omega)
theorem l1_bent {M : Mem} {P : D} {w word : Str} {b : Bool} {x1 x6 x7 x8 : Option D} {R S : List D} {j q : Nat} (h0 : fIx P (.int 0) M = .ok (.str w) M) (e0 : fEq (.str w) (.str "fork") M = .ok (.bl b) M) (hj : j < R.length) (hl : R.length ≤ 1000) (hq : M[q]? = some (.lst S)) (hS : S.length ≤ 1000) :
    l1__law_bent [some P, x1, some (.int (j : Nat)), some (.tup R), some (.obj q), some (.str word), x6, x7, x8] M = .nx [some P, x1, some (.int (j : Nat)), some (.tup R), some (.obj q), some (.str word), some (oneD b word), x7, x8] (M.set q (.lst (S ++ [.tup (T3 R j (oneD b word))]))) := by
  have s1 : cutN R none (some (j : Int)) = R.take j := cutN_to (by omega)
  have s2 := cut_from hj
  have c1 : fCat false (.tup (R.take j)) (.tup [oneD b word]) M = .ok (.tup (R.take j ++ [oneD b word])) M := fCat_tup (by rw [List.length_take]; simp; omega)
  have c2 : fCat false (.tup (R.take j ++ [oneD b word])) (.tup (R.drop (j + 1))) M = .ok (.tup (R.take j ++ [oneD b word] ++ R.drop (j + 1))) M := fCat_tup (by rw [List.length_append, List.length_take, List.length_drop]; simp; omega)
  have p1 := fun (de : DE) r => appK1_of (de := de) (r := r) hq
  have p2 := appAt_of (y := .tup (T3 R j (oneD b word))) hq (by omega)
  have t : R.take j ++ [oneD b word] ++ R.drop (j + 1) = T3 R j (oneD b word) := rfl
  rw [t] at c2
  have one : ∀ r : Env', r[5]? = some (some (.str word)) → (ifEK (.ok b M) (dVar 5) (dTup (dCons (dVar 5) (dCons (dTup (dCons (dC (.str "in")) (dCons (dC (.str "")) dNil))) dNil))) r : Out D) = .ok (oneD b word) M := fun r hr => by
    cases b
    · simp [hr, oneD]
    · simp [hr, oneD]
  generalize hN : M.set q (MO.lst (S ++ [D.tup (T3 R j (oneD b word))])) = N at *
  generalize T3 R j (oneD b word) = TT at *
  generalize oneD b word = O at *
  generalize ((j : Nat) : Int) = J at *
  simp [-List.append_assoc, l1__law_bent, h0, e0, one, s1, s2, c1, c2, p1, p2]
def four (b : Bool) (R : List D) (j : Nat) : List (List D) := [T1 R j, T2 R j, T3 R j (oneD b ""), T3 R j (oneD b "abcdefghijklm")]
def fourD (b : Bool) (R : List D) (j : Nat) : List D := (four b R j).map D.tup
theorem bent_A {M : Mem} {P : D} {w : Str} {b : Bool} {R : List D} {nn : Int} (n0 : 0 ≤ nn) (hR : R ≠ []) (hl : R.length ≤ 63) (h0 : ∀ M, fIx P (.int 0) M = .ok (.str w) M) (h1 : ∀ M, fIx P (.int 1) M = .ok (.tup R) M) (e0 : ∀ M, fEq (.str w) (.str "fork") M = .ok (.bl b) M) :
    ∃ j, j < R.length ∧ ∀ (bt : DS) , (∀ (r : Env') N, b__law_bent r N = dSeq (dAsg (dBin fMod (dBin fFdiv (dVar 1) (dC (.int 11))) (dCB fLen (dCons (dBin fIx (dVar 0) (dC (.int 1))) dNil))) (gSlot 2)) (dSeq (dAsg (dBin fIx (dVar 0) (dC (.int 1))) (gSlot 3)) (dSeq (dAsg (dLstA (dCons (dBin (fCat false) (dBin (fCat false) (dSl (dVar 3) dNoPart (dPart (dVar 2))) (dSl (dVar 3) (dPart (dVar 2)) (dPart (dBin fAdd (dVar 2) (dC (.int 1)))))) (dSl (dVar 3) (dPart (dVar 2)) dNoPart)) (dCons (dBin (fCat false) (dBin (fCat false) (dSl (dVar 3) dNoPart (dPart (dVar 2))) (dSl (dVar 3) (dPart (dBin fAdd (dVar 2) (dC (.int 1)))) dNoPart)) (dSl (dVar 3) (dPart (dVar 2)) (dPart (dBin fAdd (dVar 2) (dC (.int 1)))))) dNil))) (gSlot 4)) (dSeq (dFor (dItL (dLst (dCons (dC (.str "")) (dCons (dC (.str "abcdefghijklm")) dNil)))) (gSlot 5) l1__law_bent) bt))) r N) →
      f__law_bent [P, .int nn] M = runK (bt [some P, some (.int nn), some (.int (j : Nat)), some (.tup R), some (.obj M.length), some (.str "abcdefghijklm"), some (oneD b "abcdefghijklm"), none, none] (M ++ [.lst (fourD b R j)])) := by
  have p : 0 < R.length := List.length_pos_iff.mpr hR
  have i0 : 0 ≤ nn / 11 % ((R.length : Nat) : Int) := Int.emod_nonneg _ (by omega)
  have i1 : nn / 11 % ((R.length : Nat) : Int) < (R.length : Nat) := Int.emod_lt_of_pos _ (by omega)
  have fm : fMod (.int (nn / 11)) (.int (R.length : Nat)) M = .ok (.int (nn / 11 % (R.length : Nat))) M := fMod_int (by omega)
  obtain ⟨j, hj⟩ : ∃ j : Nat, nn / 11 % ((R.length : Nat) : Int) = j := ⟨(nn / 11 % ((R.length : Nat) : Int)).toNat, by omega⟩
  rw [hj] at fm i1
  have hj2 : j < R.length := by omega
  refine ⟨j, hj2, fun bt hb => ?_⟩
  have ln : fLen [.tup R] M = .ok (.int (R.length : Nat)) M := rfl
  have s1 : cutN R none (some (j : Int)) = R.take j := cutN_to (by omega)
  have s2 := cut_from hj2
  have s3 : cutN R (some (j : Int)) none = R.drop j := cutN_from (by omega)
  have cl := cut_len R (some (j : Int)) (some ((j : Int) + 1))
  have c1 : fCat false (.tup (R.take j)) (.tup (cutN R (some (j : Int)) (some ((j : Int) + 1)))) M = .ok (.tup (R.take j ++ cutN R (some (j : Int)) (some ((j : Int) + 1)))) M := fCat_tup (by rw [List.length_take]; omega)
  have c2 : fCat false (.tup (R.take j ++ cutN R (some (j : Int)) (some ((j : Int) + 1)))) (.tup (R.drop j)) M = .ok (.tup (T1 R j)) M := fCat_tup (by rw [List.length_append, List.length_take, List.length_drop]; omega)
  have c3 : fCat false (.tup (R.take j)) (.tup (R.drop (j + 1))) M = .ok (.tup (R.take j ++ R.drop (j + 1))) M := fCat_tup (by rw [List.length_take, List.length_drop]; omega)
  have c4 : fCat false (.tup (R.take j ++ R.drop (j + 1))) (.tup (cutN R (some (j : Int)) (some ((j : Int) + 1)))) M = .ok (.tup (T2 R j)) M := fCat_tup (by rw [List.length_append, List.length_take, List.length_drop]; omega)
  have g1 : (M ++ [MO.lst [D.tup (T1 R j), .tup (T2 R j)]])[M.length]? = some (.lst [D.tup (T1 R j), .tup (T2 R j)]) := by simp
  have k1 := l1_bent (word := "") (x1 := some (.int nn)) (x6 := none) (x7 := none) (x8 := none) (h0 _) (e0 _) hj2 (by omega) g1 (by simp)
  rw [set_last] at k1
  have g2 : (M ++ [MO.lst ([D.tup (T1 R j), .tup (T2 R j)] ++ [D.tup (T3 R j (oneD b ""))])])[M.length]? = some (.lst ([D.tup (T1 R j), .tup (T2 R j)] ++ [D.tup (T3 R j (oneD b ""))])) := by simp
  have k2 := l1_bent (word := "abcdefghijklm") (x1 := some (.int nn)) (x6 := some (oneD b "")) (x7 := none) (x8 := none) (h0 _) (e0 _) hj2 (by omega) g2 (by simp)
  rw [set_last] at k2
  have hF : [D.tup (T1 R j), .tup (T2 R j)] ++ [D.tup (T3 R j (oneD b ""))] ++ [D.tup (T3 R j (oneD b "abcdefghijklm"))] = fourD b R j := rfl
  rw [hF] at k2
  have lp : forL anyM (gSlot 5) l1__law_bent [.str "", .str "abcdefghijklm"] [some P, some (.int nn), some (.int (j : Nat)), some (.tup R), some (.obj M.length), none, none, none, none] (M ++ [MO.lst [D.tup (T1 R j), .tup (T2 R j)]]) = .nx [some P, some (.int nn), some (.int (j : Nat)), some (.tup R), some (.obj M.length), some (.str "abcdefghijklm"), some (oneD b "abcdefghijklm"), none, none] (M ++ [.lst (fourD b R j)]) := by
    rw [forL_consA, gSlot_ev, forK1_ok]
    simp only [List.set_cons_succ, List.set_cons_zero]
    rw [k1, forK2_nx, forL_consA, gSlot_ev, forK1_ok]
    simp only [List.set_cons_succ, List.set_cons_zero]
    rw [k2, forK2_nx, forL_nilA]
  have la : lstAK (.ok [D.tup (T1 R j), .tup (T2 R j)] M) = .ok (.obj M.length) (M ++ [.lst [D.tup (T1 R j), .tup (T2 R j)]]) := lstAK_ok (by simp)
  have hb2 : f__law_bent [P, .int nn] M = runK (b__law_bent [some P, some (.int nn), none, none, none, none, none, none, none] M) := rfl
  rw [hb2, hb]
  generalize hN : M ++ [MO.lst [D.tup (T1 R j), .tup (T2 R j)]] = N at *
  generalize ((R.length : Nat) : Int) = LL at *
  generalize ((j : Nat) : Int) = J at *
  generalize T1 R j = A1 at *
  generalize T2 R j = A2 at *
  simp [-dItL_ev, dItL_K, -fLen_tup, -lstAK_ok, -List.append_assoc, h1, ln, fm, s1, s2, s3, c1, c2, c3, c4, la, lp]
theorem four_len {b : Bool} {R : List D} {j : Nat} (hj : j < R.length) : ∀ t ∈ four b R j, t.length ≤ R.length + R.length + R.length + 1 := fun t ht => by
  have cl := cut_len R (some (j : Int)) (some ((j : Int) + 1))
  unfold four at ht
  simp only [List.mem_cons, List.mem_nil_iff, or_false] at ht
  rcases ht with rfl | rfl | rfl | rfl
  · unfold T1; rw [List.length_append, List.length_append, List.length_take, List.length_drop]; omega
  · unfold T2; rw [List.length_append, List.length_append, List.length_take, List.length_drop]; omega
  · unfold T3; rw [List.length_append, List.length_append, List.length_take, List.length_drop]; simp; omega
  · unfold T3; rw [List.length_append, List.length_append, List.length_take, List.length_drop]; simp; omega
theorem four_mem {b : Bool} {R : List D} {j n w : Nat} (hR : ∀ x ∈ R, Ns n w x) (ho : Ns n w (oneD b "") ∧ Ns n w (oneD b "abcdefghijklm")) : ∀ t ∈ four b R j, ∀ x ∈ t, Ns n w x := fun t ht x hx => by
  unfold four at ht
  simp only [List.mem_cons, List.mem_nil_iff, or_false] at ht
  rcases ht with rfl | rfl | rfl | rfl
  · unfold T1 at hx
    rcases List.mem_append.mp hx with hx | hx
    · rcases List.mem_append.mp hx with hx | hx
      · exact hR x (List.mem_of_mem_take hx)
      · exact hR x (cut_mem hx)
    · exact hR x (List.mem_of_mem_drop hx)
  · unfold T2 at hx
    rcases List.mem_append.mp hx with hx | hx
    · rcases List.mem_append.mp hx with hx | hx
      · exact hR x (List.mem_of_mem_take hx)
      · exact hR x (List.mem_of_mem_drop hx)
    · exact hR x (cut_mem hx)
  · unfold T3 at hx
    rcases List.mem_append.mp hx with hx | hx
    · rcases List.mem_append.mp hx with hx | hx
      · exact hR x (List.mem_of_mem_take hx)
      · rw [List.mem_singleton.mp hx]; exact ho.1
    · exact hR x (List.mem_of_mem_drop hx)
  · unfold T3 at hx
    rcases List.mem_append.mp hx with hx | hx
    · rcases List.mem_append.mp hx with hx | hx
      · exact hR x (List.mem_of_mem_take hx)
      · rw [List.mem_singleton.mp hx]; exact ho.2
    · exact hR x (List.mem_of_mem_drop hx)
/-- the leaf's -/
theorem bent_leaf {M : Mem} {R : List D} {nn : Int} (n0 : 0 ≤ nn) (hR : R ≠ []) (hl : R.length ≤ 63) (hr : ∀ x ∈ R, Ns 2 300 x) :
    ∃ ts X, f__law_bent [.tup [.str "leaf", .tup R], .int nn] M = .ok (.lst ts) (M ++ X) ∧ (∀ t ∈ ts, Nc 9 t) ∧ ts.length ≤ 10 := by
  obtain ⟨j, hj, h⟩ := bent_A (M := M) (P := .tup [.str "leaf", .tup R]) (w := "leaf") (b := false) n0 hR hl (fun _ => fIx_tup0) (fun _ => fIx_tup1) (fun _ => lit_eq so_leaf so_fork bq_leaf_fork)
  have h := h _ (fun r N => rfl)
  have hq : (M ++ [MO.lst (fourD false R j)])[M.length]? = some (.lst (fourD false R j)) := by simp
  have e1 : ∀ N, fEq (.str "leaf") (.str "leaf") N = .ok (.bl true) N := fun N => lit_eq so_leaf so_leaf bq_leaf_leaf
  have k := compL_same (chk := fun M => isAt M (List.length M) (.lst (fourD false R j))) (M := M ++ [MO.lst (fourD false R j)]) (t := dYes) (de := c2__law_bent) (r := [some (.tup [.str "leaf", .tup R]), some (.int nn), some (.int (j : Nat)), some (.tup R), some (.obj M.length), some (.str "abcdefghijklm"), some (oneD false "abcdefghijklm"), none, none]) (dg := gSlot 8) (f := D.tup) (g := fun t => .tup [.str "leaf", .tup t])
  refine ⟨(four false R j).map fun t => .tup [.str "leaf", .tup t], [.lst (fourD false R j)], ?_, ?_, by simp [four]⟩
  · have k := compL_same (chk := fun N => isAt N M.length (.lst (fourD false R j))) (M := M ++ [MO.lst (fourD false R j)]) (t := dYes) (de := c2__law_bent) (r := [some (.tup [.str "leaf", .tup R]), some (.int nn), some (.int (j : Nat)), some (.tup R), some (.obj M.length), some (.str "abcdefghijklm"), some (oneD false "abcdefghijklm"), none, none]) (dg := gSlot 8) (f := D.tup) (g := fun t => .tup [.str "leaf", .tup t]) (isAt_of hq) (four false R j) [] (fun t ht => ⟨_, rfl, rfl, by simp [c2__law_bent]⟩) (by simp [four])
    rw [List.nil_append] at k
    have il := itLK_obj hq
    rw [h]
    generalize hN : M ++ [MO.lst (fourD false R j)] = N at *
    have k : compL (fun N => isAt N M.length (.lst (fourD false R j))) (gSlot 8) dYes c2__law_bent [some (.tup [.str "leaf", .tup R]), some (.int nn), some (.int (j : Nat)), some (.tup R), some (.obj M.length), some (.str "abcdefghijklm"), some (oneD false "abcdefghijklm"), none, none] (fourD false R j) [] N = .ok ((four false R j).map fun t => .tup [.str "leaf", .tup t]) N := k
    generalize ((four false R j).map fun t => D.tup [.str "leaf", .tup t]) = RES at *
    generalize fourD false R j = FD at *
    simp [-dItL_ev, dItL_K, e1, il, k]
  · intro t ht
    obtain ⟨s, hs, rfl⟩ := List.mem_map.mp ht
    have hm := four_mem (b := false) (j := j) hr ⟨⟨by decide +kernel, by decide +kernel, by decide +kernel⟩, ⟨by decide +kernel, by decide +kernel, by decide +kernel⟩⟩ s hs
    have hl := four_len (b := false) hj s hs
    have t := tup_ns hm
    have t := t.up (m := 3) (v := 57190) (by omega) (Nat.le_trans (Nat.mul_le_mul_right 301 (show s.length ≤ 190 by omega)) (by decide))
    exact ((leaf_ns t).nc (by omega) (by omega)) |> fun z => ⟨lay_le z.lay (by omega), z.wt, by omega⟩
/-- the fork's -/
theorem bent_fork {M : Mem} {R : List D} {ks : List Int} {nn : Int} (n0 : 0 ≤ nn) (hR : R ≠ []) (hl : R.length ≤ 63) (hr : ∀ x ∈ R, Ns 0 13 x) (hk : ∀ r ∈ ks, 0 ≤ r ∧ r ≤ 4095) (kl : ks.length ≤ 64) (k0 : 1 ≤ ks.length) :
    ∃ ts X, f__law_bent [.tup [.str "fork", .tup R, .tup (ks.map .int)], .int nn] M = .ok (.lst ts) (M ++ X) ∧ (∀ t ∈ ts, Nc 9 t) ∧ ts.length ≤ 10 := by
  obtain ⟨j, hj, h⟩ := bent_A (M := M) (P := .tup [.str "fork", .tup R, .tup (ks.map .int)]) (w := "fork") (b := true) n0 hR hl (fun _ => fIx_tup0) (fun _ => fIx_tup1) (fun _ => lit_eq so_fork so_fork bq_fork_fork)
  have h := h _ (fun r N => rfl)
  have hq : (M ++ [MO.lst (fourD true R j)])[M.length]? = some (.lst (fourD true R j)) := by simp
  have e1 : ∀ N, fEq (.str "fork") (.str "leaf") N = .ok (.bl false) N := fun N => lit_eq so_fork so_leaf bq_fork_leaf
  have i2 : ∀ N, fIx (.tup [.str "fork", .tup R, .tup (ks.map .int)]) (.int 2) N = .ok (.tup (ks.map .int)) N := fun N => fIx_tup (L2.atI_nat (j := 2) rfl)
  have c7 : ∀ N, fCat false (.tup (ks.map .int)) (.tup [.int 7]) N = .ok (.tup (ks.map .int ++ [.int 7])) N := fun N => fCat_tup (by simp; omega)
  have e7 : ks.map D.int ++ [.int 7] = (ks ++ [7]).map .int := by simp
  have c0 : ∀ N, fCat false (.tup [.int 0]) (.tup ((ks.map D.int).drop 1)) N = .ok (.tup ([.int 0] ++ (ks.map D.int).drop 1)) N := fun N => fCat_tup (by simp; omega)
  have d1 : cutN (ks.map D.int) (some 1) none = (ks.map D.int).drop 1 := cutN_from (k := 1) (by simp; omega)
  have cm : ∀ (lo hi : Option Int), ∃ zs : List Int, cutN (ks.map D.int ++ [.int 7]) lo hi = zs.map .int ∧ (∀ r ∈ zs, 0 ≤ r ∧ r ≤ 4095) ∧ zs.length ≤ 65 := fun lo hi => by
    have a := cut_len (ks ++ [7]) lo hi
    refine ⟨cutN (ks ++ [7]) lo hi, ?_, fun r hr => ?_, by simp at a; omega⟩
    · rw [e7]; unfold cutN; rw [← List.map_drop, ← List.map_take, List.length_map]
    · rcases List.mem_append.mp (cut_mem hr) with q | q
      · exact hk r q
      · rw [List.mem_singleton.mp q]; omega
  have key : ∀ ts : List D, ts = ((four true R j).map fun t => .tup [.str "fork", .tup t, .tup (cutN (ks.map D.int ++ [.int 7]) none (some ((t.length : Int) + 1)))]) ++ [.tup [.str "fork", .tup R, .tup (ks.map D.int ++ [.int 7])], .tup [.str "fork", .tup R, .tup ((ks.map D.int).drop 1)], .tup [.str "fork", .tup R, .tup ([.int 0] ++ (ks.map D.int).drop 1)]] → (∀ t ∈ ts, Nc 9 t) ∧ ts.length ≤ 10 := by
    intro ts e
    subst e
    refine ⟨fun t ht => ?_, by simp [four]⟩
    have fin : ∀ (s : List D) (zs : List Int), (∀ x ∈ s, Ns 0 13 x) → s.length ≤ 190 → (∀ r ∈ zs, 0 ≤ r ∧ r ≤ 4095) → zs.length ≤ 65 → Nc 9 (.tup [.str "fork", .tup s, .tup (zs.map .int)]) := fun s zs h1 h2 h3 h4 => by
      have a := (tup_ns h1).up (m := 1) (v := 2660) (by omega) (Nat.le_trans (Nat.mul_le_mul_right 14 h2) (by decide))
      have b := kids_ns h3 (by omega)
      have z := (fork_ns a b).nc (by omega) (by omega)
      exact ⟨lay_le z.lay (by omega), z.wt, by omega⟩
    rcases List.mem_append.mp ht with ht | ht
    · obtain ⟨s, hs, rfl⟩ := List.mem_map.mp ht
      have hm := four_mem (b := true) (j := j) hr ⟨⟨by decide +kernel, by decide +kernel, by decide +kernel⟩, ⟨by decide +kernel, by decide +kernel, by decide +kernel⟩⟩ s hs
      have hl := four_len (b := true) hj s hs
      obtain ⟨zs, z1, z2, z3⟩ := cm none (some ((s.length : Int) + 1))
      rw [z1]
      exact fin s zs hm (by omega) z2 z3
    · simp only [List.mem_cons, List.mem_nil_iff, or_false] at ht
      have dk : ∀ r ∈ ks.drop 1, 0 ≤ r ∧ r ≤ 4095 := fun r hr => hk r (List.mem_of_mem_drop hr)
      rcases ht with rfl | rfl | rfl
      · rw [e7]
        exact fin R (ks ++ [7]) hr (by omega) (fun r hr => by
          rcases List.mem_append.mp hr with q | q
          · exact hk r q
          · rw [List.mem_singleton.mp q]; omega) (by simp; omega)
      · rw [← List.map_drop]
        exact fin R (ks.drop 1) hr (by omega) dk (by simp; omega)
      · rw [show ([.int 0] ++ (ks.map D.int).drop 1) = (0 :: ks.drop 1).map D.int by simp]
        exact fin R (0 :: ks.drop 1) hr (by omega) (fun r hr => by
          rcases List.mem_cons.mp hr with rfl | q
          · omega
          · exact dk r q) (by simp; omega)
  refine ⟨_, [.lst (fourD true R j)], ?_, (key _ rfl).1, (key _ rfl).2⟩
  have k := compL_same (chk := fun N => isAt N M.length (.lst (fourD true R j))) (M := M ++ [MO.lst (fourD true R j)]) (t := dYes) (de := c3__law_bent) (r := [some (.tup [.str "fork", .tup R, .tup (ks.map .int)]), some (.int nn), some (.int (j : Nat)), some (.tup R), some (.obj M.length), some (.str "abcdefghijklm"), some (oneD true "abcdefghijklm"), none, none]) (dg := gSlot 8) (f := D.tup) (g := fun t => .tup [.str "fork", .tup t, .tup (cutN (ks.map D.int ++ [.int 7]) none (some ((t.length : Int) + 1)))]) (isAt_of hq) (four true R j) [] (fun t ht => ⟨_, rfl, rfl, by simp [c3__law_bent, i2, c7]⟩) (by simp [four])
  rw [List.nil_append] at k
  have il := itLK_obj hq
  rw [h]
  have k : compL (fun N => isAt N M.length (.lst (fourD true R j))) (gSlot 8) dYes c3__law_bent [some (.tup [.str "fork", .tup R, .tup (ks.map .int)]), some (.int nn), some (.int (j : Nat)), some (.tup R), some (.obj M.length), some (.str "abcdefghijklm"), some (oneD true "abcdefghijklm"), none, none] (fourD true R j) [] (M ++ [MO.lst (fourD true R j)]) = .ok ((four true R j).map fun t => .tup [.str "fork", .tup t, .tup (cutN (ks.map D.int ++ [.int 7]) none (some ((t.length : Int) + 1)))]) (M ++ [MO.lst (fourD true R j)]) := k
  have fc := fCatL_lst (M := M ++ [MO.lst (fourD true R j)]) (ds := (four true R j).map fun t => .tup [.str "fork", .tup t, .tup (cutN (ks.map D.int ++ [.int 7]) none (some ((t.length : Int) + 1)))]) (es := [.tup [.str "fork", .tup R, .tup (ks.map D.int ++ [.int 7])], .tup [.str "fork", .tup R, .tup ((ks.map D.int).drop 1)], .tup [.str "fork", .tup R, .tup ([.int 0] ++ (ks.map D.int).drop 1)]]) (by simp [four])
  generalize ((four true R j).map fun t => D.tup [.str "fork", .tup t, .tup (cutN (ks.map D.int ++ [.int 7]) none (some ((t.length : Int) + 1)))]) = RES at *
  generalize [D.int 0] ++ (ks.map D.int).drop 1 = Z0 at *
  generalize (ks.map D.int).drop 1 = Z1 at *
  generalize ks.map D.int ++ [D.int 7] = Z7 at *
  generalize M ++ [MO.lst (fourD true R j)] = N at *
  generalize fourD true R j = FD at *
  generalize ks.map D.int = KS at *
  simp [-dItL_ev, dItL_K, -List.append_assoc, e1, il, k, i2, c7, d1, c0, fc]
end K03
set_option Elab.async false
set_option linter.all false
set_option maxRecDepth 100000
set_option maxHeartbeats 4000000
namespace K03
open PySem PySem.Spec PyProof.Rows L2 LF
def K0 (m : Nat) : List (List Nat) := (List.range m).map fun i : Nat => digL 2 (i : Int)
theorem K0_len (m : Nat) : (K0 m).length = m := by simp [K0]
theorem K0_nd : ∀ m, m = 63 ∨ m = 64 → (K0 m).Nodup ∧ (K0 m).all (fun k => k.all okc && Nat.beq k.length 2) = true := by
  rintro m (rfl | rfl) <;> decide +kernel
theorem keys_ok {m : Nat} (hm : m = 63 ∨ m = 64) : ∃ ss : List (List Nat), sortS ((K0 m).map tx) = ss.map tx ∧ ss.length = m ∧ (∀ k ∈ ss, KeyOk k) ∧ ss.Pairwise (· < ·) := by
  obtain ⟨nd, al⟩ := K0_nd m hm
  obtain ⟨ss, e, pm, pw⟩ := sort_lt nd
  refine ⟨ss, e, by rw [pm.length_eq, K0_len], fun k hk => ?_, pw⟩
  have := List.all_eq_true.mp al k (pm.mem_iff.mp hk)
  obtain ⟨a, b⟩ := Bool.and_eq_true_iff.mp this
  have b := Nat.eq_of_beq_eq_true b
  exact ⟨List.all_eq_true.mp a, by omega, by omega⟩
theorem rising_pw {ss : List (List Nat)} (hk : ∀ k ∈ ss, KeyOk k) (pw : ss.Pairwise (· < ·)) (hl : ss.length ≤ 63) : Rising ss := by
  refine ⟨hl, hk, fun i a b ha hb => ?_⟩
  obtain ⟨h1, e1⟩ := List.getElem?_eq_some_iff.mp ha
  obtain ⟨h2, e2⟩ := List.getElem?_eq_some_iff.mp hb
  rw [← e1, ← e2]
  exact List.pairwise_iff_getElem.mp pw i (i + 1) h1 h2 (by omega)
theorem sort_ev {m : Nat} {n : Int} {M : Mem} {x1 x2 x3 x4 x5 x7 x8 : Option D} (hm : m ≤ 100) {ss : List (List Nat)} (e : sortS ((K0 m).map tx) = ss.map tx) (hl : ss.length = m) :
    compL anyM (gSlot 6) dYes c1__law_many_rows [some (.int n), x1, x2, x3, x4, x5, none, x7, x8] (irng 0 m) [] M = .ok ((K0 m).map keyD) M ∧ fSortTL false [.lst ((K0 m).map keyD)] M = .ok (.lst (ss.map keyD)) M := by
  constructor
  · have e : irng 0 m = (List.range m).map fun i : Nat => .int (i : Int) := by
      unfold irng
      exact List.map_congr_left fun i _ => by simp
    have k := compL_img (t := dYes) (de := c1__law_many_rows) (r := [some (.int n), x1, x2, x3, x4, x5, none, x7, x8]) (M := M) (dg := gSlot 6) (f := fun i : Nat => .int (i : Int)) (g := fun i => keyD (digL 2 (i : Int))) (List.range m) [] (fun i hi => ⟨_, rfl, rfl, by simp [c1__law_many_rows, ld2, keyD]⟩) (by simp; omega)
    rw [List.nil_append] at k
    rw [e, k]
    unfold K0
    rw [List.map_map]; rfl
  · have s : strsOf ((K0 m).map keyD) = some ((K0 m).map tx) := strs_map tx (K0 m)
    rw [fSortTL_of s (by simp [K0]; omega), e, List.map_map]
    exact newL_f (by rw [List.length_map]; omega)
def cellN (n : Int) : Cell := if n / 3 % 2 = 0 then .inn [] else .out (1 + n / 2 % 400) 7
theorem cellN_ok (n : Int) : CellOk (cellN n) := by
  unfold cellN
  split
  · exact ⟨fun c hc => by simp at hc, by simp⟩
  · exact ⟨⟨by omega, by omega⟩, by decide, by decide⟩
theorem cellN_ix (n : Int) (M : Mem) : fIx (.lst [.tup [.str "in", .str ""], .tup [.str "out", .int (1 + n / 2 % 400), .int 7]]) (.int (n / 3 % 2)) M = .ok (cellN n).toD M := by
  unfold cellN
  by_cases h : n / 3 % 2 = 0
  · rw [if_pos h, h]
    exact fIx_lst (L2.atI_nat (j := 0) rfl)
  · have h : n / 3 % 2 = 1 := by omega
    rw [if_neg (by omega), h]
    exact fIx_lst (L2.atI_nat (j := 1) rfl)
theorem rows_ev {n : Int} {M : Mem} {ss : List (List Nat)} {x1 x2 x3 x4 x5 x6 x8 : Option D} (hl : ss.length ≤ 100) :
    compL anyM (gSlot 7) dYes c2__law_many_rows [some (.int n), x1, x2, x3, x4, x5, x6, none, x8] (ss.map keyD) [] M = .ok (ss.map fun k => rowD (k, cellN n)) M := by
  have k := compL_img (t := dYes) (de := c2__law_many_rows) (r := [some (.int n), x1, x2, x3, x4, x5, x6, none, x8]) (M := M) (dg := gSlot 7) (f := keyD) (g := fun k => rowD (k, cellN n)) ss [] (fun i hi => ⟨_, rfl, rfl, by
    have ci := cellN_ix n M
    simp [c2__law_many_rows, ci, keyD, rowD]⟩) (by simp; omega)
  rw [List.nil_append] at k
  exact k
def dueD (o : Bool) : D := bif o then .lst [.str "page", .str "page", .str "page"] else .lst [.str "", .str "", .str "page"]
theorem due_lay (o : Bool) : D.lay 64 (dueD o) = true := by cases o <;> decide +kernel
theorem l4_turn {n : Int} {M M1 M2 M3 M4 M5 : Mem} {T : D} {o : Bool} {x1 x2 x4 x5 x6 x7 x8 : Option D} {s0 s1 s2 : Str} (ho : decide (n % 2 = 1) = o) (i1 : f_is_page [T] M = .ok (.bl (!o)) M1) (i2 : f_is_page [T] M1 = .ok (.bl (!o)) M2) (r0 : f__law_refused [.int 0, T, .int 200] M2 = .ok (.str s0) M3) (r1 : f__law_refused [.int 1, T, .int 200] M3 = .ok (.str s1) M4) (r2 : f__law_refused [.int 2, T, .int 200] M4 = .ok (.str s2) M5) (hs : D.lst [.str s0, .str s1, .str s2] = dueD o) :
    l4__law_many_rows [some (.int n), x1, x2, some T, x4, x5, x6, x7, x8] M = .nx [some (.int n), x1, x2, some T, some (dueD o), x5, x6, x7, x8] M5 := by
  have hz : decide (n % 2 = 0) = !o := by
    rw [← ho]
    by_cases h : n % 2 = 0
    · rw [decide_eq_true h, decide_eq_false (by omega)]; rfl
    · rw [decide_eq_false h, decide_eq_true (by omega)]; rfl
  have ne : fNe (.bl (!o)) (.bl (!o)) M2 = .ok (.bl false) M2 := fNe_same rfl
  have ne2 : fNe (.lst [.str s0, .str s1, .str s2]) (dueD o) M5 = .ok (.bl false) M5 := by
    rw [hs]; exact fNe_same (due_lay o)
  have il : itR1K (.ok (.int 3) M2) = .ok ⟨[.int 0, .int 1, .int 2], anyM⟩ M2 := rfl
  have e1 : fEq (.int (n % 2)) (.int 1) M2 = .ok (.bl o) M2 := by rw [fEq_int, ho]
  have e0 : fEq (.int (n % 2)) (.int 0) M2 = .ok (.bl (!o)) M2 := by rw [fEq_int, hz]
  have du : ∀ r : Env', (ifEK (.ok o M2) (dLst (dCons (dC (.str "page")) (dCons (dC (.str "page")) (dCons (dC (.str "page")) dNil)))) (dLst (dCons (dC (.str "")) (dCons (dC (.str "")) (dCons (dC (.str "page")) dNil)))) r : Out D) = .ok (dueD o) M2 := fun r => by
    cases o <;> simp [dueD]
  generalize dueD o = DU at *
  have md : ∀ M : Mem, fMod (.int n) (.int 2) M = .ok (.int (n % 2)) M := fun M => fMod_int (by decide)
  generalize n % 2 = z at *
  simp [-itR1K_ok, -fEq_int, l4__law_many_rows, i1, i2, md, e0, e1, ne, du, il, c3__law_many_rows, r0, r1, r2, ne2]
theorem body_leaf2 {rows : List Row} (h : ∀ r ∈ rows, 2 ≤ r.1.length) : 1 + 5 * rows.length ≤ (bodyL (.leaf rows)).length := by
  have : ∀ rows : List Row, (∀ r ∈ rows, 2 ≤ r.1.length) → 5 * rows.length ≤ (rows.map rowB).flatten.length := by
    intro rows
    induction rows with
    | nil => simp
    | cons r rows ih =>
      intro h
      have ih := ih fun x hx => h x (by simp [hx])
      have h0 := h r (by simp)
      have : 5 ≤ (rowB r).length := by
        unfold rowB keyB cellB
        rw [List.length_append, List.length_append, dig1_len]
        cases r.2 with
        | inn t => simp [dig1_len]; omega
        | out a b => simp [dig2_len]
      simp only [List.map_cons, List.flatten_cons, List.length_append, List.length_cons]
      omega
  have := this rows h
  simp only [bodyL, List.length_append, dig1_len]
  omega
theorem flat3 : ∀ ks : List (List Nat), (∀ r ∈ ks, 2 ≤ r.length) → 3 * ks.length ≤ (ks.map keyB).flatten.length := by
  intro ks
  induction ks with
  | nil => simp
  | cons r rows ih =>
    intro h
    have ih := ih fun x hx => h x (by simp [hx])
    have h0 := h r (by simp)
    have : 3 ≤ (keyB r).length := by
      unfold keyB
      rw [List.length_append, dig1_len]
      omega
    simp only [List.map_cons, List.flatten_cons, List.length_append, List.length_cons]
    omega
/-- a good page that is too long for 200 signs -/
theorem good_turn {n : Int} {M : Mem} {p : Pg} {x1 x2 x4 x5 x6 x7 x8 : Option D} (hn : n % 2 = 0) (hp : Good p) (hb : 200 < (bodyL p).length + 5) :
    ∃ X, l4__law_many_rows [some (.int n), x1, x2, some p.toD, x4, x5, x6, x7, x8] M = .nx [some (.int n), x1, x2, some p.toD, some (dueD false), x5, x6, x7, x8] (M ++ X) := by
  have ip : ∀ M : Mem, f_is_page [p.toD] M = .ok (.bl true) (M ++ [p.obj]) := fun M => by simp [f_is_page, b_is_page, runB_ev, made_ok (M := M) hp]
  have r0 := fun M => ref0n (s := .int 200) (body_of_ok (M := M) hp)
  have r1 := fun M => ref1n (s := .int 200) (leads_to_ok (M := M) hp)
  have r2 := fun M => ref2 (page_text_long (M := M) (sz := 200) hp (by decide) (by decide) hb)
  have t := l4_turn (n := n) (M := M) (T := p.toD) (o := false) (x1 := x1) (x2 := x2) (x4 := x4) (x5 := x5) (x6 := x6) (x7 := x7) (x8 := x8) (by rw [decide_eq_false (by omega)]) (ip _) (ip _) (r0 _) (r1 _) (r2 _) rfl
  exact ⟨[p.obj] ++ [p.obj] ++ [p.obj] ++ [p.obj] ++ [lst (leadsL p)] ++ [p.obj], by rw [t]; simp only [List.append_assoc]⟩
theorem bad_turn {n : Int} {M : Mem} {T : D} {m : Nat} {x1 x2 x4 x5 x6 x7 x8 : Option D} (hn : n % 2 = 1) (hT : Nc m T) (hb : pageB T = false) :
    l4__law_many_rows [some (.int n), x1, x2, some T, x4, x5, x6, x7, x8] M = .nx [some (.int n), x1, x2, some T, some (dueD true), x5, x6, x7, x8] M := by
  have ip : ∀ M : Mem, f_is_page [T] M = .ok (.bl false) M := fun M => by simp [f_is_page, b_is_page, runB_ev, made_no (M := M) hT hb]
  obtain ⟨r0, r1, r2⟩ := refused_no (M := M) (.int 200) hT hb
  exact l4_turn (n := n) (M := M) (T := T) (o := true) (by rw [decide_eq_true hn]) (ip _) (ip _) r0 r1 r2 rfl
theorem rise_long {ks : List D} (h : 63 < ks.length) : riseB ks = false := by
  unfold riseB
  rw [decide_eq_true (by omega)]; rfl
theorem turns_ok {n : Int} {M : Mem} {ss : List (List Nat)} {x1 x2 x3 x4 x5 x6 x7 x8 : Option D} (hk : ∀ k ∈ ss, KeyOk k ∧ k.length = 2) (pw : ss.Pairwise (· < ·)) (hl : (ss.length : Int) = 63 + n % 2) :
    ∃ y3 y4 X, forL anyM (gSlot 3) l4__law_many_rows [.tup [.str "leaf", .tup (ss.map fun k => rowD (k, cellN n))], .tup [.str "fork", .tup (ss.map keyD), .tup (List.replicate (ss.length + 1) (.int 5))]] [some (.int n), x1, x2, x3, x4, x5, x6, x7, x8] M = .nx [some (.int n), x1, x2, y3, y4, x5, x6, x7, x8] (M ++ X) := by
  have eL : D.tup [.str "leaf", .tup (ss.map fun k => rowD (k, cellN n))] = (Pg.leaf (ss.map fun k => (k, cellN n))).toD := by
    show _ = D.tup [.str "leaf", .tup ((ss.map fun k => (k, cellN n)).map rowD)]
    rw [List.map_map]; rfl
  have eF : D.tup [.str "fork", .tup (ss.map keyD), .tup (List.replicate (ss.length + 1) (.int 5))] = (Pg.fork ss (List.replicate (ss.length + 1) 5)).toD := by
    show _ = D.tup [.str "fork", .tup (ss.map keyD), .tup ((List.replicate (ss.length + 1) (5 : Int)).map D.int)]
    rw [List.map_replicate]
  by_cases z : n % 2 = 0
  · have l63 : ss.length = 63 := by omega
    have ri := rising_pw (fun k h => (hk k h).1) pw (by omega)
    have gL : Good (.leaf (ss.map fun k => (k, cellN n))) := by
      refine ⟨?_, fun r hr => ?_⟩
      · rw [List.map_map]
        have : (Prod.fst ∘ fun k : List Nat => (k, cellN n)) = id := rfl
        rw [this, List.map_id]
        exact ri
      · obtain ⟨k, hk, rfl⟩ := List.mem_map.mp hr
        exact cellN_ok n
    have gF : Good (.fork ss (List.replicate (ss.length + 1) 5)) := ⟨ri, fun r hr => by rw [List.eq_of_mem_replicate hr]; exact ⟨by decide, by decide⟩, by rw [List.length_replicate]⟩
    have bL := body_leaf2 (rows := ss.map fun k => (k, cellN n)) (fun r hr => by
      obtain ⟨k, h, rfl⟩ := List.mem_map.mp hr
      have := (hk k h).2
      simp only; omega)
    rw [List.length_map] at bL
    have bF2 := flatK_len (List.replicate (ss.length + 1) 5)
    rw [List.length_replicate] at bF2
    have bF3 : (bodyL (.fork ss (List.replicate (ss.length + 1) 5))).length = (digL 1 ss.length ++ (ss.map keyB).flatten).length + ((List.replicate (ss.length + 1) (5 : Int)).map (digL 2)).flatten.length := by
      simp only [bodyL, List.length_append]
      omega
    have bF4 := flat3 ss (fun r hr => by have := (hk r hr).2; omega)
    obtain ⟨X1, t1⟩ := good_turn (M := M) (x1 := x1) (x2 := x2) (x4 := x4) (x5 := x5) (x6 := x6) (x7 := x7) (x8 := x8) z gL (by omega)
    obtain ⟨X2, t2⟩ := good_turn (M := M ++ X1) (x1 := x1) (x2 := x2) (x4 := some (dueD false)) (x5 := x5) (x6 := x6) (x7 := x7) (x8 := x8) z gF (by
      rw [List.length_append, dig1_len] at bF3
      omega)
    refine ⟨some (Pg.fork ss (List.replicate (ss.length + 1) 5)).toD, some (dueD false), X1 ++ X2, ?_⟩
    rw [eL, eF, forL_consA, gSlot_ev, forK1_ok]
    simp only [List.set_cons_succ, List.set_cons_zero]
    rw [t1, forK2_nx, forL_consA, gSlot_ev, forK1_ok]
    simp only [List.set_cons_succ, List.set_cons_zero]
    rw [t2, forK2_nx, forL_nilA, List.append_assoc]
  · have z : n % 2 = 1 := by omega
    have l64 : ss.length = 64 := by omega
    have nL : Nc 9 (.tup [.str "leaf", .tup (ss.map fun k => rowD (k, cellN n))]) := by
      have a := rows_ns (rows := ss.map fun k => (k, cellN n)) (fun r hr => by
        obtain ⟨k, h, rfl⟩ := List.mem_map.mp hr
        exact (hk k h).1) (fun r hr => by
        obtain ⟨k, h, rfl⟩ := List.mem_map.mp hr
        exact cellN_ok n) (by rw [List.length_map]; omega)
      rw [List.map_map] at a
      have b := (leaf_ns a).nc (by omega) (by omega)
      exact ⟨lay_le b.lay (by omega), b.wt, by omega⟩
    have nF : Nc 9 (.tup [.str "fork", .tup (ss.map keyD), .tup (List.replicate (ss.length + 1) (.int 5))]) := by
      have a := keys_ns (fun k h => (hk k h).1) (show ss.length ≤ 66 by omega)
      have b := kids_ns (kids := List.replicate (ss.length + 1) 5) (fun r hr => by rw [List.eq_of_mem_replicate hr]; omega) (by rw [List.length_replicate]; omega)
      rw [List.map_replicate] at b
      have b := (fork_ns a b).nc (by omega) (by omega)
      exact ⟨lay_le b.lay (by omega), b.wt, by omega⟩
    have pL : pageB (.tup [.str "leaf", .tup (ss.map fun k => rowD (k, cellN n))]) = false := by
      show wB _ _ = false
      unfold wB
      rw [if_neg (by rw [bq_leaf_head]; decide), if_neg (by rw [bq_leaf_free]; decide), if_neg (by rw [bq_leaf_rest]; decide), if_neg (by rw [bq_leaf_fork]; decide), bq_leaf_leaf, Bool.true_and]
      show (_ && riseB _) = false
      rw [rise_long (by rw [List.length_map, List.length_map]; omega), Bool.and_false]
    have pF : pageB (.tup [.str "fork", .tup (ss.map keyD), .tup (List.replicate (ss.length + 1) (.int 5))]) = false := by
      show wB _ _ = false
      unfold wB
      rw [if_neg (by rw [bq_fork_head]; decide), if_neg (by rw [bq_fork_free]; decide), if_neg (by rw [bq_fork_rest]; decide), if_pos bq_fork_fork]
      show (riseB _ && _) = false
      rw [rise_long (by rw [List.length_map]; omega), Bool.false_and]
    have t1 := bad_turn (M := M) (x1 := x1) (x2 := x2) (x4 := x4) (x5 := x5) (x6 := x6) (x7 := x7) (x8 := x8) z nL pL
    have t2 := bad_turn (M := M) (x1 := x1) (x2 := x2) (x4 := some (dueD true)) (x5 := x5) (x6 := x6) (x7 := x7) (x8 := x8) z nF pF
    refine ⟨some (.tup [.str "fork", .tup (ss.map keyD), .tup (List.replicate (ss.length + 1) (.int 5))]), some (dueD true), [], ?_⟩
    rw [forL_consA, gSlot_ev, forK1_ok]
    simp only [List.set_cons_succ, List.set_cons_zero]
    rw [t1, forK2_nx, forL_consA, gSlot_ev, forK1_ok]
    simp only [List.set_cons_succ, List.set_cons_zero]
    rw [t2, forK2_nx, forL_nilA, List.append_nil]
end K03
set_option Elab.async false
set_option linter.all false
set_option maxRecDepth 100000
set_option maxHeartbeats 4000000
namespace K03
open PySem PySem.Spec PyProof.Rows L2 LF
theorem long_elt {n : Int} {M : Mem} {p : Pg} {x1 x2 x4 x5 x6 x7 x8 : Option D} (hp : Good p) : c5__law_many_rows [some (.int n), x1, x2, some p.toD, x4, x5, x6, x7, x8] M = .ok (.bl true) (M ++ [p.obj] ++ [p.obj]) := by
  have ip : ∀ M : Mem, f_is_page [p.toD] M = .ok (.bl true) (M ++ [p.obj]) := fun M => by simp [f_is_page, b_is_page, runB_ev, made_ok (M := M) hp]
  have bo := fun M => body_of_ok (M := M) hp
  have lb := fun M => lbody_ok (M := M) hp
  have so : D.lay 64 (.str (tx (bodyL p))) = true := by
    rw [lay_str, strOk_tx, List.all_eq_true]
    intro c hc
    have := bodyL_ok hp c hc
    unfold okc at this
    simp at this ⊢
    omega
  have eq : fEq (.str (tx (bodyL p))) (.str (tx (bodyL p))) (M ++ [p.obj] ++ [p.obj]) = .ok (.bl true) (M ++ [p.obj] ++ [p.obj]) := fEq_same so
  generalize bodyL p = B at *
  generalize p.toD = P at *
  generalize p.obj = O at *
  simp [-List.append_assoc, c5__law_many_rows, ip, bo, lb, eq]
theorem many_A {n : Int} {M N N2 : Mem} {m : Nat} {F5 P1 P2 : D} {Ks Rs Zs Ls F5s : List D} {y3 y4 : Option D} {t63 t400 : Str} (ir : itR1K (.ok (.int (63 + n % 2)) M) = .ok ⟨Ls, anyM⟩ M) (c1 : compL anyM (gSlot 6) dYes c1__law_many_rows [some (.int n), none, none, none, none, none, none, none, none] Ls [] M = .ok Zs M) (so : fSortTL false [.lst Zs] M = .ok (.lst Ks) M)
    (c2 : compL anyM (gSlot 7) dYes c2__law_many_rows [some (.int n), some (.lst Ks), none, none, none, none, none, none, none] Ks [] M = .ok Rs M) (tR : fTupOf [.lst Rs] M = .ok P1 M) (tK : fTupOf [.lst Ks] M = .ok P2 M) (ln : ∀ N : Mem, fLen [.lst Ks] N = .ok (.int (m : Nat)) N) (rp : fRep false (.obj M.length) (.int ((m : Int) + 1)) (M ++ [.lst [.int 5]]) = .ok (.lst F5s) (M ++ [.lst [.int 5]])) (tF : fTupOf [.lst F5s] (M ++ [.lst [.int 5]]) = .ok F5 (M ++ [.lst [.int 5]]))
    (lp : forL anyM (gSlot 3) l4__law_many_rows [.tup [.str "leaf", P1], .tup [.str "fork", P2, F5]] [some (.int n), some (.lst Ks), some (.lst Rs), none, none, none, none, none, none] (M ++ [.lst [.int 5]]) = .nx [some (.int n), some (.lst Ks), some (.lst Rs), y3, y4, none, none, none, none] N)
    (t1 : f__law_text [.int n, .int 63] N = .ok (.str t63) N) (t2 : f__law_text [.int n, .int 400] N = .ok (.str t400) N) (cl : compL anyM (gSlot 3) dYes c5__law_many_rows [some (.int n), some (.lst Ks), some (.lst Rs), none, y4, some (.lst [.tup [.str "leaf", .tup [.tup [.str "a", .tup [.str "in", .str t63]]]], .tup [.str "rest", .str t400, .int (n % 4096)]]), none, none, none] [.tup [.str "leaf", .tup [.tup [.str "a", .tup [.str "in", .str t63]]]], .tup [.str "rest", .str t400, .int (n % 4096)]] [] N = .ok [.bl true, .bl true] N2) :
    f__law_many_rows [.int n] M = .ok (.bl true) N2 := by
  have al : fAll [.lst [.bl true, .bl true]] N2 = .ok (.bl true) N2 := rfl
  have la : lstAK (.ok [.int 5] M) = .ok (.obj M.length) (M ++ [.lst [.int 5]]) := lstAK_ok (by simp)
  have md : ∀ M : Mem, fMod (.int n) (.int 2) M = .ok (.int (n % 2)) M := fun M => fMod_int (by decide)
  have md2 : ∀ M : Mem, fMod (.int n) (.int 4096) M = .ok (.int (n % 4096)) M := fun M => fMod_int (by decide)
  generalize n % 2 = z at *
  generalize n % 4096 = z2 at *
  generalize hm : ((m : Nat) : Int) = mm at *
  unfold f__law_many_rows b__law_many_rows
  rw [runB_ev]
  simp [-dItL_ev, dItL_K, -itR1K_ok, -lstAK_ok, -fLen_lst, -fTupOf_lst, md, md2, ir, c1, so, c2, tR, tK, la, ln, rp, tF, lp, t1, t2, cl, al]
theorem many_ok {n : Int} (M : Mem) (n0 : 0 ≤ n) : ∃ X, f__law_many_rows [.int n] M = .ok (.bl true) (M ++ X) := by
  obtain ⟨m, hm⟩ : ∃ m : Nat, 63 + n % 2 = (m : Nat) := ⟨(63 + n % 2).toNat, by omega⟩
  have hm2 : m = 63 ∨ m = 64 := by omega
  obtain ⟨ss, e, sl, hk, pw⟩ := keys_ok hm2
  have k2 : ∀ k ∈ ss, KeyOk k ∧ k.length = 2 := fun k h => by
    refine ⟨hk k h, ?_⟩
    obtain ⟨nd, al⟩ := K0_nd m hm2
    have mem : tx k ∈ (K0 m).map tx := by
      have pm : (sortS ((K0 m).map tx)).Perm ((K0 m).map tx) := List.mergeSort_perm _ leS
      rw [e] at pm
      exact pm.mem_iff.mp (List.mem_map.mpr ⟨k, h, rfl⟩)
    obtain ⟨k', h', ek⟩ := List.mem_map.mp mem
    have := tx_inj ek
    subst this
    have := List.all_eq_true.mp al k' h'
    exact Nat.eq_of_beq_eq_true (Bool.and_eq_true_iff.mp this).2
  obtain ⟨c1, so⟩ := sort_ev (n := n) (M := M) (x1 := none) (x2 := none) (x3 := none) (x4 := none) (x5 := none) (x7 := none) (x8 := none) (show m ≤ 100 by omega) e sl
  have c2 := rows_ev (n := n) (M := M) (ss := ss) (x1 := some (.lst (ss.map keyD))) (x2 := none) (x3 := none) (x4 := none) (x5 := none) (x6 := none) (x8 := none) (by omega)
  obtain ⟨y3, y4, X, lp⟩ := turns_ok (n := n) (M := M ++ [.lst [.int 5]]) (x1 := some (.lst (ss.map keyD))) (x2 := some (.lst (ss.map fun k => rowD (k, cellN n)))) (x3 := none) (x4 := none) (x5 := none) (x6 := none) (x7 := none) (x8 := none) k2 pw (by omega)
  obtain ⟨l1, a1, b1, t1⟩ := ltext n 63 (M ++ [MO.lst [.int 5]] ++ X) (by decide) (by decide)
  obtain ⟨l2, a2, b2, t2⟩ := ltext n 400 (M ++ [MO.lst [.int 5]] ++ X) (by decide) (by decide)
  have a1 : l1.length = 63 := a1
  have a2 : l2.length = 400 := a2
  have g1 : Good (.leaf [([97], .inn l1)]) := by
    refine ⟨⟨by simp, fun k h => ?_, fun i a b ha hb => ?_⟩, fun r hr => ?_⟩
    · simp at h
      subst h
      exact ⟨fun c hc => by simp at hc; subst hc; rfl, by simp, by simp⟩
    · simp at hb
    · simp at hr
      subst hr
      exact ⟨al_txt b1, by omega⟩
  have g2 : Good (.rest l2 (n % 4096)) := ⟨al_txt b2, by omega, by omega, by omega, by omega⟩
  have ea : Str.ofString "a" = tx [97] := by rw [tx_lit]; rfl
  have e1 : D.tup [.str "leaf", .tup [.tup [.str "a", .tup [.str "in", .str (tx l1)]]]] = (Pg.leaf [([97], .inn l1)]).toD := by rw [ea]; rfl
  have e2 : D.tup [.str "rest", .str (tx l2), .int (n % 4096)] = (Pg.rest l2 (n % 4096)).toD := rfl
  refine ⟨[.lst [.int 5]] ++ X ++ [(Pg.leaf [([97], .inn l1)]).obj] ++ [(Pg.leaf [([97], .inn l1)]).obj] ++ [(Pg.rest l2 (n % 4096)).obj] ++ [(Pg.rest l2 (n % 4096)).obj], ?_⟩
  have cl : compL anyM (gSlot 3) dYes c5__law_many_rows [some (.int n), some (.lst (ss.map keyD)), some (.lst (ss.map fun k => rowD (k, cellN n))), none, y4, some (.lst [.tup [.str "leaf", .tup [.tup [.str "a", .tup [.str "in", .str (tx l1)]]]], .tup [.str "rest", .str (tx l2), .int (n % 4096)]]), none, none, none] [.tup [.str "leaf", .tup [.tup [.str "a", .tup [.str "in", .str (tx l1)]]]], .tup [.str "rest", .str (tx l2), .int (n % 4096)]] [] (M ++ [MO.lst [.int 5]] ++ X) = .ok [.bl true, .bl true] (M ++ [MO.lst [.int 5]] ++ X ++ [(Pg.leaf [([97], .inn l1)]).obj] ++ [(Pg.leaf [([97], .inn l1)]).obj] ++ [(Pg.rest l2 (n % 4096)).obj] ++ [(Pg.rest l2 (n % 4096)).obj]) := by
    rw [e1, e2, compL_consA, gSlot_ev, cmpK1_ok, dYes_ev, cmpK2_t]
    simp only [List.set_cons_succ, List.set_cons_zero]
    rw [long_elt g1, cmpK3_ok (by simp), compL_consA, gSlot_ev, cmpK1_ok, dYes_ev, cmpK2_t]
    simp only [List.set_cons_succ, List.set_cons_zero]
    rw [long_elt g2, cmpK3_ok (by simp), compL_nilA]
    rfl
  have fin := many_A (n := n) (M := M) (m := m) (Ls := irng 0 m) (Zs := (K0 m).map keyD) (Ks := ss.map keyD) (Rs := ss.map fun k => rowD (k, cellN n)) (F5s := List.replicate (m + 1) (.int 5)) (by
      rw [hm]
      exact (itR1K_ok (by omega) (by omega)).trans (by rw [Int.toNat_natCast])) c1 so c2 (fTupOf_lst (by simp; omega)) (fTupOf_lst (by simp; omega)) (fun N => by rw [fLen_lst, List.length_map, sl]) (by
      rw [fRep_obj (ds := [.int 5]) (by simp) (by omega) (by omega)]
      rw [show ((m : Int) + 1).toNat = m + 1 by omega]
      have : (List.replicate (m + 1) [D.int 5]).flatten = List.replicate (m + 1) (.int 5) := by
        have : ∀ k : Nat, (List.replicate k [D.int 5]).flatten = List.replicate k (.int 5) := by
          intro k
          induction k with
          | zero => rfl
          | succ k ih => rw [List.replicate_succ, List.flatten_cons, ih]; rfl
        exact this _
      rw [this]
      exact newL_f (by simp; omega)) (fTupOf_lst (by simp; omega)) (by rw [← sl]; exact lp) t1 t2 cl
  rw [fin]
  simp only [List.append_assoc]
end K03
set_option Elab.async false
set_option linter.all false
set_option maxRecDepth 100000
set_option maxHeartbeats 4000000
namespace K03
open PySem PySem.Spec PyProof.Rows L2 LF
theorem seq_run {a b : DS} {r r1 : Env'} {M M1 : Mem} {o : Out D} (h : a r M = .nx r1 M1) (k : runK (b r1 M1) = o) : runK (dSeq a b r M) = o := by rw [dSeq_ev, h]; exact k
theorem At.grow {ns : List Int} {k : Int} {M N : Mem} (h : At ns k M) : At ns k (M ++ N) := h.app
/-- looks at things, one by one -/
theorem l1_loop {x0 x1 x2 x3 x5 x6 x7 x8 x9 x10 x11 : Option D} : ∀ (ts : List D) (M : Mem) (x4 : Option D), (∀ t ∈ ts, Nc 9 t) → ∃ y4 X, forL anyM (gSlot 4) l1_law ts [x0, x1, x2, x3, x4, x5, x6, x7, x8, x9, x10, x11] M = .nx [x0, x1, x2, x3, y4, x5, x6, x7, x8, x9, x10, x11] (M ++ X)
  | [], M, x4, _ => ⟨x4, [], by rw [forL_nilA, List.append_nil]⟩
  | t :: ts, M, x4, h => by
    obtain ⟨X, e⟩ := looks_ok M (.int 64) (h t (by simp))
    obtain ⟨y4, Y, ih⟩ := l1_loop (x0 := x0) (x1 := x1) (x2 := x2) (x3 := x3) (x5 := x5) (x6 := x6) (x7 := x7) (x8 := x8) (x9 := x9) (x10 := x10) (x11 := x11) ts (M ++ X) (some t) fun s hs => h s (by simp [hs])
    refine ⟨y4, X ++ Y, ?_⟩
    rw [forL_consA, gSlot_ev, forK1_ok]
    simp only [List.set_cons_succ, List.set_cons_zero]
    have st : l1_law [x0, x1, x2, x3, some t, x5, x6, x7, x8, x9, x10, x11] M = .nx [x0, x1, x2, x3, some t, x5, x6, x7, x8, x9, x10, x11] (M ++ X) := by simp [l1_law, e]
    rw [st, forK2_nx, ih, List.append_assoc]
theorem c2_comp {x0 x1 x2 x3 x4 x5 x6 x7 x8 x9 x11 : Option D} {sz : D} (h6 : x6 = some sz) : ∀ (ts acc : List D) (M : Mem), (∀ t ∈ ts, Nc 9 t) → acc.length + ts.length ≤ 1000 → ∃ X, compL anyM (gSlot 10) dYes c2_law [x0, x1, x2, x3, x4, x5, x6, x7, x8, x9, none, x11] ts acc M = .ok (acc ++ ts.map fun _ => .bl true) (M ++ X)
  | [], acc, M, _, _ => ⟨[], by simp⟩
  | t :: ts, acc, M, h, hl => by
    subst h6
    rw [List.length_cons] at hl
    obtain ⟨X, e⟩ := looks_ok M sz (h t (by simp))
    obtain ⟨Y, ih⟩ := c2_comp (x0 := x0) (x1 := x1) (x2 := x2) (x3 := x3) (x4 := x4) (x5 := x5) (x7 := x7) (x8 := x8) (x9 := x9) (x11 := x11) (sz := sz) rfl ts (acc ++ [.bl true]) (M ++ X) (fun s hs => h s (by simp [hs])) (by simp; omega)
    refine ⟨X ++ Y, ?_⟩
    rw [compL_consA, gSlot_ev, cmpK1_ok, dYes_ev, cmpK2_t]
    simp only [List.set_cons_succ, List.set_cons_zero]
    have st : c2_law [x0, x1, x2, x3, x4, x5, some sz, x7, x8, x9, some t, x11] M = .ok (.bl true) (M ++ X) := by simp [c2_law, e]
    rw [st, cmpK3_ok (by omega), ih]
    simp
theorem bad_sz {nn : Int} (n0 : 0 ≤ nn) : ∃ d, (∀ M, fIx (.lst [.int 63, .int 201, .non, .str "64", .bl true, .int (-5), .int (201 + nn)]) (.int (nn / 9 % 7)) M = .ok d M) ∧ Nc 9 d ∧ numB 64 200 d = false := by
  have h : ∀ j : Nat, j < 7 → ∃ d, [D.int 63, .int 201, .non, .str "64", .bl true, .int (-5), .int (201 + nn)][j]? = some d ∧ Nc 9 d ∧ numB 64 200 d = false := fun j hj => by
    have i : ∀ i : Int, (i < 64 ∨ 200 < i) → Nc 9 (.int i) ∧ numB 64 200 (.int i) = false := fun i hi => by
      refine ⟨⟨rfl, by simp [D.wt], by omega⟩, ?_⟩
      show (decide (64 ≤ i) && decide (i ≤ 200)) = false
      rcases hi with h | h
      · rw [decide_eq_false (by omega)]; rfl
      · rw [decide_eq_false (show ¬ i ≤ 200 by omega), Bool.and_false]
    match j, hj with
    | 0, _ => exact ⟨_, rfl, i 63 (by omega)⟩
    | 1, _ => exact ⟨_, rfl, i 201 (by omega)⟩
    | 2, _ => exact ⟨_, rfl, ⟨rfl, by simp [D.wt], by omega⟩, rfl⟩
    | 3, _ => exact ⟨_, rfl, ⟨by decide +kernel, by decide +kernel, by omega⟩, rfl⟩
    | 4, _ => exact ⟨_, rfl, ⟨rfl, by simp [D.wt], by omega⟩, rfl⟩
    | 5, _ => exact ⟨_, rfl, i (-5) (by omega)⟩
    | 6, _ => exact ⟨_, rfl, i (201 + nn) (by omega)⟩
    | j + 7, h => omega
  obtain ⟨j, hj⟩ : ∃ j : Nat, nn / 9 % 7 = j := ⟨(nn / 9 % 7).toNat, by omega⟩
  obtain ⟨d, h1, h2⟩ := h j (by omega)
  exact ⟨d, fun M => by rw [hj]; exact fIx_lst (L2.atI_nat h1), h2⟩
/-- the odd thing: data, or the dict that is new -/
theorem odd_here {nn : Int} (n0 : 0 ≤ nn) (q : Nat) : ∃ d, (∀ M, fIx (.lst [.non, .bl true, .str "64", .lst [], .lst [.str "a"], .tup [.str "a"], .obj q, .str "a\n", .str "\t", .int (nn % 300)]) (.int (nn / 60 % 10)) M = .ok d M) ∧ (Nc 9 d ∨ d = .obj q) := by
  have h : ∀ j : Nat, j < 10 → ∃ d, [D.non, .bl true, .str "64", .lst [], .lst [.str "a"], .tup [.str "a"], .obj q, .str "a\n", .str "\t", .int (nn % 300)][j]? = some d ∧ (Nc 9 d ∨ d = .obj q) := fun j hj => by
    match j, hj with
    | 0, _ => exact ⟨_, rfl, .inl ⟨rfl, by simp [D.wt], by omega⟩⟩
    | 1, _ => exact ⟨_, rfl, .inl ⟨rfl, by simp [D.wt], by omega⟩⟩
    | 2, _ => exact ⟨_, rfl, .inl ⟨by decide +kernel, by decide +kernel, by omega⟩⟩
    | 3, _ => exact ⟨_, rfl, .inl ⟨by decide +kernel, by decide +kernel, by omega⟩⟩
    | 4, _ => exact ⟨_, rfl, .inl ⟨by decide +kernel, by decide +kernel, by omega⟩⟩
    | 5, _ => exact ⟨_, rfl, .inl ⟨by decide +kernel, by decide +kernel, by omega⟩⟩
    | 6, _ => exact ⟨_, rfl, .inr rfl⟩
    | 7, _ => exact ⟨_, rfl, .inl ⟨by decide +kernel, by decide +kernel, by omega⟩⟩
    | 8, _ => exact ⟨_, rfl, .inl ⟨by decide +kernel, by decide +kernel, by omega⟩⟩
    | 9, _ => exact ⟨_, rfl, .inl ⟨rfl, by simp [D.wt], by omega⟩⟩
    | j + 10, h => omega
  obtain ⟨j, hj⟩ : ∃ j : Nat, nn / 60 % 10 = j := ⟨(nn / 60 % 10).toNat, by omega⟩
  obtain ⟨d, h1, h2⟩ := h j (by omega)
  exact ⟨d, fun M => by rw [hj]; exact fIx_lst (L2.atI_nat h1), h2⟩
def p0S : Pg → Str
  | .head .. => "head"
  | .leaf .. => "leaf"
  | .fork .. => "fork"
  | .rest .. => "rest"
  | .free .. => "free"
def p1D : Pg → D
  | .leaf rows => .tup (rows.map rowD)
  | .fork ks _ => .tup (ks.map keyD)
  | _ => .non
/-- bent pages are looked at -/
theorem bents_ok {p : Pg} {nn : Int} (M : Mem) (n0 : 0 ≤ nn) (hp : Good p) : ∃ b1, (∀ M, fInL false (.str (p0S p)) (.tup [.str "leaf", .str "fork"]) M = .ok (.bl b1) M) ∧ (b1 = true → ∃ b2, (∀ M, fNe (p1D p) (.tup []) M = .ok (.bl b2) M) ∧ (∀ M, fIx p.toD (.int 1) M = .ok (p1D p) M) ∧ (b2 = true → ∃ ts X, f__law_bent [p.toD, .int nn] M = .ok (.lst ts) (M ++ X) ∧ (∀ t ∈ ts, Nc 9 t) ∧ ts.length ≤ 10)) := by
  cases p with
  | head a b c d => exact ⟨false, fun M => rfl, fun h => by cases h⟩
  | rest a b => exact ⟨false, fun M => rfl, fun h => by cases h⟩
  | free a => exact ⟨false, fun M => rfl, fun h => by cases h⟩
  | leaf rows =>
    have hl : rows.length ≤ 63 := by have := hp.1.many; simpa using this
    have hr : ∀ x ∈ rows.map rowD, Ns 2 300 x := fun x hx => by
      obtain ⟨r, hr, rfl⟩ := List.mem_map.mp hx
      exact row_ns (hp.1.key r.1 (List.mem_map.mpr ⟨r, hr, rfl⟩)) (hp.2 r hr)
    refine ⟨true, fun M => rfl, fun _ => ?_⟩
    cases rows with
    | nil => exact ⟨false, fun M => fNe_same (show D.lay 64 (.tup []) = true from rfl), fun M => fIx_tup1, fun h => by cases h⟩
    | cons r rows =>
      refine ⟨true, fun M => ?_, fun M => fIx_tup1, fun _ => bent_leaf n0 (by simp) (by simpa using hl) hr⟩
      show fNe (.tup ((r :: rows).map rowD)) (.tup []) M = _
      rw [List.map_cons]
      have lay : D.lay 64 (.tup (rowD r :: rows.map rowD)) = true := by
        have t := tup_ns (n := 2) (w := 300) hr
        exact lay_le t.lay (by omega)
      rw [fNe_of lay (by simp)]; rfl
  | fork ks kids =>
    obtain ⟨h1, h2, h3⟩ := hp
    have hl := h1.many
    have hr : ∀ x ∈ ks.map keyD, Ns 0 13 x := fun x hx => by
      obtain ⟨r, hr, rfl⟩ := List.mem_map.mp hx
      exact (key_ns (h1.key r hr)).up (by omega) (by omega)
    refine ⟨true, fun M => rfl, fun _ => ?_⟩
    cases ks with
    | nil => exact ⟨false, fun M => fNe_same (show D.lay 64 (.tup []) = true from rfl), fun M => fIx_tup1, fun h => by cases h⟩
    | cons r ks =>
      refine ⟨true, fun M => ?_, fun M => fIx_tup1, fun _ => bent_fork n0 (by simp) (by simpa using hl) hr (fun r hr => ⟨by have := (h2 r hr).1; omega, (h2 r hr).2⟩) (by omega) (by omega)⟩
      show fNe (.tup ((r :: ks).map keyD)) (.tup []) M = _
      rw [List.map_cons]
      have lay : D.lay 64 (.tup (keyD r :: ks.map keyD)) = true := by
        have t := tup_ns (n := 0) (w := 13) hr
        exact lay_le t.lay (by omega)
      rw [fNe_of lay (by simp)]; rfl
theorem page_ix0 (p : Pg) (M : Mem) : fIx p.toD (.int 0) M = .ok (.str (p0S p)) M := by
  cases p <;> exact fIx_tup0
theorem f_law_ok (ns : List Int) : ∃ M, f_law [.lst (ns.map .int)] [] = .ok (.bl true) M := by
  have hM : At ns 0 [St ns 0] := rfl
  have dd : dDisp [(.inr "cells", (dVar 0)), (.inr "at", (dC (.int 0)))] [some (.lst (ns.map .int)), none, none, none, none, none, none, none, none, none, none, none] [] = .ok (.obj 0) [St ns 0] := rfl
  generalize [St ns 0] = M at *
  obtain ⟨nn, n0, n1, e1, hN⟩ := lnext hM (by omega) (by omega)
  generalize M.set 0 (St ns (0 + 1)) = N at *
  obtain ⟨si, ⟨s0, s1⟩, es⟩ := ix_ints (P := fun z => 0 ≤ z ∧ z ≤ 401) (ns := [400, 401, 12, 13]) (i := nn / 15 % 4) (by omega) (by simp; omega) (fun z hz => by
    simp only [List.mem_cons, List.mem_nil_iff, or_false] at hz
    rcases hz with rfl | rfl | rfl | rfl <;> omega)
  simp only [List.map_cons, List.map_nil] at es
  obtain ⟨T0, a0, b0, t0⟩ := ltext nn si N (by omega) (by omega)
  obtain ⟨T1, a1, b1, t1⟩ := ltext nn (nn % 15) N (by omega) (by omega)
  have tn : ∀ (l : List Nat), l.length ≤ 500 → (∀ c ∈ l, c ∈ AL) → Nc 9 (.str (tx l)) := fun l h1 h2 => by
    have z := (txt_ns (w := 500) (al_txt h2) h1).nc (by omega) (by omega)
    exact ⟨lay_le z.lay (by omega), z.wt, by omega⟩
  have inn : ∀ i : Int, Nc 9 (.int i) := fun i => ⟨rfl, by simp [D.wt], by omega⟩
  obtain ⟨y4, X1, lp⟩ := l1_loop (x0 := some (.lst (ns.map .int))) (x1 := some (.obj 0)) (x2 := some (.int nn)) (x3 := some (.str (tx T0))) (x5 := none) (x6 := none) (x7 := none) (x8 := none) (x9 := none) (x10 := none) (x11 := none) [.str (tx T1), .str (tx T0), .int 63, .int 64, .int 200, .int 201] N none (fun t ht => by
    simp only [List.mem_cons, List.mem_nil_iff, or_false] at ht
    rcases ht with rfl | rfl | rfl | rfl | rfl | rfl
    · exact tn T1 (by have : T1.length = (nn % 15).toNat := a1; omega) b1
    · exact tn T0 (by have : T0.length = si.toNat := a0; omega) b0
    · exact inn _
    · exact inn _
    · exact inn _
    · exact inn _)
  have hN1 : At ns 1 (N ++ X1) := hN.app
  generalize hN1e : N ++ X1 = N1 at *
  obtain ⟨od, eo, ho⟩ := odd_here n0 N1.length
  have hN2 : At ns 1 (N1 ++ [.dic []]) := hN1.app
  have lo : ∃ X, f__law_looks [od, .int 64] (N1 ++ [.dic []]) = .ok (.bl true) (N1 ++ [.dic []] ++ X) := by
    rcases ho with h | rfl
    · exact looks_ok _ _ h
    · exact looks_dict (kvs := []) _ (by simp)
  obtain ⟨X2, lo⟩ := lo
  have hN3 : At ns 1 (N1 ++ [.dic []] ++ X2) := hN2.app
  generalize hN3e : N1 ++ [.dic []] ++ X2 = N3 at *
  obtain ⟨X3, mr⟩ := many_ok (n := nn / 45) N3 (by omega)
  obtain ⟨N4, mt, hN4⟩ : ∃ N4, (∀ r : Env', r[2]? = some (some (.int nn)) → andK (.ok (decide (nn / 5 % 9 = 1)) N3) (dNot (dTest (dCall 1 f__law_many_rows (dCons (dBin fFdiv (dVar 2) (dC (.int 45))) dNil)))) r = .ok false N4) ∧ At ns 1 N4 := by
    by_cases z : nn / 5 % 9 = 1
    · refine ⟨N3 ++ X3, fun r hr => ?_, hN3.app⟩
      rw [decide_eq_true z]
      simp [hr, mr]
    · refine ⟨N3, fun r hr => ?_, hN3⟩
      rw [decide_eq_false z]
      simp
  obtain ⟨S, hS⟩ : ∃ S : Nat, 64 + nn / 7 % 137 = (S : Nat) := ⟨(64 + nn / 7 % 137).toNat, by omega⟩
  obtain ⟨p, N5, k5, hp, ft, ep, hN5, k50, k51⟩ := page_ok (sz := S) (by omega) (by omega) hN4 (by omega) (by omega)
  have pn := page_ns hp
  obtain ⟨T, N6, th, hT, k6, hN6⟩ : ∃ T N6, ifK (.ok (decide (0 < nn / 1000 % 3)) N5) (dAsg (dCall 2 (f__law_spoilt 8) (dCons (dVar 1) (dCons (dVar 7) dNil))) (gSlot 4)) dNext [some (.lst (ns.map .int)), some (.obj 0), some (.int nn), some (.str (tx T0)), some p.toD, some od, some (.int (S : Nat)), some p.toD, none, none, none, none] = .nx [some (.lst (ns.map .int)), some (.obj 0), some (.int nn), some (.str (tx T0)), some T, some od, some (.int (S : Nat)), some p.toD, none, none, none, none] N6 ∧ Ns 6 41000 T ∧ ∃ k6, At ns k6 N6 := by
    by_cases z : 0 < nn / 1000 % 3
    · obtain ⟨T, N6, k6, e, h6, _, _, hT⟩ := spoilt_ok 8 4 20000 p.toD N5 k5 (by omega) (by omega) (by omega) hN5 (by omega) (by omega) pn
      refine ⟨T, N6, ?_, hT, k6, h6⟩
      rw [decide_eq_true z]
      simp [e]
    · refine ⟨p.toD, N5, ?_, pn.up (by omega) (by omega), k5, hN5⟩
      rw [decide_eq_false z]
      simp
  have Tn := hT.nc (by omega) (by omega)
  have Tr : ∀ M, fRepr [T] M = .ok (.str T.rp) M := fun M => fRepr_of (lay_le hT.lay (by omega)) hT.ish (by have := hT.wt; omega)
  obtain ⟨X7, l7⟩ := looks_ok N6 (.int (S : Nat)) Tn
  obtain ⟨X8, l8⟩ := looks_ok (N6 ++ X7) (.int (S : Nat)) (pn.nc (by omega) (by omega))
  generalize hN8e : N6 ++ X7 ++ X8 = N8 at *
  have bn : ∃ N9, (dIf (dAnd (dTest (dBin (fInL false) (dBin fIx (dVar 7) (dC (.int 0))) (dTup (dCons (dC (.str "leaf")) (dCons (dC (.str "fork")) dNil))))) (dTest (dBin fNe (dBin fIx (dVar 7) (dC (.int 1))) (dTup dNil))))
   (dIf (dNot (dTest (dCB fAll (dCons (dComp (dItL (dCall 2 f__law_bent (dCons (dVar 7) (dCons (dVar 2) dNil)))) (gSlot 10) dYes c2_law [10]) dNil))))
    (dRet (dC (.bl false)))
    dNext)
   dNext) [some (.lst (ns.map .int)), some (.obj 0), some (.int nn), some (.str (tx T0)), some T, some od, some (.int (S : Nat)), some p.toD, some (.str T.rp), none, none, none] N8 = .nx [some (.lst (ns.map .int)), some (.obj 0), some (.int nn), some (.str (tx T0)), some T, some od, some (.int (S : Nat)), some p.toD, some (.str T.rp), none, none, none] N9 := by
    obtain ⟨b1, q1, q2⟩ := bents_ok N8 n0 hp
    have i0 := page_ix0 p
    cases b1 with
    | false => exact ⟨N8, by simp [i0, q1]⟩
    | true =>
      obtain ⟨b2, q3, q4, q5⟩ := q2 rfl
      cases b2 with
      | false => exact ⟨N8, by simp [i0, q1, q4, q3]⟩
      | true =>
        obtain ⟨ts, X, eb, ht, tl⟩ := q5 rfl
        obtain ⟨Y, ec⟩ := c2_comp (x0 := some (.lst (ns.map .int))) (x1 := some (.obj 0)) (x2 := some (.int nn)) (x3 := some (.str (tx T0))) (x4 := some T) (x5 := some od) (x6 := some (.int (S : Nat))) (x7 := some p.toD) (x8 := some (.str T.rp)) (x9 := none) (x11 := none) (sz := .int (S : Nat)) rfl ts [] (N8 ++ X) ht (by simp; omega)
        have al := all_true (l := ts) (M := N8 ++ X ++ Y)
        rw [List.nil_append] at ec
        generalize (ts.map fun _ => D.bl true) = BL at *
        generalize N8 ++ X = N8a at *
        generalize N8a ++ Y = N8b at *
        exact ⟨N8b, by simp [-dItL_ev, dItL_K, i0, q1, q4, q3, eb, ec, al]⟩
  obtain ⟨N9, bn⟩ := bn
  obtain ⟨bd, ebd, bn1, bn2⟩ := bad_sz n0
  obtain ⟨X9, lip⟩ := lis_page_any N9 Tn
  have ls : ∃ N10, (dIf (dNot (dTest (dCall 1 f__law_is_page (dCons (dVar 4) dNil))))
   (dIf (dTest (dBin fNe (dComp (dItR1 (dC (.int 3))) (gSlot 11) dYes c3_law [11]) (dBin (fRep false) (dLstA (dCons (dC (.str "page")) dNil)) (dC (.int 3)))))
    (dRet (dC (.bl false)))
    dNext)
   (dIf (dTest (dBin fNe (dCall 3 f__law_refused (dCons (dC (.int 2)) (dCons (dVar 4) (dCons (dVar 9) dNil)))) (dC (.str "size"))))
    (dRet (dC (.bl false)))
    dNext)) [some (.lst (ns.map .int)), some (.obj 0), some (.int nn), some (.str (tx T0)), some T, some od, some (.int (S : Nat)), some p.toD, some (.str T.rp), some bd, none, none] N9 = .nx [some (.lst (ns.map .int)), some (.obj 0), some (.int nn), some (.str (tx T0)), some T, some od, some (.int (S : Nat)), some p.toD, some (.str T.rp), some bd, none, none] N10 := by
    generalize hN9 : N9 ++ X9 = N9a at *
    cases q : pageB T with
    | false =>
      rw [q] at lip
      obtain ⟨r0, r1, r2⟩ := refused_no (M := N9a) bd Tn q
      have il : ∀ M : Mem, itR1K (.ok (.int 3) M) = .ok ⟨[.int 0, .int 1, .int 2], anyM⟩ M := fun M => rfl
      have la : lstAK (.ok [.str "page"] N9a) = .ok (.obj N9a.length) (N9a ++ [.lst [.str "page"]]) := lstAK_ok (by simp)
      have rp : fRep false (.obj N9a.length) (.int 3) (N9a ++ [.lst [.str "page"]]) = .ok (.lst [.str "page", .str "page", .str "page"]) (N9a ++ [.lst [.str "page"]]) := by
        rw [fRep_obj (ds := [.str "page"]) (by simp) (by decide) (by decide)]; exact newL_f (by decide)
      have ne : fNe (.lst [.str "page", .str "page", .str "page"]) (.lst [.str "page", .str "page", .str "page"]) (N9a ++ [.lst [.str "page"]]) = .ok (.bl false) (N9a ++ [.lst [.str "page"]]) := fNe_same (by decide +kernel)
      exact ⟨N9a ++ [.lst [.str "page"]], by simp [-itR1K_ok, -lstAK_ok, lip, il, c3_law, r0, r1, r2, la, rp, ne]⟩
    | true =>
      rw [q] at lip
      obtain ⟨X, r⟩ := refused_size (M := N9a) Tn q bn1 bn2
      have ne : fNe (.str "size") (.str "size") (N9a ++ X) = .ok (.bl false) (N9a ++ X) := fNe_same (by decide +kernel)
      exact ⟨N9a ++ X, by simp [lip, r, ne]⟩
  obtain ⟨N10, ls⟩ := ls
  refine ⟨N10, ?_⟩
  show runK (b_law [some (.lst (ns.map .int)), none, none, none, none, none, none, none, none, none, none, none] []) = _
  unfold b_law
  have d15 : ∀ M : Mem, fMod (.int nn) (.int 15) M = .ok (.int (nn % 15)) M := fun M => fMod_int (by decide)
  refine seq_run (r1 := [some (.lst (ns.map .int)), some (.obj 0), none, none, none, none, none, none, none, none, none, none]) (M1 := M) ?_ ?_
  · simp [-dDisp_ev, dd]
  refine seq_run (r1 := [some (.lst (ns.map .int)), some (.obj 0), some (.int nn), none, none, none, none, none, none, none, none, none]) (M1 := N) ?_ ?_
  · simp [e1]
  refine seq_run (r1 := [some (.lst (ns.map .int)), some (.obj 0), some (.int nn), some (.str (tx T0)), none, none, none, none, none, none, none, none]) (M1 := N) ?_ ?_
  · simp [es, t0]
  refine seq_run (r1 := [some (.lst (ns.map .int)), some (.obj 0), some (.int nn), some (.str (tx T0)), y4, none, none, none, none, none, none, none]) (M1 := N1) ?_ ?_
  · simp [-dItL_ev, dItL_K, t1, lp, hN1e]
  refine seq_run (r1 := [some (.lst (ns.map .int)), some (.obj 0), some (.int nn), some (.str (tx T0)), y4, some od, none, none, none, none, none, none]) (M1 := N1 ++ [.dic []]) ?_ ?_
  · simp [eo]
  refine seq_run (r1 := [some (.lst (ns.map .int)), some (.obj 0), some (.int nn), some (.str (tx T0)), y4, some od, none, none, none, none, none, none]) (M1 := N3) ?_ ?_
  · simp [lo]
  refine seq_run (r1 := [some (.lst (ns.map .int)), some (.obj 0), some (.int nn), some (.str (tx T0)), y4, some od, none, none, none, none, none, none]) (M1 := N4) ?_ ?_
  · simp [mt]
  refine seq_run (r1 := [some (.lst (ns.map .int)), some (.obj 0), some (.int nn), some (.str (tx T0)), y4, some od, some (.int (S : Nat)), none, none, none, none, none]) (M1 := N4) ?_ ?_
  · simp [hS]
  refine seq_run (r1 := [some (.lst (ns.map .int)), some (.obj 0), some (.int nn), some (.str (tx T0)), y4, some od, some (.int (S : Nat)), some p.toD, none, none, none, none]) (M1 := N5) ?_ ?_
  · simp [ep]
  refine seq_run (r1 := [some (.lst (ns.map .int)), some (.obj 0), some (.int nn), some (.str (tx T0)), some p.toD, some od, some (.int (S : Nat)), some p.toD, none, none, none, none]) (M1 := N5) ?_ ?_
  · simp
  refine seq_run (r1 := [some (.lst (ns.map .int)), some (.obj 0), some (.int nn), some (.str (tx T0)), some T, some od, some (.int (S : Nat)), some p.toD, none, none, none, none]) (M1 := N6) ?_ ?_
  · simpa using th
  refine seq_run (r1 := [some (.lst (ns.map .int)), some (.obj 0), some (.int nn), some (.str (tx T0)), some T, some od, some (.int (S : Nat)), some p.toD, some (.str T.rp), none, none, none]) (M1 := N6) ?_ ?_
  · simp [Tr]
  refine seq_run (r1 := [some (.lst (ns.map .int)), some (.obj 0), some (.int nn), some (.str (tx T0)), some T, some od, some (.int (S : Nat)), some p.toD, some (.str T.rp), none, none, none]) (M1 := N8) ?_ ?_
  · simp [l7, l8, ← hN8e]
  refine seq_run (r1 := [some (.lst (ns.map .int)), some (.obj 0), some (.int nn), some (.str (tx T0)), some T, some od, some (.int (S : Nat)), some p.toD, some (.str T.rp), none, none, none]) (M1 := N9) ?_ ?_
  · exact bn
  refine seq_run (r1 := [some (.lst (ns.map .int)), some (.obj 0), some (.int nn), some (.str (tx T0)), some T, some od, some (.int (S : Nat)), some p.toD, some (.str T.rp), some bd, none, none]) (M1 := N9) ?_ ?_
  · simp [ebd]
  refine seq_run (r1 := [some (.lst (ns.map .int)), some (.obj 0), some (.int nn), some (.str (tx T0)), some T, some od, some (.int (S : Nat)), some p.toD, some (.str T.rp), some bd, none, none]) (M1 := N10) ?_ ?_
  · exact ls
  simp [Tr]
end K03
set_option Elab.async false
set_option linter.all false
set_option maxRecDepth 100000
set_option maxHeartbeats 0
namespace K03
open PySem PySem.Spec PyProof.Rows L2 LF
theorem facts {P : Program} {w : World} {K : Frg} {h : Heap} {mg : Str → Option Value} {f : Addr} (X : K.In h) (G : h.Ns mainGlobals mg) (e : mg "law" = some (.ref f)) (c : SaysX xb fa fn K) :
    ∃ fd : FuncData, (∀ (s : Shared) (v : Value), BindsTo s fd ⟨[v], []⟩ [("_law_script", v)]) ∧ ∀ base : Heap, RunG P w K mg base (L2.CX P w) 12 f fd ["_law_script"] (SpD K 1 f_law) := by
  have T := top_of X G c
  obtain ⟨fd, D⟩ := T.d_law
  have q := e.symm.trans T.g_law
  cases q
  have b := FunD.bindsA (ps := ["_law_script"]) D fun _ _ _ _ _ _ us hl => match us, hl with | [_], _ => rfl
  exact ⟨fd, fun s v => b s [v] rfl, fun base => fn_law T D⟩
end K03
set_option maxHeartbeats 0 in
theorem PySem.Challenge.cw_leafhouse_k03_keys_values_pages_holds : PySem.Challenge.rw_leafhouse_k03_keys_values_pages.Holds := by
  w_on; o_law
  refine HandSHeadRun.head_any (r := PySem.W.OpenLaw.row PySem.Challenge.rw_leafhouse_k03_keys_values_pages) (q := PySem.W.view (PySem.W.OpenLaw.row PySem.Challenge.rw_leafhouse_k03_keys_values_pages).prog [81]) (H := K03.hk) (ob := K03.ob) (M := 9000) (loose := K03.loose) (d := HandSHeadRun.topDef (PySem.W.OpenLaw.row PySem.Challenge.rw_leafhouse_k03_keys_values_pages).prog 81) (kwd := []) K03.ob_eq
    (by kernel_rfl) (fun s => by kernel_rfl) K03.run (by kernel_rfl) (by kernel_rfl) (by kernel_rfl) (by rfl) (by first | assumption | decide +kernel) (by decide +kernel) ⟨rfl, rfl, rfl, rfl, rfl, by decide +kernel⟩ ?hw ?hc
  case hw => w_witness2
  case hc =>
    refine LF.law_walkG (l := PySem.Challenge.rw_leafhouse_k03_keys_values_pages) (n := 63) (k := 12) (x := "_law_script") (F := K03.f_law) rfl (by decide) (by kernel_rfl) ⟨rfl, by decide, by decide⟩ ?B (fun ns _ => K03.f_law_ok ns)
    intro w mg f h Y G m
    obtain ⟨K, KX, c⟩ := Y
    have e : mg ("law" : PySem.Str) = some (.ref f) := by
      have q : (HandSHeadRun.topDef (PySem.W.OpenLaw.row PySem.Challenge.rw_leafhouse_k03_keys_values_pages).prog 81).name = ("law" : PySem.Str) := by kernel_rfl
      rw [← q]
      exact m
    obtain ⟨fd, hb, hF⟩ := K03.facts (P := (PySem.Challenge.rw_leafhouse_k03_keys_values_pages).prog) (w := w) KX G e c
    exact ⟨K, fd, KX, hb, fun base _ _ => hF base⟩
