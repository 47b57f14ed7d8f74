import PyProof.Rows.All
import Wide.All
import OpenK.AllK
import Wide.FinOn
import HandS.ForMost
import HandS.ForExc
import HandS.CallSlots
import HandS.IsInst
import HandS.Wide
import HandS.WideBits
import HandS.Conv
import HandS.SortInts
import KE.KRevSl
import HandS.Style
import HandS.Property
import HandS.ClsMeth
import HandS.HotCalls
import HandS.ExcCtx
import HandS.More
import HandS.Defaults
import HandS.ExcField
import KE.KExcIs
import HandS.OwnEq
import HandS.Iter
import HandS.Zip
import HandS.Comp
import HandS.WideMore
import HandS.ExcInit
import KE.KExcSuper
import HandS.HeadHook3
import HandS.HeadEnd
import HandS.Head2
import HandS.EndBits
import PySem.Challenge.RW_wholefilters_k24_choice_sets_by_trying
section
set_option Elab.async false
set_option linter.all false
set_option maxRecDepth 100000
/-! Ky, part A: plain data, how it lies in the abstract heap, the state of a def's body. -/
namespace Ky
open PySem PySem.Spec PyProof.Rows L2

/-- plain data -/
inductive D where
  | non | bl (b : Bool) | int (i : Int) | str (x : Str)
  | tup (xs : List D) | lst (xs : List D) | scr (xs : List Int)
  | ins (c : Str) (fs : List (Str × D))
  | fn (q : Str) | cls (c : Str)
  deriving Inhabited

/-- an object that may change, owned by one place -/
inductive O where
  | L (xs : List D) | I (c : Str) (fs : List (Str × D))
/-- what a slot holds: data, an own object, a caller's object (to be changed, not kept), one that is only read now, a caller's that is only read, a caught error -/
inductive S where
  | v (d : D) | own (o : O) | bor (o : O) | lk (o : O) | ro (o : O) | x (c : Str) (fs : List (Str × D))
/-- what an expression gives: data, a new object, the object of a slot -/
inductive R where
  | v (d : D) | own (o : O) | sl (i : Nat)
abbrev Env := List (Option S)

def O.dat : O → D | .L xs => .lst xs | .I c fs => .ins c fs
def S.dat : S → Option D | .v d => some d | .own o => some o.dat | .bor o => some o.dat | .lk o => some o.dat | .ro o => some o.dat | .x _ _ => none
def S.isO : S → Bool | .v _ => false | .x _ _ => false | .ro _ => false | _ => true
def R.dat (env : Env) : R → Option D
  | .v d => some d
  | .own o => some o.dat
  | .sl i => match env[i]? with | some (some s) => s.dat | _ => none

section
variable (K : PySem.W.Frag) (adr : Str → Addr)
mutual
/-- the value v is the data d in the (unchanging) heap F -/
def Rep (F : Hp) : D → V → Prop
  | .non, v => v = .non
  | .bl b, v => v = .bl b
  | .int i, v => v = .int i
  | .str x, v => v = .str x
  | .tup xs, v => ∃ a vs, v = .ref a ∧ SqT K F a vs ∧ RepL F xs vs
  | .lst xs, v => ∃ a vs, v = .ref a ∧ F a = some (.lst vs) ∧ RepL F xs vs
  | .scr ns, v => ∃ a, v = .ref a ∧ SqL K F a (ns.map V.int)
  | .ins c fs, v => ∃ a dx vs, v = .ref a ∧ F a = some (.ins (adr c) dx vs) ∧ RepF F fs vs
  | .fn q, v => v = .ref (adr q)
  | .cls c, v => v = .ref (adr c)
def RepL (F : Hp) : List D → List V → Prop
  | [], vs => vs = []
  | d :: ds, vs => ∃ v r, vs = v :: r ∧ Rep F d v ∧ RepL F ds r
def RepF (F : Hp) : List (Str × D) → List (Str × V) → Prop
  | [], vs => vs = []
  | (x, d) :: ds, vs => ∃ v r, vs = (x, v) :: r ∧ Rep F d v ∧ RepF F ds r
end
end

theorem Same.sqT {K : PySem.W.Frag} {H H' : Hp} {a : Addr} {xs : List V} (e : Same H H') (h : SqT K H a xs) : SqT K H' a xs := by
  rcases h with (h | ⟨o, h⟩) | h
  · exact .inl (.inl (e _ _ h))
  · exact .inl (.inr ⟨o, e _ _ h⟩)
  · exact .inr h

section
variable {K : PySem.W.Frag} {adr : Str → Addr} {F F' : Hp}
mutual
theorem Rep.mono (e : Same F F') : ∀ (d : D) (v : V), Rep K adr F d v → Rep K adr F' d v
  | .non, _, h => by simpa only [Rep] using h
  | .bl _, _, h => by simpa only [Rep] using h
  | .int _, _, h => by simpa only [Rep] using h
  | .str _, _, h => by simpa only [Rep] using h
  | .tup xs, v, h => by
    simp only [Rep] at h ⊢
    obtain ⟨a, vs, h1, h2, h3⟩ := h
    exact ⟨a, vs, h1, Same.sqT e h2, RepL.mono e xs vs h3⟩
  | .lst xs, v, h => by
    simp only [Rep] at h ⊢
    obtain ⟨a, vs, h1, h2, h3⟩ := h
    exact ⟨a, vs, h1, e _ _ h2, RepL.mono e xs vs h3⟩
  | .scr ns, v, h => by
    simp only [Rep] at h ⊢
    obtain ⟨a, h1, h2⟩ := h
    exact ⟨a, h1, e.seq h2⟩
  | .ins c fs, v, h => by
    simp only [Rep] at h ⊢
    obtain ⟨a, dx, vs, h1, h2, h3⟩ := h
    exact ⟨a, dx, vs, h1, e _ _ h2, RepF.mono e fs vs h3⟩
  | .fn _, _, h => by simpa only [Rep] using h
  | .cls _, _, h => by simpa only [Rep] using h
theorem RepL.mono (e : Same F F') : ∀ (ds : List D) (vs : List V), RepL K adr F ds vs → RepL K adr F' ds vs
  | [], _, h => by simpa only [RepL] using h
  | d :: ds, vs, h => by
    simp only [RepL] at h ⊢
    obtain ⟨v, r, h1, h2, h3⟩ := h
    exact ⟨v, r, h1, Rep.mono e d v h2, RepL.mono e ds r h3⟩
theorem RepF.mono (e : Same F F') : ∀ (ds : List (Str × D)) (vs : List (Str × V)), RepF K adr F ds vs → RepF K adr F' ds vs
  | [], _, h => by simpa only [RepF] using h
  | (x, d) :: ds, vs, h => by
    simp only [RepF] at h ⊢
    obtain ⟨v, r, h1, h2, h3⟩ := h
    exact ⟨v, r, h1, Rep.mono e d v h2, RepF.mono e ds r h3⟩
end
theorem RepL.length : ∀ {ds : List D} {vs : List V}, RepL K adr F ds vs → vs.length = ds.length
  | [], _, h => by simp only [RepL] at h; subst h; rfl
  | d :: ds, vs, h => by
    simp only [RepL] at h
    obtain ⟨v, r, rfl, _, h3⟩ := h
    simp [RepL.length h3]
theorem RepL.get : ∀ {ds : List D} {vs : List V} {i : Nat} {d : D}, RepL K adr F ds vs → ds[i]? = some d → ∃ v, vs[i]? = some v ∧ Rep K adr F d v
  | [], _, _, _, _, e => by simp at e
  | d :: ds, vs, i, d', h, e => by
    simp only [RepL] at h
    obtain ⟨v, r, rfl, h2, h3⟩ := h
    cases i with
    | zero => simp at e; subst e; exact ⟨v, rfl, h2⟩
    | succ i => obtain ⟨w, q1, q2⟩ := RepL.get (i := i) h3 (by simpa using e); exact ⟨w, by simpa using q1, q2⟩
theorem RepL.getV {ds : List D} {vs : List V} {i : Nat} {v : V} (h : RepL K adr F ds vs) (e : vs[i]? = some v) : ∃ d, ds[i]? = some d ∧ Rep K adr F d v := by
  cases q : ds[i]? with
  | none =>
    have h1 := h.length
    have h2 := List.getElem?_eq_none_iff.mp q
    have h3 := (List.getElem?_eq_some_iff.mp e).1
    omega
  | some d =>
    obtain ⟨w, e1, r⟩ := RepL.get h q
    rw [e] at e1; cases e1
    exact ⟨d, rfl, r⟩
theorem RepL.app : ∀ {ds es : List D} {vs ws : List V}, RepL K adr F ds vs → RepL K adr F es ws → RepL K adr F (ds ++ es) (vs ++ ws)
  | [], _, _, _, h, g => by simp only [RepL] at h; subst h; exact g
  | d :: ds, es, vs, ws, h, g => by
    simp only [RepL] at h
    obtain ⟨v, r, rfl, h2, h3⟩ := h
    exact ⟨v, r ++ ws, rfl, h2, RepL.app h3 g⟩
theorem RepL.one {d : D} {v : V} (h : Rep K adr F d v) : RepL K adr F [d] [v] := ⟨v, [], rfl, h, rfl⟩
theorem RepL.take : ∀ {ds : List D} {vs : List V} (n : Nat), RepL K adr F ds vs → RepL K adr F (ds.take n) (vs.take n)
  | [], _, n, h => by simp only [RepL] at h; subst h; simp [RepL]
  | d :: ds, vs, 0, h => by simp [RepL]
  | d :: ds, vs, n + 1, h => by
    simp only [RepL] at h
    obtain ⟨v, r, rfl, h2, h3⟩ := h
    exact ⟨v, r.take n, rfl, h2, RepL.take n h3⟩
theorem RepL.drop : ∀ {ds : List D} {vs : List V} (n : Nat), RepL K adr F ds vs → RepL K adr F (ds.drop n) (vs.drop n)
  | [], _, n, h => by simp only [RepL] at h; subst h; simp [RepL]
  | d :: ds, vs, 0, h => h
  | d :: ds, vs, n + 1, h => by
    simp only [RepL] at h
    obtain ⟨v, r, rfl, h2, h3⟩ := h
    exact RepL.drop n h3
theorem RepL.set : ∀ {ds : List D} {vs : List V} (i : Nat) {d : D} {v : V}, RepL K adr F ds vs → Rep K adr F d v → RepL K adr F (ds.set i d) (vs.set i v)
  | [], _, i, _, _, h, g => by simp only [RepL] at h; subst h; simp [RepL]
  | d :: ds, vs, 0, d', v', h, g => by
    simp only [RepL] at h
    obtain ⟨v, r, rfl, h2, h3⟩ := h
    exact ⟨v', r, rfl, g, h3⟩
  | d :: ds, vs, i + 1, d', v', h, g => by
    simp only [RepL] at h
    obtain ⟨v, r, rfl, h2, h3⟩ := h
    exact ⟨v, r.set i v', rfl, h2, RepL.set i h3 g⟩
theorem RepL.rev : ∀ {ds : List D} {vs : List V}, RepL K adr F ds vs → RepL K adr F ds.reverse vs.reverse
  | [], _, h => by simp only [RepL] at h; subst h; simp [RepL]
  | d :: ds, vs, h => by
    simp only [RepL] at h
    obtain ⟨v, r, rfl, h2, h3⟩ := h
    simp only [List.reverse_cons]
    exact (RepL.rev h3).app (RepL.one h2)
theorem RepL.ints : ∀ (ns : List Int), RepL K adr F (ns.map D.int) (ns.map V.int)
  | [] => rfl
  | n :: ns => ⟨_, _, rfl, rfl, RepL.ints ns⟩
end
end Ky
end
section
set_option Elab.async false
set_option linter.all false
set_option maxRecDepth 100000
/-! Ky, part B: the state of a body: private part B, frozen part F, slots, temporaries. -/
namespace Ky
open PySem PySem.Spec PyProof.Rows L2
abbrev St := L2.St

section
variable (K : PySem.W.Frag) (adr : Str → Addr) (PN : Addr → Addr → Option Addr → Prop)
/-- the object o stands at a -/
def OAt (F H : Hp) (o : O) (a : Addr) : Prop := match o with
  | .L xs => ∃ vs, H a = some (.lst vs) ∧ RepL K adr F xs vs
  | .I c fs => ∃ dx vs, H a = some (.ins (adr c) dx vs) ∧ RepF K adr F fs vs
def SAt (B F H : Hp) (s : S) (v : V) : Prop := match s with
  | .v d => Rep K adr F d v
  | .own o => ∃ a, v = .ref a ∧ B a = none ∧ F a = none ∧ OAt K adr F H o a
  | .bor o => ∃ a, v = .ref a ∧ B a = none ∧ F a = none ∧ OAt K adr F H o a
  | .lk o => ∃ a, v = .ref a ∧ B a = none ∧ F a = none ∧ OAt K adr F H o a
  | .ro o => ∃ a u, v = .ref a ∧ B a = some u ∧ OAt K adr F H o a
  | .x c fs => ∃ a d, v = .ref a ∧ PN a (adr c) d ∧ (match d with | none => fs = [] | some d => ∃ vs, F d = some (.xd vs) ∧ RepF K adr F fs vs)
/-- an address that a slot's object has -/
def ObS (env : Env) (σ : St) (i : Nat) (a : Addr) : Prop := (∃ s, env[i]? = some (some s) ∧ s.isO = true) ∧ σ[i]? = some (some (.ref a))
def tAdr : R × V → Option Addr
  | (.own _, .ref a) => some a
  | _ => none
def TAt (B F H : Hp) (env : Env) (σ : St) (t : R × V) : Prop := match t.1 with
  | .v d => Rep K adr F d t.2
  | .own o => ∃ a, t.2 = .ref a ∧ B a = none ∧ F a = none ∧ OAt K adr F H o a
  | .sl i => σ[i]? = some (some t.2) ∧ ∃ s, env[i]? = some (some s)
structure StT (B F : Hp) (env : Env) (σ : St) (H : Hp) (ts : List (R × V)) : Prop where
  sb : Same B H
  sf : Same F H
  dj : ∀ a o, B a = some o → F a = none
  sl : ∀ (i : Nat) (s : S), env[i]? = some (some s) → ∃ v, σ[i]? = some (some v) ∧ SAt K adr PN B F H s v
  tm : ∀ t ∈ ts, TAt K adr B F H env σ t
  d1 : ∀ i j a, i ≠ j → ObS env σ i a → ObS env σ j a → False
  d2 : ∀ i a, ObS env σ i a → a ∉ ts.filterMap tAdr
  d3 : (ts.filterMap tAdr).Nodup
/-- v is, as things stand, the data d -/
def View (F H : Hp) (d : D) (v : V) : Prop := Rep K adr F d v ∨ ∃ o a, d = o.dat ∧ v = .ref a ∧ OAt K adr F H o a
/-- only new things are added; r is what came -/
structure New (F H F' H' : Hp) (r : R) (v : V) : Prop where
  sh : Same H H'
  sf : Same F F'
  sfh : Same F' H'
  nf : ∀ a o, F' a = some o → F a = some o ∨ H a = none
  at_ : match r with
    | .v d => Rep K adr F' d v
    | .own o => ∃ p, v = .ref p ∧ H p = none ∧ F' p = none ∧ OAt K adr F' H' o p
    | .sl _ => False
def Fin (F H : Hp) (r : R) (Q : VK) : Prop := ∀ v H' F', New K adr F H F' H' r v → Q v H'
end

section
variable {K : PySem.W.Frag} {adr : Str → Addr} {PN : Addr → Addr → Option Addr → Prop} {B F H F' H' : Hp} {env : Env} {σ : St} {ts : List (R × V)} {r : R} {v : V} {d : D} {o : O} {a : Addr}

theorem OAt.mono (h : OAt K adr F H o a) (e : Same F F') (k : ∀ u, H a = some u → H' a = some u) : OAt K adr F' H' o a := by
  cases o with
  | L xs => obtain ⟨vs, h1, h2⟩ := h; exact ⟨vs, k _ h1, RepL.mono e _ _ h2⟩
  | I c fs => obtain ⟨dx, vs, h1, h2⟩ := h; exact ⟨dx, vs, k _ h1, RepF.mono e _ _ h2⟩
theorem OAt.some' (h : OAt K adr F H o a) : ∃ u, H a = some u := by
  cases o with
  | L xs => obtain ⟨vs, h1, _⟩ := h; exact ⟨_, h1⟩
  | I c fs => obtain ⟨dx, vs, h1, _⟩ := h; exact ⟨_, h1⟩
theorem OAt.rep (h : OAt K adr F H o a) (e : Same F F') (k : ∀ u, H a = some u → F' a = some u) : Rep K adr F' o.dat (.ref a) := by
  cases o with
  | L xs => obtain ⟨vs, h1, h2⟩ := h; exact ⟨a, vs, rfl, k _ h1, RepL.mono e _ _ h2⟩
  | I c fs => obtain ⟨dx, vs, h1, h2⟩ := h; exact ⟨a, dx, vs, rfl, k _ h1, RepF.mono e _ _ h2⟩
theorem SAt.obj {s : S} (h : SAt K adr PN B F H s v) (q : s.isO = true) : ∃ o a, v = .ref a ∧ B a = none ∧ F a = none ∧ OAt K adr F H o a ∧ s.dat = some o.dat := by
  cases s with
  | v d => cases q
  | own o => obtain ⟨a, h1, h2, h3, h4⟩ := h; exact ⟨o, a, h1, h2, h3, h4, rfl⟩
  | bor o => obtain ⟨a, h1, h2, h3, h4⟩ := h; exact ⟨o, a, h1, h2, h3, h4, rfl⟩
  | lk o => obtain ⟨a, h1, h2, h3, h4⟩ := h; exact ⟨o, a, h1, h2, h3, h4, rfl⟩
  | ro o => cases q
  | x c fs => cases q
theorem SAt.view {s : S} (h : SAt K adr PN B F H s v) (e : s.dat = some d) : View K adr F H d v := by
  cases s with
  | v d => cases e; exact .inl h
  | own o => cases e; obtain ⟨a, h1, _, _, h2⟩ := h; exact .inr ⟨o, a, rfl, h1, h2⟩
  | bor o => cases e; obtain ⟨a, h1, _, _, h2⟩ := h; exact .inr ⟨o, a, rfl, h1, h2⟩
  | lk o => cases e; obtain ⟨a, h1, _, _, h2⟩ := h; exact .inr ⟨o, a, rfl, h1, h2⟩
  | ro o => cases e; obtain ⟨a, _, h1, _, h2⟩ := h; exact .inr ⟨o, a, rfl, h1, h2⟩
  | x c fs => cases e
/-- slots' objects keep when the frozen part grows and their own places stand -/
theorem SAt.mono {s : S} {B' : Hp} (h : SAt K adr PN B F H s v) (e : Same F F') (hB : ∀ b, B b = none → (∃ u, H b = some u) → B' b = none) (hR : ∀ b u, B b = some u → (∃ u, B' b = some u) ∧ ∀ w, H b = some w → H' b = some w) (hn : ∀ b, v = .ref b → s.isO = true → F b = none → F' b = none) (k : ∀ b u, v = .ref b → s.isO = true → H b = some u → H' b = some u) : SAt K adr PN B' F' H' s v := by
  cases s with
  | v d => exact Rep.mono e _ _ h
  | own o => obtain ⟨a, h1, h2, h3, h4⟩ := h; exact ⟨a, h1, hB a h2 h4.some', hn a h1 rfl h3, h4.mono e (fun u q => k a u h1 rfl q)⟩
  | bor o => obtain ⟨a, h1, h2, h3, h4⟩ := h; exact ⟨a, h1, hB a h2 h4.some', hn a h1 rfl h3, h4.mono e (fun u q => k a u h1 rfl q)⟩
  | lk o => obtain ⟨a, h1, h2, h3, h4⟩ := h; exact ⟨a, h1, hB a h2 h4.some', hn a h1 rfl h3, h4.mono e (fun u q => k a u h1 rfl q)⟩
  | ro o =>
    obtain ⟨a, u, h1, h2, h3⟩ := h
    obtain ⟨⟨w, h4⟩, h5⟩ := hR a u h2
    exact ⟨a, w, h1, h4, h3.mono e h5⟩
  | x c fs =>
    obtain ⟨a, d, h1, h2, h3⟩ := h
    refine ⟨a, d, h1, h2, ?_⟩
    cases d with
    | none => exact h3
    | some d => obtain ⟨vs, h4, h5⟩ := h3; exact ⟨vs, e _ _ h4, RepF.mono e _ _ h5⟩
theorem TAt.mono {t : R × V} {B' : Hp} (h : TAt K adr B F H env σ t) (e : Same F F') (hB : ∀ b, B b = none → (∃ u, H b = some u) → B' b = none) (hn : ∀ b, tAdr t = some b → F b = none → F' b = none) (k : ∀ b u, tAdr t = some b → H b = some u → H' b = some u) : TAt K adr B' F' H' env σ t := by
  obtain ⟨r, v⟩ := t
  cases r with
  | v d => exact Rep.mono e _ _ h
  | own o =>
    obtain ⟨a, h1, h2, h3, h4⟩ := h
    have q : tAdr (R.own o, v) = some a := by rw [show v = .ref a from h1]; rfl
    exact ⟨a, h1, hB a h2 h4.some', hn a q h3, h4.mono e (fun u z => k a u q z)⟩
  | sl i => exact h

theorem Same.rfl' {H : Hp} : Same H H := fun _ _ h => h
/-- new things beside: the state stays -/
theorem StT.grow (h : StT K adr PN B F env σ H ts) (sh : Same H H') (sf : Same F F') (sfh : Same F' H') (nf : ∀ a o, F' a = some o → F a = some o ∨ H a = none) : StT K adr PN B F' env σ H' ts := by
  have stay : ∀ b u, H b = some u → F b = none → F' b = none := fun b u q n => by
    cases z : F' b with
    | none => rfl
    | some w => rcases nf b w z with y | y
                · rw [n] at y; cases y
                · rw [q] at y; cases y
  refine ⟨fun b o q => sh b o (h.sb b o q), sfh, fun b o q => stay b o (h.sb b o q) (h.dj b o q), fun i s q => ?_, fun t ht => ?_, h.d1, h.d2, h.d3⟩
  · obtain ⟨v, h1, h2⟩ := h.sl i s q
    refine ⟨v, h1, h2.mono sf (fun _ z _ => z) (fun b u z => ⟨⟨u, z⟩, fun w y => sh b w y⟩) (fun b e o n => ?_) (fun b u _ _ z => sh b u z)⟩
    obtain ⟨o', a', h3, _, _, h4, _⟩ := h2.obj o
    rw [h3] at e; cases e
    obtain ⟨u, hu⟩ := h4.some'
    exact stay _ u hu n
  · obtain ⟨r, v⟩ := t
    have h2 := h.tm (r, v) ht
    refine h2.mono sf (fun _ z _ => z) (fun b e n => ?_) (fun b u _ z => sh b u z)
    cases r with
    | v d => cases e
    | sl i => cases e
    | own o =>
      obtain ⟨a, h3, _, _, h4⟩ := h2
      have h3 : v = .ref a := h3
      subst h3
      cases e
      obtain ⟨u, hu⟩ := h4.some'
      exact stay _ u hu n
/-- what came is a temporary -/
theorem StT.push (h : StT K adr PN B F env σ H ts) (n : New K adr F H F' H' r v) : StT K adr PN B F' env σ H' ((r, v) :: ts) := by
  have g := h.grow n.sh n.sf n.sfh n.nf
  cases r with
  | v d => exact ⟨g.sb, g.sf, g.dj, g.sl, fun t ht => by
      rcases List.mem_cons.mp ht with rfl | ht
      · exact n.at_
      · exact g.tm t ht, g.d1, g.d2, g.d3⟩
  | sl i => exact n.at_.elim
  | own o =>
    obtain ⟨p, hv, hp, hf, ho⟩ := n.at_
    subst hv
    have old : ∀ b u, H b = some u → b ≠ p := fun b u q e => by subst e; rw [hp] at q; cases q
    have ob : ∀ i b, ObS env σ i b → ∃ u, H b = some u := fun i b ⟨⟨s, q1, q2⟩, q3⟩ => by
      obtain ⟨v, h1, h2⟩ := h.sl i s q1
      obtain ⟨o', a', h3, _, _, h4, _⟩ := h2.obj q2
      rw [q3] at h1; cases h1; cases h3
      exact h4.some'
    have tb : ∀ b, b ∈ ts.filterMap tAdr → ∃ u, H b = some u := fun b hb => by
      obtain ⟨⟨r', v'⟩, ht, e⟩ := List.mem_filterMap.mp hb
      have h2 := h.tm _ ht
      cases r' with
      | v d => cases e
      | sl i => cases e
      | own o' =>
        obtain ⟨a, h3, _, _, h4⟩ := h2
        have h3 : v' = .ref a := h3
        subst h3
        cases e
        exact h4.some'
    refine ⟨g.sb, g.sf, g.dj, g.sl, fun t ht => ?_, g.d1, fun i b q z => ?_, ?_⟩
    · rcases List.mem_cons.mp ht with rfl | ht
      · refine ⟨p, rfl, ?_, hf, ho⟩
        cases z : B p with
        | none => rfl
        | some u => rw [h.sb p u z] at hp; cases hp
      · exact g.tm t ht
    · rw [List.filterMap_cons, show tAdr (R.own o, V.ref p) = some p from rfl] at z
      rcases List.mem_cons.mp z with e | z
      · obtain ⟨u, hu⟩ := ob i b q
        exact old b u hu e
      · exact h.d2 i b q z
    · rw [List.filterMap_cons, show tAdr (R.own o, V.ref p) = some p from rfl]
      refine List.nodup_cons.mpr ⟨fun z => ?_, h.d3⟩
      obtain ⟨u, hu⟩ := tb p z
      exact old p u hu rfl
/-- a temporary is let go -/
theorem StT.pop {t : R × V} (h : StT K adr PN B F env σ H (t :: ts)) : StT K adr PN B F env σ H ts := by
  have sub : ∀ b, b ∈ ts.filterMap tAdr → b ∈ (t :: ts).filterMap tAdr := fun b hb => by
    obtain ⟨x, h1, h2⟩ := List.mem_filterMap.mp hb
    exact List.mem_filterMap.mpr ⟨x, List.mem_cons_of_mem _ h1, h2⟩
  refine ⟨h.sb, h.sf, h.dj, h.sl, fun x hx => h.tm x (List.mem_cons_of_mem _ hx), h.d1, fun i a q z => h.d2 i a q (sub a z), ?_⟩
  have h3 := h.d3
  rw [List.filterMap_cons] at h3
  split at h3
  · exact h3
  · exact (List.nodup_cons.mp h3).2
theorem StT.popN : ∀ {us : List (R × V)}, StT K adr PN B F env σ H (us ++ ts) → StT K adr PN B F env σ H ts
  | [], h => h
  | _ :: us, h => StT.popN (us := us) h.pop
/-- data as a temporary -/
theorem New.val (sf : Same F H) (h : Rep K adr F d v) : New K adr F H F H (.v d) v := ⟨Same.rfl', Same.rfl', sf, fun _ _ q => .inl q, h⟩
theorem View.of_rep (h : Rep K adr F d v) : View K adr F H d v := .inl h
/-- a temporary, seen -/
theorem TAt.view {t : R × V} (h : StT K adr PN B F env σ H ts) (q : TAt K adr B F H env σ t) (e : t.1.dat env = some d) : View K adr F H d t.2 := by
  obtain ⟨r, v⟩ := t
  cases r with
  | v d' => cases e; exact .inl q
  | own o => cases e; obtain ⟨a, h1, _, _, h2⟩ := q; exact .inr ⟨o, a, rfl, h1, h2⟩
  | sl i =>
    obtain ⟨q1, s, q2⟩ := q
    have e : (match env[i]? with | some (some s) => s.dat | _ => none) = some d := e
    rw [q2] at e
    obtain ⟨w, h1, h2⟩ := h.sl i s q2
    have q1 : σ[i]? = some (some v) := q1
    rw [q1] at h1; cases h1
    exact h2.view e
/-- a new tuple and other things that never change -/
theorem New.frz {p : Addr} {u : HO} (sf : Same F H) (hp : H p = none) (h : Rep K adr (upd F p u) d v) : New K adr F H (upd F p u) (upd H p u) (.v d) v := by
  have hF : F p = none := by
    cases z : F p with
    | none => rfl
    | some w => rw [sf p w z] at hp; cases hp
  refine ⟨fun b o q => by rw [upd_ne (ne_of_none q hp)]; exact q, fun b o q => by rw [upd_ne (ne_of_none q hF)]; exact q, fun b o q => ?_, fun b o q => ?_, h⟩
  · by_cases e : b = p
    · subst e; rw [upd_same] at q ⊢; exact q
    · rw [upd_ne e] at q ⊢; exact sf b o q
  · by_cases e : b = p
    · subst e; exact .inr hp
    · rw [upd_ne e] at q; exact .inl q
theorem same_new {F : Hp} {p : Addr} {u : HO} (hp : F p = none) : Same F (upd F p u) := fun b o q => by rw [upd_ne (ne_of_none q hp)]; exact q
theorem free_F (sf : Same F H) {p : Addr} (hp : H p = none) : F p = none := by
  cases z : F p with
  | none => rfl
  | some w => rw [sf p w z] at hp; cases hp
theorem New.tup {p : Addr} {xs : List D} {vs : List V} (sf : Same F H) (hp : H p = none) (h : RepL K adr F xs vs) : New K adr F H (upd F p (.tup vs)) (upd H p (.tup vs)) (.v (.tup xs)) (.ref p) :=
  New.frz sf hp ⟨p, vs, rfl, .of upd_same, RepL.mono (same_new (free_F sf hp)) _ _ h⟩
theorem New.lst {p : Addr} {xs : List D} {vs : List V} (sf : Same F H) (hp : H p = none) (h : RepL K adr F xs vs) : New K adr F H F (upd H p (.lst vs)) (.own (.L xs)) (.ref p) :=
  ⟨same_new hp, Same.rfl', fun b o q => by rw [upd_ne (ne_of_none (sf b o q) hp)]; exact sf b o q, fun _ _ q => .inl q, ⟨p, rfl, hp, free_F sf hp, vs, upd_same, h⟩⟩

/-- the object of the top temporary is frozen -/
theorem StT.frzOwn {p : Addr} (h : StT K adr PN B F env σ H ((.own o, .ref p) :: ts)) : ∃ F', Same F F' ∧ StT K adr PN B F' env σ H ((.v o.dat, .ref p) :: ts) := by
  obtain ⟨a, e, hB, hF, ho⟩ := h.tm _ List.mem_cons_self
  cases e
  obtain ⟨u, hu⟩ := ho.some'
  have h3 := h.d3
  rw [List.filterMap_cons, show tAdr (R.own o, V.ref p) = some p from rfl] at h3
  obtain ⟨n3, d3⟩ := List.nodup_cons.mp h3
  have sf : Same F (upd F p u) := same_new hF
  refine ⟨upd F p u, sf, h.sb, fun b w q => ?_, fun b w q => ?_, fun i s q => ?_, fun t ht => ?_, h.d1, fun i b q z => ?_, d3⟩
  · by_cases e : b = p
    · subst e; rw [upd_same] at q; cases q; exact hu
    · rw [upd_ne e] at q; exact h.sf b w q
  · rw [upd_ne (fun e => by subst e; rw [hB] at q; cases q)]; exact h.dj b w q
  · obtain ⟨v, h1, h2⟩ := h.sl i s q
    refine ⟨v, h1, h2.mono sf (fun _ z _ => z) (fun b u z => ⟨⟨u, z⟩, fun _ y => y⟩) (fun b e so n => ?_) (fun b w _ _ z => z)⟩
    rw [upd_ne]
    · exact n
    · rintro rfl
      refine h.d2 i b ⟨⟨s, q, so⟩, by rw [h1, e]⟩ ?_
      rw [List.filterMap_cons, show tAdr (R.own o, V.ref b) = some b from rfl]
      exact List.mem_cons_self
  · rcases List.mem_cons.mp ht with rfl | ht'
    · refine ho.rep sf fun w z => ?_
      rw [hu] at z; cases z
      exact upd_same
    · refine (h.tm t (List.mem_cons_of_mem _ ht')).mono sf (fun _ z _ => z) (fun b e n => ?_) (fun b w _ z => z)
      rw [upd_ne]
      · exact n
      · rintro rfl
        exact n3 (List.mem_filterMap.mpr ⟨t, ht', e⟩)
  · refine h.d2 i b q ?_
    rw [List.filterMap_cons, show tAdr (R.own o, V.ref p) = some p from rfl]
    exact List.mem_cons_of_mem _ z
end
end Ky
end
section
set_option Elab.async false
set_option linter.all false
set_option maxRecDepth 100000
/-! Ky, part C: the own trees of expressions and statements, and what they give. -/
namespace Ky
open PySem PySem.Spec PyProof.Rows L2

inductive Ty where
  | ty (n : String) | cl (c : Str)
/-- built-in functions and types, called with places -/
inductive Bi where
  | len | abs | max2 | min2 | int | tuple | list | sorted | sum | divmod | bool | any | all | max | min | str
  deriving DecidableEq
/-- methods that change a list -/
inductive Bm where
  | append | pop | popAt | insert | extend | clear | reverse
  deriving DecidableEq
inductive Tg where
  | nm (i : Nat) | tp (is : List Nat)

mutual
inductive Ex where
  | var (i : Nat) | cst (d : D) | glb (x : Str)
  | bin (o : Operator) (a b : Ex) | neg (a : Ex) | nt (a : Ex)
  | cmp (o : CmpOp) (a b : Ex) | cm2 (o o' : CmpOp) (a b c : Ex)
  | an (a b : Ex) | or (a b : Ex) | ite (c : Tx) (a b : Ex)
  | tup (es : Exs) | lst (es : Exs)
  | idx (a b : Ex) | slc (a : Ex) (lo hi : Ox) | rev (a : Ex)
  | call (q : Str) (es : Exs) | callk (j : Nat) (es zs : Exs) | calv (i : Nat) (es : Exs)
  | mk (c : Str) (es : Exs) | meth (m : Str) (o : Ex) (es : Exs)
  | fld (o : Ex) (f : Str) | ccon (c : Str) (f : Str)
  | bi (b : Bi) (es : Exs) | isi (e : Ex) (t : Ty) | isis (e : Ex) (ts : List Ty)
  | mut (m : Bm) (i : Nat) (es : Exs)
  | comp (vs : List Nat) (g : Tg) (it : Itx) (c : Tx) (el : Ex)
  | efld (i : Nat) (f : Str)
  | cdx (x : Str) (e : Ex)
  | eisi (i : Nat) (t : Str) | eisis (i : Nat) (ts : List Str)
  /-- tuple(range(..)), list(range(..)) -/
  | rg1 (tp : Bool) (a : Ex) | rg2 (tp : Bool) (a b : Ex)
  /-- never reached -/
  | dead
inductive Exs where
  | nil | cons (e : Ex) (es : Exs)
inductive Ox where
  | no | so (e : Ex)
/-- tests -/
inductive Tx where
  | yes | an (a b : Tx) | or (a b : Tx) | nt (a : Tx) | cmp (o : CmpOp) (a b : Ex) | cm2 (o o' : CmpOp) (a b c : Ex) | val (a : Ex)
inductive Itx where
  | seq (e : Ex) | rng1 (a : Ex) | rng2 (a b : Ex) | zip (a b : Ex) | enum (a : Ex)
end

mutual
inductive Sx where
  | set (i : Nat) (e : Ex) | asg (is : List Nat) (e : Ex) | par (i j : Nat) (a b : Ex)
  | setIx (i : Nat) (k e : Ex) | setFld (i : Nat) (f : Str) (e : Ex) | aug (i : Nat) (o : Operator) (e : Ex)
  | ex (e : Ex) | ret (e : Ex) | retN | ifs (c : Tx) (a b : Sxs)
  | for (g : Tg) (it : Itx) (b : Sxs) | while (c : Tx) (b : Sxs)
  | raise (c : Str) (es : Exs) | try1 (b : Sxs) (c : Str) (i : Nat) (h : Sxs)
  | pass | brk | cont | dead
inductive Sxs where
  | nil | cons (s : Sx) (r : Sxs)
end

inductive Rs (α : Type) where
  | ok (a : α) (env : Env) | exc (c : Str) (fs : List (Str × D)) (env : Env) | bad
def Rs.bind {α β : Type} (x : Rs α) (f : α → Env → Rs β) : Rs β := match x with
  | .ok a e => f a e
  | .exc c fs e => .exc c fs e
  | .bad => .bad
/-- no error may come -/
def Rs.nx {α : Type} (x : Rs α) : Rs α := match x with
  | .ok a e => .ok a e
  | _ => .bad
def Rs.of {α : Type} (o : Option α) (env : Env) : Rs α := match o with | some a => .ok a env | none => .bad

/-- what a call gives: its value, the changed objects that were lent -/
inductive CR where
  | ok (r : R) (os : List O) | exc (c : Str) (fs : List (Str × D)) | bad

/-- tables of the program -/
structure GT where
  cst : Str → Option D
  prop : Str → Str → Option Str
  meth : Str → Str → Option Str
  ccon : Str → Str → Option D
  eqm : Str → Option Str
  dct : Str → Option (List (Str × D))
  sub : Str → Str → Bool
  cl : List Str
  /-- the module's own defs; built-in names that it leaves alone -/
  gl : List Str
  bl : List Str
  flds : Str → List Str
  exc : Str → Option (List Str)
  /-- calls with keywords: the def, how many values stand ahead, the names, where each parameter's value stands (values, keywords' values, constants) -/
  kws : List (Str × Nat × List Str × List Nat × List D)
  /-- classes that an error may be asked for -/
  xcl : List Str
  lf : Nat
  /-- within an except suite -/
  hot : Bool
def GT.at (G : GT) (h : Bool) : GT := { G with hot := h }
/-- built-ins that may be called within an except suite -/
def hotB : Bi → Bool | .max2 => false | .min2 => false | .sum => false | _ => true

/-! ### data -/
mutual
def toP : D → Option PyData
  | .non => some .none
  | .bl b => some (.bool b)
  | .int i => some (.int i)
  | .str x => some (.str x)
  | .tup xs => (toPL xs).map .tuple
  | .lst xs => (toPL xs).map .list
  | .scr ns => some (.list (ns.map .int))
  | _ => none
def toPL : List D → Option (List PyData)
  | [] => some []
  | d :: ds => match toP d, toPL ds with | some p, some ps => some (p :: ps) | _, _ => none
end
def eqD (a b : D) : Option Bool := match a, b with
  | .int i, .int j => some (decide (i = j))
  | .str i, .str j => some (decide (i = j))
  | .bl i, .bl j => some (decide (i = j))
  | .non, .non => some true
  | a, b => match toP a, toP b with
    | some p, some q => if SeqAt.shaped p && SeqAt.shaped q then some (PyData.eqv p q) else none
    | _, _ => none
def flatD : D → Bool | .non => true | .bl _ => true | .int _ => true | .str _ => true | _ => false
def eqF : D → D → Bool
  | .non, .non => true
  | .bl a, .bl b => a == b
  | .bl a, .int b => (if a then 1 else 0) == b
  | .int a, .bl b => a == (if b then 1 else 0)
  | .int a, .int b => a == b
  | .str a, .str b => a == b
  | _, _ => false
def itemsD : D → Option (List D)
  | .tup xs => some xs
  | .lst xs => some xs
  | .scr ns => some (ns.map .int)
  | _ => none
def inD (x : D) (y : D) : Option Bool := match itemsD y with
  | some xs => if flatD x && xs.all flatD then some (xs.any fun y => eqF y x) else none
  | none => none
def isD (x y : D) : Option Bool := match x, y with
  | x, .non => some (match x with | .non => true | _ => false)
  | _, _ => none
def cmpD (o : CmpOp) (a b : D) : Option Bool := match o with
  | .Eq => eqD a b
  | .NotEq => (eqD a b).map not
  | .Lt => match a, b with | .int i, .int j => some (decide (i < j)) | _, _ => none
  | .LtE => match a, b with | .int i, .int j => some (decide (i ≤ j)) | _, _ => none
  | .Gt => match a, b with | .int i, .int j => some (decide (j < i)) | _, _ => none
  | .GtE => match a, b with | .int i, .int j => some (decide (j ≤ i)) | _, _ => none
  | .Is => isD a b
  | .IsNot => (isD a b).map not
  | .In => inD a b
  | .NotIn => (inD a b).map not
/-- a product that is made at once -/
def mulB (i j : Int) : Bool := decide (i.natAbs < 2 ^ 64) || decide (j.natAbs < 2 ^ 64) || decide (i.natAbs.log2 + j.natAbs.log2 < 1000000)
def divB (j : Int) : Bool := decide (0 < j) && decide (j.natAbs.log2 < 9000)
def powB (i j : Int) : Bool := decide (0 ≤ j) && decide ((Builtin.Int.intBits i : Int) * j ≤ 2 ^ 27)
/-- x op= y of whole numbers -/
def augD (o : Operator) (i j : Int) : Option Int := match o with
  | .Add => some (i + j)
  | .Sub => some (i - j)
  | .Mult => if mulB i j then some (i * j) else none
  | .FloorDiv => if divB j then some (i / j) else none
  | .Mod => if 0 < j then some (i % j) else none
  | _ => none
abbrev lim : Nat := 16777216
def binD (o : Operator) (a b : D) : Option R := match o with
  | .Add => match a, b with
    | .int i, .int j => some (.v (.int (i + j)))
    | .lst xs, .lst ys => if xs.length + ys.length ≤ lim then some (.own (.L (xs ++ ys))) else none
    | .tup xs, .tup ys => if xs.length + ys.length ≤ lim ∧ xs ≠ [] then some (.v (.tup (xs ++ ys))) else none
    | .str x, .str y => if x.length + y.length ≤ lim then some (.v (.str (x ++ y))) else none
    | _, _ => none
  | .Sub => match a, b with | .int i, .int j => some (.v (.int (i - j))) | _, _ => none
  | .Mult => match a, b with
    | .int i, .int j => if mulB i j then some (.v (.int (i * j))) else none
    | _, _ => none
  | .FloorDiv => match a, b with | .int i, .int j => if divB j then some (.v (.int (i / j))) else none | _, _ => none
  | .Mod => match a, b with | .int i, .int j => if 0 < j then some (.v (.int (i % j))) else none | _, _ => none
  | .Pow => match a, b with | .int i, .int j => if powB i j then some (.v (.int (i ^ j.toNat))) else none | _, _ => none
  | _ => none
def negD : D → Option D | .int i => some (.int (-i)) | _ => none
def truD : D → Option Bool
  | .non => some false
  | .bl b => some b
  | .int i => some (i != 0)
  | .tup xs => some (!xs.isEmpty)
  | .lst xs => some (!xs.isEmpty)
  | _ => none
def ixD (a b : D) : Option D := match a, b with
  | .tup xs, .int i => atI xs i
  | .lst xs, .int i => atI xs i
  | .scr ns, .int i => (atI ns i).map .int
  | _, _ => none
def cutD {α : Type} (xs : List α) (lo hi : Option Int) : List α := (xs.drop (HT.sIx xs.length 0 lo)).take (HT.sIx xs.length xs.length hi - HT.sIx xs.length 0 lo)
def slcD (a : D) (lo hi : Option Int) : Option R := match a with
  | .lst xs => some (.own (.L (cutD xs lo hi)))
  | .scr ns => some (.own (.L ((cutD ns lo hi).map .int)))
  | .tup xs => some (.v (.tup (cutD xs lo hi)))
  | _ => none
/-- the kind of a value: a built-in type or an own class -/
def kindD : D → Option (String ⊕ Str)
  | .non => some (.inl "NoneType")
  | .bl _ => some (.inl "bool")
  | .int _ => some (.inl "int")
  | .str _ => some (.inl "str")
  | .tup _ => some (.inl "tuple")
  | .lst _ => some (.inl "list")
  | .scr _ => some (.inl "list")
  | .ins c _ => some (.inr c)
  | _ => none
def okTy : List String := ["int", "bool", "str", "list", "tuple"]
def isiB (a b : String) : Bool := a == b || (a == "bool" && b == "int")
def isiT (cl : List Str) (sub : Str → Str → Bool) (d : D) (t : Ty) : Option Bool := match kindD d, t with
  | some (.inl a), .ty b => if okTy.contains b then some (isiB a b) else none
  | some (.inl _), .cl c => if cl.contains c then some false else none
  | some (.inr c'), .ty b => if cl.contains c' && okTy.contains b then some false else none
  | some (.inr c'), .cl c => if cl.contains c' && cl.contains c then some (sub c' c) else none
  | none, _ => none
/-- whole numbers, all -/
def intsD : List D → Option (List Int)
  | [] => some []
  | .int i :: ds => (intsD ds).map (i :: ·)
  | _ => none
def insI (x : Int) : List Int → List Int
  | [] => [x]
  | y :: ys => if x ≤ y then x :: y :: ys else y :: insI x ys
def sortI (xs : List Int) : List Int := xs.foldr insI []
def lenD : D → Option Nat
  | .tup xs => some xs.length
  | .lst xs => some xs.length
  | .scr xs => some xs.length
  | .str x => if x.length ≤ lim then some x.length else none
  | _ => none
def biD (b : Bi) (ds : List D) : Option R := match b, ds with
  | .len, [d] => (lenD d).map fun n => .v (.int n)
  | .abs, [.int i] => some (.v (.int (if i < 0 then -i else i)))
  | .max2, [.int i, .int j] => some (.v (.int (if j > i then j else i)))
  | .min2, [.int i, .int j] => some (.v (.int (if j < i then j else i)))
  | .int, [.int i] => some (.v (.int i))
  | .int, [.bl b] => some (.v (.int (if b then 1 else 0)))
  | .bool, [.int i] => some (.v (.bl (i != 0)))
  | .bool, [.bl b] => some (.v (.bl b))
  | .tuple, [.lst xs] => some (.v (.tup xs))
  | .tuple, [.tup xs] => some (.v (.tup xs))
  | .tuple, [.scr ns] => some (.v (.tup (ns.map .int)))
  | .list, [.lst xs] => some (.own (.L xs))
  | .list, [.tup xs] => some (.own (.L xs))
  | .list, [.scr ns] => some (.own (.L (ns.map .int)))
  | .divmod, [.int i, .int j] => if divB j then some (.v (.tup [.int (i / j), .int (i % j)])) else none
  | .sum, [.lst xs] => (intsD xs).map fun ns => .v (.int ns.sum)
  | .sorted, [.lst xs] => (intsD xs).map fun ns => .own (.L ((sortI ns).map .int))
  | _, _ => none
/-- a list, changed; the call's value -/
def mutD (m : Bm) (xs : List D) (ds : List D) : Option (List D × D) := match m, ds with
  | .append, [d] => if xs.length < lim then some (xs ++ [d], .non) else none
  | .pop, [] => if h : xs ≠ [] then some (xs.dropLast, xs.getLast h) else none
  | .popAt, [.int i] => if 0 ≤ i ∧ i < 2 ^ 62 then (match xs[i.toNat]? with | some d => some (xs.eraseIdx i.toNat, d) | none => none) else none
  | .insert, [.int i, d] => if 0 ≤ i ∧ i < 2 ^ 62 ∧ xs.length < lim then some (xs.take i.toNat ++ [d] ++ xs.drop i.toNat, .non) else none
  | .extend, [.lst ys] => if xs.length + ys.length ≤ lim then some (xs ++ ys, .non) else none
  | .clear, [] => some ([], .non)
  | .reverse, [] => some (xs.reverse, .non)
  | _, _ => none

/-! ### slots -/
def frz (r : R) (env : Env) : Option (D × Env) := match r with
  | .v d => some (d, env)
  | .own o => some (o.dat, env)
  | .sl i => match env[i]? with
    | some (some (.v d)) => some (d, env)
    | some (some (.own o)) => some (o.dat, env.set i (some (.v o.dat)))
    | _ => none
def frzs : List R → Env → Option (List D × Env)
  | [], env => some ([], env)
  | r :: rs, env => match frz r env with
    | some (d, e) => (match frzs rs e with | some (ds, e') => some (d :: ds, e') | none => none)
    | none => none
def put (i : Nat) (s : S) (env : Env) : Option Env := match env[i]? with
  | some (some (.bor _)) => none
  | some (some (.lk _)) => none
  | some _ => some (env.set i (some s))
  | none => none
/-- what is stored of a value -/
def toS (r : R) (env : Env) : Option (S × Env) := match r with
  | .own o => some (.own o, env)
  | r => match frz r env with | some (d, e) => some (.v d, e) | none => none
def asgT (g : Tg) (d : D) (env : Env) : Option Env := match g with
  | .nm i => put i (.v d) env
  | .tp is => match d with
    | .tup ds => if ds.length = is.length then (is.zip ds).foldl (fun e p => e.bind (put p.1 (.v p.2))) (some env) else none
    | _ => none
/-- an argument, lent where it is a slot's object -/
def lend (r : R) (env : Env) : Option S := match r with
  | .v d => some (.v d)
  | .own o => some (.own o)
  | .sl i => match env[i]? with
    | some (some (.own o)) => some (.bor o)
    | some (some (.bor o)) => some (.bor o)
    | some (some (.lk o)) => some (.ro o)
    | some (some (.ro o)) => some (.ro o)
    | some (some (.v d)) => some (.v d)
    | _ => none
def lends (rs : List R) (env : Env) : Option (List S) := match rs with
  | [] => some []
  | r :: rs => match lend r env, lends rs env with | some s, some ss => some (s :: ss) | _, _ => none
def slOf : R → Option Nat | .sl i => some i | _ => none
/-- the lent objects as the call leaves them, by parameter -/
def argsE : List S → List O → Env
  | [], _ => []
  | .bor _ :: ss, o :: os => some (.bor o) :: argsE ss os
  | _ :: ss, os => none :: argsE ss os
def borN : List S → Nat
  | [] => 0
  | .bor _ :: ss => borN ss + 1
  | _ :: ss => borN ss
def kindS (s : S) (o : O) : S := match s with | .bor _ => .bor o | _ => .own o
def setK (i : Nat) (o : O) (env : Env) : Env := match env[i]? with | some (some s) => env.set i (some (kindS s o)) | _ => env
def back : List R → Env → Env → Env
  | .sl i :: rs, some (.bor o) :: as, env => back rs as (setK i o env)
  | _ :: rs, _ :: as, env => back rs as env
  | _, _, env => env
/-- behind an error of the call they are not known -/
def lose : List R → List S → Env → Env
  | .sl i :: rs, .bor _ :: ss, env => lose rs ss (env.set i none)
  | _ :: rs, _ :: ss, env => lose rs ss env
  | _, _, env => env
def ndN : List Nat → Bool
  | [] => true
  | i :: is => !is.contains i && ndN is
def callR (c : List S → CR) (rs : List R) (env : Env) : Rs R := match lends rs env with
  | some ss => if ndN (rs.filterMap slOf) then (match c ss with
      | .ok (.sl _) _ => .bad
      | .ok r os => if os.length = borN ss then .ok r (back rs (argsE ss os) env) else .bad
      | .exc x fs => .exc x fs (lose rs ss env)
      | .bad => .bad) else .bad
  | none => .bad
/-- the slots that are walked, locked -/
def lks : R → List Nat | .sl i => [i] | _ => []
def lock1 (env : Env) (i : Nat) : Env := match env[i]? with
  | some (some (.own o)) => env.set i (some (.lk o))
  | some (some (.bor o)) => env.set i (some (.lk o))
  | _ => env
def lock (is : List Nat) (env : Env) : Env := is.foldl lock1 env
def unlock1 (env₀ env : Env) (i : Nat) : Option Env := match env₀[i]? with
  | some (some (.own _)) => (match env[i]? with | some (some (.lk o)) => some (env.set i (some (.own o))) | _ => none)
  | some (some (.bor _)) => (match env[i]? with | some (some (.lk o)) => some (env.set i (some (.bor o))) | _ => none)
  | _ => some env
def unlock (env₀ : Env) : List Nat → Env → Option Env
  | [], env => some env
  | i :: is, env => match unlock1 env₀ env i with | some e => unlock env₀ is e | none => none
def zipD (xs ys : List D) : List D := List.zipWith (fun x y => .tup [x, y]) xs ys
def enumD (xs : List D) : List D := List.zipWith (fun (i : Nat) x => .tup [.int i, x]) (List.range xs.length) xs
def isLd : D → Bool | .lst _ => true | .scr _ => true | _ => false
def wipeE (env : Env) : List Nat → Env
  | [] => env
  | v :: vs => (wipeE env vs).set v none
/-- the comprehension's own names are as they were ahead of it -/
def restE (env₀ env : Env) : List Nat → Env
  | [] => env
  | v :: vs => (restE env₀ env vs).set v (env₀[v]?.getD none)
def plainAt (env : Env) (vs : List Nat) : Bool := vs.all fun v => match env[v]? with | some none => true | some (some (.v _)) => true | _ => false
def rngI (lo hi : Int) : List D := (List.range (hi - lo).toNat).map fun (k : Nat) => .int (lo + (k : Int))
def smallB (i : Int) : Bool := decide (-(2 ^ 62) ≤ i) && decide (i < 2 ^ 62)

def rgB (i j : Int) : Bool := smallB i && smallB j && decide ((j - i).toNat ≤ lim)
def rgR (tp : Bool) (i j : Int) : R := if tp = true then .v (.tup (rngI i j)) else .own (.L (rngI i j))
def isLs : Option (Option S) → Bool | some (some (.own (.L _))) => true | some (some (.bor (.L _))) => true | _ => false

/-! ### expressions -/
section
variable (G : GT) (call : Str → List S → CR)
def cmpR (o : CmpOp) (r1 r2 : R) (env : Env) : Rs R := match r1.dat env, r2.dat env with
  | some d1, some d2 => (match cmpD o d1 d2 with
    | some b => .ok (.v (.bl b)) env
    | none => (match o, r1, r2 with
      | .Eq, .v (.ins c fs), .v (.ins c' fs') => if c' = c then (match G.eqm c with
        | some q => (match callR (call q) [r1, r2] env with
          | .ok (.v (.bl b)) e => .ok (.v (.bl b)) e
          | _ => .bad)
        | none => .bad) else .bad
      | _, _, _ => .bad))
  | _, _ => .bad
def loopC (turn : D → List D → Env → Rs (List D)) : List D → List D → Env → Rs (List D)
  | [], acc, env => .ok acc env
  | d :: ds, acc, env => (turn d acc env).bind fun acc e => loopC turn ds acc e
/-- an instance is made -/
def mkC (c : Str) (ss : List S) : CR := match call (c ++ ".__init__") (.bor (.I c []) :: ss) with
  | .ok (.v .non) (o :: os) => .ok (.v o.dat) os
  | .ok _ _ => .bad
  | .exc x fs => .exc x fs
  | .bad => .bad
mutual
def ev : Ex → Env → Rs R
  | .var i, env => match env[i]? with
    | some (some (.v d)) => .ok (.v d) env
    | some (some _) => .ok (.sl i) env
    | _ => .bad
  | .cst d, env => .ok (.v d) env
  | .glb x, env => Rs.of ((G.cst x).map .v) env
  | .bin o a b, env => (ev a env).bind fun r1 e1 => (ev b e1).bind fun r2 e2 =>
    match r1.dat e2, r2.dat e2 with | some d1, some d2 => Rs.of (binD o d1 d2) e2 | _, _ => .bad
  | .neg a, env => (ev a env).bind fun r e => match r.dat e with | some d => Rs.of ((negD d).map .v) e | none => .bad
  | .nt a, env => (ev a env).bind fun r e => match r.dat e with | some (.bl b) => .ok (.v (.bl !b)) e | _ => .bad
  | .cmp o a b, env => (ev a env).bind fun r1 e1 => (ev b e1).bind fun r2 e2 => cmpR G call o r1 r2 e2
  | .cm2 o o' a b c, env => (ev a env).bind fun r1 e1 => (ev b e1).bind fun r2 e2 => (cmpR G call o r1 r2 e2).bind fun q e3 =>
    match q.dat e3 with
    | some (.bl true) => (ev c e3).bind fun r3 e4 => cmpR G call o' r2 r3 e4
    | some (.bl false) => .ok (.v (.bl false)) e3
    | _ => .bad
  | .an a b, env => (ev a env).bind fun r e => match r.dat e with
    | some (.bl true) => ev b e
    | some (.bl false) => .ok (.v (.bl false)) e
    | _ => .bad
  | .or a b, env => (ev a env).bind fun r e => match r.dat e with
    | some (.bl true) => .ok (.v (.bl true)) e
    | some (.bl false) => ev b e
    | _ => .bad
  | .ite c a b, env => (evT c env).bind fun t e => if t = true then ev a e else ev b e
  | .tup es, env => (evs es env).bind fun rs e => match frzs rs e with | some (ds, e') => if ds.length ≤ lim then .ok (.v (.tup ds)) e' else .bad | none => .bad
  | .lst es, env => (evs es env).bind fun rs e => match frzs rs e with | some (ds, e') => if ds.length ≤ lim then .ok (.own (.L ds)) e' else .bad | none => .bad
  | .idx a b, env => (ev a env).bind fun r1 e1 => (ev b e1).bind fun r2 e2 =>
    match r1.dat e2, r2.dat e2 with | some d1, some d2 => Rs.of ((ixD d1 d2).map .v) e2 | _, _ => .bad
  | .slc a lo hi, env => (ev a env).bind fun r e1 => (evO lo e1).bind fun l e2 => (evO hi e2).bind fun h e3 =>
    match r.dat e3 with | some d => Rs.of (slcD d l h) e3 | none => .bad
  | .rev a, env => (ev a env).bind fun r e => match r.dat e with
    | some (.lst xs) => .ok (.own (.L xs.reverse)) e
    | some (.tup xs) => .ok (.v (.tup xs.reverse)) e
    | _ => .bad
  | .call q es, env => (evs es env).bind fun rs e => callR (call q) rs e
  | .callk j es zs, env => if G.hot then .bad else match G.kws[j]? with
    | some (q, n, ks, ar, ds) => (evs es env).bind fun rs e => (evs zs e).bind fun zs e' => if rs.length = n ∧ zs.length = ks.length then (match ar.mapM fun i => (rs ++ zs ++ ds.map R.v)[i]? with
      | some us => callR (call q) us e'
      | none => .bad) else .bad
    | none => .bad
  | .calv i es, env => match env[i]? with
    | some (some (.v (.fn q))) => if G.gl.contains q then (evs es env).bind fun rs e => callR (call q) rs e else .bad
    | _ => .bad
  | .mk c es, env => if G.hot then .bad else if G.cl.contains c then (evs es env).bind fun rs e => callR (mkC call c) rs e else .bad
  | .meth m o es, env => (ev o env).bind fun r e => match r with
    | .v (.ins c fs) => (match G.meth c m with
      | some q => if (fs.lookup m).isNone then (evs es e).bind fun rs e' => callR (fun ss => call q (.v (.ins c fs) :: ss)) rs e' else .bad
      | none => .bad)
    | _ => .bad
  | .fld o f, env => (ev o env).bind fun r e => match r.dat e with
    | some (.ins c fs) => (match fs.lookup f with
      | some d => if (G.flds c).contains f then .ok (.v d) e else .bad
      | none => (match G.prop c f with
        | some q => (match r with
          | .v d => if G.hot then .bad else (match call q [.v d] with | .ok (.v d') [] => .ok (.v d') e | _ => .bad)
          | _ => .bad)
        | none => .bad))
    | _ => .bad
  | .ccon c f, env => Rs.of ((G.ccon c f).map .v) env
  | .bi b es, env => if G.hot && !hotB b then .bad else (evs es env).bind fun rs e => match rs.mapM (R.dat e) with | some ds => Rs.of (biD b ds) e | none => .bad
  | .isi a t, env => (ev a env).bind fun r e => match r.dat e with | some d => Rs.of ((isiT G.cl G.sub d t).map fun b => .v (.bl b)) e | none => .bad
  | .isis a ts, env => (ev a env).bind fun r e => match r.dat e with
    | some d => (match ts.mapM (isiT G.cl G.sub d) with | some bs => .ok (.v (.bl (bs.any _root_.id))) e | none => .bad)
    | none => .bad
  | .mut m i es, env => if isLs env[i]? then (evs es env).bind fun rs e => (match frzs rs e with
      | some (ds, e') => (match e'[i]? with
        | some (some (.own (.L xs))) => (match mutD m xs ds with | some (ys, d) => .ok (.v d) (e'.set i (some (.own (.L ys)))) | none => .bad)
        | some (some (.bor (.L xs))) => (match mutD m xs ds with | some (ys, d) => .ok (.v d) (e'.set i (some (.bor (.L ys)))) | none => .bad)
        | _ => .bad)
      | none => .bad) else .bad
  | .comp vs g it c el, env => if G.hot then .bad else (evI it env).bind fun p e => if plainAt e vs then
      (loopC (fun d acc e1 => match asgT g d e1 with
        | some e2 => (evT c e2).bind fun b e3 => if b = true then
              (ev el e3).bind fun r e4 => (match frz r e4 with | some (x, e5) => if acc.length < lim then .ok (acc ++ [x]) (wipeE e5 vs) else .bad | none => .bad)
            else .ok acc (wipeE e3 vs)
        | none => .bad) p.1 [] (wipeE (lock p.2 e) vs)).nx.bind fun xs e2 => (match unlock e p.2 e2 with | some e3 => .ok (.own (.L xs)) (restE e e3 vs) | none => .bad)
    else .bad
  | .efld i f, env => match env[i]? with
    | some (some (.x c fs)) => (match G.exc c with
      | some l => if l.contains f then Rs.of ((fs.lookup f).map .v) env else .bad
      | none => .bad)
    | _ => .bad
  | .eisi i t, env => match env[i]? with
    | some (some (.x c _)) => if (G.exc c).isSome && G.xcl.contains t then .ok (.v (.bl (G.sub c t))) env else .bad
    | _ => .bad
  | .eisis i ts, env => match env[i]? with
    | some (some (.x c _)) => if (G.exc c).isSome && ts.all G.xcl.contains then .ok (.v (.bl (ts.any (G.sub c)))) env else .bad
    | _ => .bad
  | .cdx x a, env => (ev a env).bind fun r e => match r.dat e, G.dct x with
    | some (.str z), some kvs => Rs.of ((kvs.lookup z).map .v) e
    | _, _ => .bad
  | .rg1 tp a, env => if G.hot then .bad else (ev a env).bind fun r e => match r.dat e with
    | some (.int j) => if rgB 0 j then .ok (rgR tp 0 j) e else .bad
    | _ => .bad
  | .rg2 tp a b, env => if G.hot then .bad else (ev a env).bind fun r1 e1 => (ev b e1).bind fun r2 e2 => match r1.dat e2, r2.dat e2 with
    | some (.int i), some (.int j) => if rgB i j then .ok (rgR tp i j) e2 else .bad
    | _, _ => .bad
  | .dead, _ => .bad
def evs : Exs → Env → Rs (List R)
  | .nil, env => .ok [] env
  | .cons e es, env => (ev e env).bind fun r e1 => (evs es e1).bind fun rs e2 => .ok (r :: rs) e2
def evO : Ox → Env → Rs (Option Int)
  | .no, env => .ok none env
  | .so e, env => (ev e env).bind fun r e1 => match r.dat e1 with | some (.int i) => .ok (some i) e1 | _ => .bad
/-- a test -/
def evT : Tx → Env → Rs Bool
  | .yes, env => .ok true env
  | .an a b, env => (evT a env).bind fun t e => if t = true then evT b e else .ok false e
  | .or a b, env => (evT a env).bind fun t e => if t = true then .ok true e else evT b e
  | .nt a, env => (evT a env).bind fun t e => .ok (!t) e
  | .cmp o a b, env => (ev a env).bind fun r1 e1 => (ev b e1).bind fun r2 e2 => (cmpR G call o r1 r2 e2).bind fun q e3 => match q.dat e3 with | some (.bl t) => .ok t e3 | _ => .bad
  | .cm2 o o' a b c, env => (ev a env).bind fun r1 e1 => (ev b e1).bind fun r2 e2 => (cmpR G call o r1 r2 e2).bind fun q e3 =>
    match q.dat e3 with
    | some (.bl true) => (ev c e3).bind fun r3 e4 => (cmpR G call o' r2 r3 e4).bind fun q e5 => match q.dat e5 with | some (.bl t) => .ok t e5 | _ => .bad
    | some (.bl false) => .ok false e3
    | _ => .bad
  | .val a, env => (ev a env).bind fun r e => match r.dat e with | some d => Rs.of (truD d) e | none => .bad
/-- what is walked: the items, the thing itself -/
def evI : Itx → Env → Rs (List D × List Nat)
  | .seq a, env => (ev a env).bind fun r e => match r.dat e with | some d => Rs.of ((itemsD d).map fun xs => (xs, lks r)) e | none => .bad
  | .rng1 a, env => (ev a env).bind fun r e => match r.dat e with | some (.int j) => if smallB j then .ok (rngI 0 j, []) e else .bad | _ => .bad
  | .rng2 a b, env => (ev a env).bind fun r1 e1 => (ev b e1).bind fun r2 e2 => match r1.dat e2, r2.dat e2 with
    | some (.int i), some (.int j) => if smallB i && smallB j then .ok (rngI i j, []) e2 else .bad
    | _, _ => .bad
  | .zip a b, env => (ev a env).bind fun r1 e1 => (ev b e1).bind fun r2 e2 => match r1.dat e2, r2.dat e2 with
    | some d1, some d2 => (match itemsD d1, itemsD d2 with
      | some xs, some ys => if isLd d1 = isLd d2 ∧ ndN (lks r1 ++ lks r2) then .ok (zipD xs ys, lks r1 ++ lks r2) e2 else .bad
      | _, _ => .bad)
    | _, _ => .bad
  | .enum a, env => (ev a env).bind fun r e => match r.dat e with
    | some d => (match itemsD d with | some xs => if isLd d then .ok (enumD xs, lks r) e else .bad | none => .bad)
    | none => .bad
end

/-! ### statements -/
inductive SR where
  | next (env : Env) | ret (r : R) (env : Env) | brk (env : Env) | cont (env : Env) | exc (c : Str) (fs : List (Str × D)) (env : Env) | bad
def Rs.to {α : Type} (x : Rs α) (f : α → Env → SR) : SR := match x with
  | .ok a e => f a e
  | .exc c fs e => .exc c fs e
  | .bad => .bad
def SR.nx (o : Option Env) : SR := match o with | some e => .next e | none => .bad
def loopF (turn : D → Env → SR) : List D → Env → SR
  | [], env => .next env
  | d :: ds, env => match turn d env with
    | .next e => loopF turn ds e
    | .cont e => loopF turn ds e
    | .brk e => .next e
    | r => r
def loopW (test : Env → Rs Bool) (body : Env → SR) : Nat → Env → SR
  | 0, _ => .bad
  | n + 1, env => (test env).to fun b e => if b = true then (match body e with
      | .next e => loopW test body n e
      | .cont e => loopW test body n e
      | .brk e => .next e
      | r => r) else .next e
/-- caught errors are let go -/
def dropX (env : Env) : Env := env.map fun s => match s with | some (.x _ _) => none | s => s
variable (callB : Bool → Str → List S → CR)
mutual
def exS : Sx → Bool → Env → SR
  | .set i a, h, env => (ev (G.at h) (callB h) a env).to fun r e => match toS r e with | some (s, e') => SR.nx (put i s e') | none => .bad
  | .asg is a, h, env => if h then .bad else (ev (G.at h) (callB h) a env).to fun r e => match r.dat e with | some d => SR.nx (asgT (.tp is) d e) | none => .bad
  | .par i j a b, h, env => (ev (G.at h) (callB h) a env).to fun r1 e1 => (ev (G.at h) (callB h) b e1).to fun r2 e2 => match toS r1 e2 with
    | some (s1, e3) => (match toS r2 e3 with
      | some (s2, e4) => (match put j s2 e4 with | some e5 => SR.nx (put i s1 e5) | none => .bad)
      | none => .bad)
    | none => .bad
  | .setIx i k a, h, env => (ev (G.at h) (callB h) a env).to fun r e => match frz r e with
    | some (d, e') => if isLs e'[i]? then (ev (G.at h) (callB h) k e').to fun rk e2 => (match rk.dat e2 with
      | some (.int n) => (match e2[i]? with
        | some (some (.own (.L xs))) => (match ixN xs.length n with | some j => .next (e2.set i (some (.own (.L (xs.set j d))))) | none => .bad)
        | some (some (.bor (.L xs))) => (match ixN xs.length n with | some j => .next (e2.set i (some (.bor (.L (xs.set j d))))) | none => .bad)
        | _ => .bad)
      | _ => .bad) else .bad
    | none => .bad
  | .setFld i f a, h, env => (ev (G.at h) (callB h) a env).to fun r e => match frz r e with
    | some (d, e') => (match e'[i]? with
      | some (some (.bor (.I c fs))) => if fs.length < 900 && (fs.lookup f).isNone && (G.flds c).contains f then .next (e'.set i (some (.bor (.I c (fs ++ [(f, d)]))))) else .bad
      | _ => .bad)
    | none => .bad
  | .aug i o a, h, env => match env[i]? with
    | some (some (.v (.int x))) => (ev (G.at h) (callB h) a env).to fun r e => (match r.dat e with
      | some (.int y) => (match augD o x y with | some z => SR.nx (put i (.v (.int z)) e) | none => .bad)
      | _ => .bad)
    | _ => .bad
  | .ex a, h, env => (ev (G.at h) (callB h) a env).to fun _ e => .next e
  | .ret a, h, env => (ev (G.at h) (callB h) a env).to fun r e => .ret r e
  | .retN, h, env => .ret (.v .non) env
  | .ifs c a b, h, env => (evT (G.at h) (callB h) c env).to fun t e => if t = true then exSs a h e else exSs b h e
  | .for g it b, h, env => if h then .bad else (evI (G.at h) (callB h) it env).to fun p e =>
    match loopF (fun d e1 => match asgT g d e1 with | some e2 => exSs b h e2 | none => .bad) p.1 (lock p.2 e) with
    | .next e2 => SR.nx (unlock e p.2 e2)
    | .ret r e2 => (match unlock e p.2 e2 with | some e3 => .ret r e3 | none => .bad)
    | .exc c fs e2 => (match unlock e p.2 e2 with | some e3 => .exc c fs e3 | none => .bad)
    | _ => .bad
  | .while c b, h, env => if h then .bad else loopW (evT (G.at h) (callB h) c) (exSs b h) G.lf env
  | .raise c es, h, env => if h then .bad else (evs (G.at h) (callB h) es env).to fun rs e => match frzs rs e, G.exc c with
    | some (ds, e'), some fs => if ds.length = fs.length then .exc c (fs.zip ds) e' else .bad
    | _, _ => .bad
  | .try1 b c i hd, h, env => if h then .bad else match exSs b h env with
    | .exc c' fs e => if (G.exc c').isSome && G.xcl.contains c then (if G.sub c' c then (match put i (.x c' fs) e with
          | some e1 => (match exSs hd true e1 with
            | .next e2 => .next (dropX (e2.set i none))
            | .ret r e2 => (match frz r e2 with | some (d, e3) => .ret (.v d) (dropX (e3.set i none)) | none => .bad)
            | .brk e2 => .brk (dropX (e2.set i none))
            | .cont e2 => .cont (dropX (e2.set i none))
            | .exc _ _ _ => .bad
            | .bad => .bad)
          | none => .bad) else .exc c' fs e) else .bad
    | r => r
  | .pass, h, env => .next env
  | .brk, h, env => .brk env
  | .cont, h, env => .cont env
  | .dead, _, _ => .bad
def exSs : Sxs → Bool → Env → SR
  | .nil, h, env => .next env
  | .cons s r, h, env => match exS s h env with
    | .next e => exSs r h e
    | q => q
end
end

/-! ### defs -/
structure Fn where
  /-- slots, parameters first -/
  N : List Str
  ps : List Str
  dfl : List D
  body : Sxs
def outs : List S → Env → Option (List O)
  | [], _ => some []
  | .bor _ :: ss, e :: env => match e with
    | some (.bor o) => (outs ss env).map (o :: ·)
    | _ => none
  | _ :: ss, _ :: env => outs ss env
  | _ :: _, [] => none
def fin (ss : List S) (r : R) (env : Env) : CR := match outs ss env with
  | some os => (match r with
    | .v d => .ok (.v d) os
    | .own o => .ok (.own o) os
    | .sl i => (match env[i]? with
      | some (some (.v d)) => .ok (.v d) os
      | some (some (.own o)) => .ok (.own o) os
      | _ => .bad))
  | none => .bad
def callF (G : GT) (fn : Str → Option Fn) : Nat → Bool → Str → List S → CR
  | 0, _, _, _ => .bad
  | n + 1, h, q, ss => match fn q with
    | none => .bad
    | some f => let ss' := ss ++ (f.dfl.drop (f.dfl.length - (f.ps.length - ss.length))).map .v
      if ss'.length = f.ps.length then (match exSs G (callF G fn n) f.body h (ss'.map some ++ List.replicate (f.N.length - f.ps.length) none) with
        | .next env => fin ss' (.v .non) env
        | .ret r env => fin ss' r env
        | .exc c fs _ => .exc c fs
        | _ => .bad)
      else .bad
end Ky
end
section
set_option Elab.async false
set_option linter.all false
set_option maxRecDepth 100000
/-! Ky, part D: the state's further turns: temporaries in any order, frozen, stored; the readings. -/
namespace Ky
open PySem PySem.Spec PyProof.Rows L2
section
variable {K : PySem.W.Frag} {adr : Str → Addr} {PN : Addr → Addr → Option Addr → Prop} {B F H F' H' : Hp} {env env' : Env} {σ : St} {ts us : List (R × V)} {r : R} {v : V} {d : D} {o : O} {a : Addr}

theorem StT.perm (h : StT K adr PN B F env σ H ts) (p : ts.Perm us) : StT K adr PN B F env σ H us :=
  ⟨h.sb, h.sf, h.dj, h.sl, fun t ht => h.tm t (p.mem_iff.mpr ht), h.d1, fun i a q z => h.d2 i a q ((p.filterMap tAdr).mem_iff.mpr z), ((p.filterMap tAdr).nodup_iff).mp h.d3⟩
theorem StT.weakE (h : StT K adr PN B F env σ H ts) (w : ∀ (i : Nat) (s : S), env'[i]? = some (some s) → env[i]? = some (some s)) (ht : ∀ t ∈ ts, ∀ i, t.1 = .sl i → ∃ s, env'[i]? = some (some s)) : StT K adr PN B F env' σ H ts := by
  have ob : ∀ i a, ObS env' σ i a → ObS env σ i a := fun i a ⟨⟨s, q1, q2⟩, q3⟩ => ⟨⟨s, w i s q1, q2⟩, q3⟩
  refine ⟨h.sb, h.sf, h.dj, fun i s q => h.sl i s (w i s q), fun t hm => ?_, fun i j a n q1 q2 => h.d1 i j a n (ob i a q1) (ob j a q2), fun i a q => h.d2 i a (ob i a q), h.d3⟩
  obtain ⟨r, v⟩ := t
  have h1 := h.tm _ hm
  cases r with
  | v d => exact h1
  | own o => exact h1
  | sl i => exact ⟨h1.1, ht _ hm i rfl⟩
/-- slot i is frozen -/
theorem StT.frzSl {i : Nat} {o : O} (h : StT K adr PN B F env σ H ts) (e : env[i]? = some (some (.own o))) :
    ∃ F', Same F F' ∧ StT K adr PN B F' (env.set i (some (.v o.dat))) σ H ts := by
  obtain ⟨v, hσ, a, hv, hB, hF, ho⟩ := h.sl i _ e
  subst hv
  obtain ⟨u, hu⟩ := ho.some'
  have hi : i < env.length := (List.getElem?_eq_some_iff.mp e).1
  have me : ObS env σ i a := ⟨⟨_, e, rfl⟩, hσ⟩
  have sf : Same F (upd F a u) := same_new hF
  have ob : ∀ j b, ObS (env.set i (some (.v o.dat))) σ j b → j ≠ i ∧ ObS env σ j b := fun j b ⟨⟨s, q1, q2⟩, q3⟩ => by
    by_cases hj : j = i
    · subst hj
      rw [List.getElem?_set_self hi] at q1
      cases q1; cases q2
    · rw [List.getElem?_set_ne (Ne.symm hj)] at q1
      exact ⟨hj, ⟨s, q1, q2⟩, q3⟩
  have keepN : ∀ b, b ≠ a → F b = none → upd F a u b = none := fun b n q => by rw [upd_ne n]; exact q
  refine ⟨upd F a u, sf, h.sb, fun b w q => ?_, fun b w q => ?_, fun j s q => ?_, fun t ht => ?_, fun j k b n q1 q2 => h.d1 j k b n (ob j b q1).2 (ob k b q2).2, fun j b q => h.d2 j b (ob j b q).2, h.d3⟩
  · by_cases e : b = a
    · subst e; rw [upd_same] at q; cases q; exact hu
    · rw [upd_ne e] at q; exact h.sf b w q
  · rw [upd_ne (fun e => by subst e; rw [hB] at q; cases q)]; exact h.dj b w q
  · by_cases hj : j = i
    · subst hj
      rw [List.getElem?_set_self hi] at q
      cases q
      exact ⟨_, hσ, ho.rep sf fun w z => by rw [hu] at z; cases z; exact upd_same⟩
    · rw [List.getElem?_set_ne (Ne.symm hj)] at q
      obtain ⟨v, h1, h2⟩ := h.sl j s q
      refine ⟨v, h1, h2.mono sf (fun _ z _ => z) (fun b u z => ⟨⟨u, z⟩, fun _ y => y⟩) (fun b e so n => keepN b (fun z => ?_) n) (fun b w _ _ z => z)⟩
      subst z
      exact h.d1 j i b hj ⟨⟨s, q, so⟩, by rw [h1, e]⟩ me
  · obtain ⟨r, v⟩ := t
    have h1 := h.tm _ ht
    cases r with
    | sl j =>
      obtain ⟨q1, s, q2⟩ := h1
      refine ⟨q1, ?_⟩
      by_cases hj : j = i
      · subst hj; exact ⟨_, List.getElem?_set_self hi⟩
      · exact ⟨s, by rw [List.getElem?_set_ne (Ne.symm hj)]; exact q2⟩
    | v d => exact Rep.mono sf _ _ h1
    | own o' =>
      refine TAt.mono (env := env) h1 sf (fun _ z _ => z) (fun b e n => keepN b (fun z => ?_) n) (fun b w _ z => z)
      subst z
      exact h.d2 i b me (List.mem_filterMap.mpr ⟨_, ht, e⟩)
/-- the top temporary is made data -/
theorem StT.frz1 {e' : Env} (h : StT K adr PN B F env σ H ((r, v) :: ts)) (q : frz r env = some (d, e')) :
    ∃ F', Same F F' ∧ StT K adr PN B F' e' σ H ((.v d, v) :: ts) := by
  cases r with
  | v d' => cases q; exact ⟨F, Same.rfl', h⟩
  | own o =>
    cases q
    obtain ⟨p, hv, _⟩ := h.tm _ List.mem_cons_self
    have hv : v = .ref p := hv
    subst hv
    exact h.frzOwn
  | sl i =>
    have q : (match env[i]? with
      | some (some (.v d)) => some (d, env)
      | some (some (.own o)) => some (o.dat, env.set i (some (.v o.dat)))
      | _ => none) = some (d, e') := q
    obtain ⟨hσ, s, hs⟩ := h.tm _ List.mem_cons_self
    have hσ : σ[i]? = some (some v) := hσ
    have toV : ∀ {F1 : Hp} {e1 : Env} {d1 : D}, StT K adr PN B F1 e1 σ H ((R.sl i, v) :: ts) → e1[i]? = some (some (.v d1)) → StT K adr PN B F1 e1 σ H ((.v d1, v) :: ts) := fun {F1 e1 d1} g z => by
      refine ⟨g.sb, g.sf, g.dj, g.sl, fun t ht => ?_, g.d1, g.d2, g.d3⟩
      rcases List.mem_cons.mp ht with rfl | ht
      · obtain ⟨w, w1, w2⟩ := g.sl i _ z
        rw [hσ] at w1; cases w1
        exact w2
      · exact g.tm t (List.mem_cons_of_mem _ ht)
    rw [hs] at q
    cases s with
    | v d' => cases q; exact ⟨F, Same.rfl', toV h hs⟩
    | own o =>
      cases q
      obtain ⟨F1, s1, g⟩ := h.frzSl hs
      exact ⟨F1, s1, toV g (List.getElem?_set_self (List.getElem?_eq_some_iff.mp hs).1)⟩
    | bor o => cases q
    | lk o => cases q
    | ro o => cases q
    | x c fs => cases q
/-- all of them -/
theorem StT.frzN : ∀ {rs : List R} {vs : List V} {ds : List D} {e e' : Env} {F : Hp} {ts : List (R × V)}, rs.length = vs.length → StT K adr PN B F e σ H (rs.zip vs ++ ts) → frzs rs e = some (ds, e') →
    ∃ F', Same F F' ∧ StT K adr PN B F' e' σ H ts ∧ RepL K adr F' ds vs
  | [], [], _, _, _, F, _, _, h, q => by cases q; exact ⟨F, Same.rfl', h, rfl⟩
  | [], _ :: _, _, _, _, _, _, l, _, _ => by simp at l
  | _ :: _, [], _, _, _, _, _, l, _, _ => by simp at l
  | r :: rs, v :: vs, ds, e, e', F, ts, l, h, q => by
    unfold frzs at q
    cases q1 : frz r e with
    | none => rw [q1] at q; cases q
    | some p =>
      obtain ⟨d, e1⟩ := p
      rw [q1] at q
      cases q2 : frzs rs e1 with
      | none => simp only [q2] at q; cases q
      | some p2 =>
        obtain ⟨ds2, e2⟩ := p2
        simp only [q2] at q
        cases q
        obtain ⟨F1, s1, g1⟩ := StT.frz1 (show StT K adr PN B F e σ H ((r, v) :: (rs.zip vs ++ ts)) from h) q1
        have g2 : StT K adr PN B F1 e1 σ H (rs.zip vs ++ ((R.v d, v) :: ts)) := g1.perm List.perm_middle.symm
        obtain ⟨F2, s2, g3, g4⟩ := StT.frzN (by simpa using l) g2 q2
        have hr : Rep K adr F2 d v := g3.tm _ List.mem_cons_self
        exact ⟨F2, s1.trans s2, g3.pop, v, vs, rfl, hr, g4⟩
/-- a state behind which fewer things are known -/
theorem StT.data (h : StT K adr PN B F env σ H ts) (q : Rep K adr F d v) : StT K adr PN B F env σ H ((.v d, v) :: ts) :=
  h.push (New.val h.sf q)
end

/-! ### the readings -/
section
variable (K : PySem.W.Frag) (adr : Str → Addr) (PN : Addr → Addr → Option Addr → Prop)
def excAt (F : Hp) (c : Str) (fs : List (Str × D)) (cls : Value) (d : Option Addr) : Prop :=
  cls = .ref (adr c) ∧ match d with | none => fs = [] | some d => ∃ vs, F d = some (.xd vs) ∧ RepF K adr F fs vs
/-- what is wanted of what came -/
def Out {α : Type} (W : WX) (B F : Hp) (σ : St) (ts : List (R × V)) (x : Rs α) (k : α → Env → Prop) : Prop := match x with
  | .ok a e => k a e
  | .exc c fs e => ∀ cls d H' F', Same F F' → StT K adr PN B F' e σ H' [] → excAt K adr F' c fs cls d → W cls d σ H'
  | .bad => False
end
section
variable {K : PySem.W.Frag} {adr : Str → Addr} {PN : Addr → Addr → Option Addr → Prop} {W : WX} {B F F' : Hp} {σ : St} {ts us : List (R × V)} {α β : Type}
theorem Out.imp {x : Rs α} {k k' : α → Env → Prop} (h : Out K adr PN W B F σ ts x k) (hk : ∀ a e, x = .ok a e → k a e → k' a e) : Out K adr PN W B F σ ts x k' := by
  cases x with
  | ok a e => exact hk a e rfl h
  | exc c fs e => exact h
  | bad => exact h
/-- later, with more frozen and more temporaries -/
theorem Out.later {x : Rs α} {k : α → Env → Prop} (h : Out K adr PN W B F σ ts x k) (s : Same F F') : Out K adr PN W B F' σ (us ++ ts) x k := by
  cases x with
  | ok a e => exact h
  | exc c fs e => exact fun cls d H' F2 s2 g q => h cls d H' F2 (s.trans s2) g q
  | bad => exact h
/-- the temporaries do not matter -/
theorem Out.of_ts {x : Rs α} {k : α → Env → Prop} (h : Out K adr PN W B F σ us x k) : Out K adr PN W B F σ ts x k := by
  cases x with
  | ok a e => exact h
  | exc c fs e => exact h
  | bad => exact h
theorem Out.bind {x : Rs α} {f : α → Env → Rs β} {k : β → Env → Prop} (h : Out K adr PN W B F σ ts (x.bind f) k) : Out K adr PN W B F σ ts x fun a e => Out K adr PN W B F σ ts (f a e) k := by
  cases x with
  | ok a e => exact h
  | exc c fs e => exact h
  | bad => exact h
theorem Out.of {o : Option α} {env : Env} {k : α → Env → Prop} (h : Out K adr PN W B F σ ts (Rs.of o env) k) : ∃ a, o = some a ∧ k a env := by
  cases o with
  | none => exact h.elim
  | some a => exact ⟨a, rfl, h⟩
end
end Ky
end
section
set_option Elab.async false
set_option linter.all false
set_option maxRecDepth 100000
set_option maxHeartbeats 1000000
/-! Ky, part S: what evaluation leaves of the slots: locked ones stand, lent ones are not made. -/
namespace Ky
open PySem PySem.Spec PyProof.Rows L2
def S.isBL : S → Bool | .bor _ => true | .lk _ => true | _ => false
structure Pre (env e : Env) : Prop where
  bl : ∀ (i : Nat) (s : S), e[i]? = some (some s) → s.isBL = true → ∃ s', env[i]? = some (some s') ∧ s'.isBL = true
  lk : ∀ (i : Nat) (o : O), env[i]? = some (some (.lk o)) → e[i]? = some (some (.lk o))
  len : e.length = env.length
theorem Pre.rfl' {env : Env} : Pre env env := ⟨fun i s h k => ⟨s, h, k⟩, fun i o h => h, rfl⟩
theorem Pre.trans {a b c : Env} (h : Pre a b) (g : Pre b c) : Pre a c := ⟨fun i s q k => let ⟨s', q', k'⟩ := g.bl i s q k; h.bl i s' q' k', fun i o q => g.lk i o (h.lk i o q), g.len.trans h.len⟩
/-- one slot changed -/
theorem Pre.set1 {env : Env} {i : Nat} {s : Option S} (h1 : ∀ s', s = some s' → s'.isBL = true → ∃ t, env[i]? = some (some t) ∧ t.isBL = true) (h2 : ∀ o, env[i]? ≠ some (some (.lk o))) : Pre env (env.set i s) := by
  refine ⟨fun j t q k => ?_, fun j o q => ?_, List.length_set⟩
  · by_cases hj : j = i
    · subst hj
      by_cases hl : j < env.length
      · rw [List.getElem?_set_self hl] at q; cases q; exact h1 t rfl k
      · rw [List.getElem?_eq_none (by rw [List.length_set]; omega)] at q; cases q
    · rw [List.getElem?_set_ne (Ne.symm hj)] at q; exact ⟨t, q, k⟩
  · by_cases hj : j = i
    · subst hj; exact absurd q (h2 o)
    · rw [List.getElem?_set_ne (Ne.symm hj)]; exact q
theorem pre_frz {r : R} {env e : Env} {d : D} (h : frz r env = some (d, e)) : Pre env e := by
  cases r with
  | v _ => cases h; exact .rfl'
  | own _ => cases h; exact .rfl'
  | sl i =>
    have h : (match env[i]? with
      | some (some (.v d)) => some (d, env)
      | some (some (.own o)) => some (o.dat, env.set i (some (.v o.dat)))
      | _ => none) = some (d, e) := h
    cases q : env[i]? with
    | none => rw [q] at h; cases h
    | some x =>
      cases x with
      | none => rw [q] at h; cases h
      | some s =>
        rw [q] at h
        cases s <;> first | (cases h; done) | skip
        · cases h; exact .rfl'
        · cases h; exact .set1 (fun s' e k => by cases e; cases k) (fun o' z => by rw [q] at z; cases z)
theorem pre_frzs : ∀ {rs : List R} {env e : Env} {ds : List D}, frzs rs env = some (ds, e) → Pre env e
  | [], _, _, _, h => by cases h; exact .rfl'
  | r :: rs, env, e, ds, h => by
    unfold Ky.frzs at h
    split at h
    · rename_i d e1 q1
      split at h
      · rename_i ds2 e2 q2
        cases h
        exact (pre_frz q1).trans (pre_frzs q2)
      · cases h
    · cases h
theorem pre_setK {i : Nat} {o : O} {env : Env} (h : ∀ o, env[i]? ≠ some (some (.lk o))) : Pre env (setK i o env) := by
  unfold Ky.setK
  split
  · rename_i s q
    refine .set1 (fun s' e k => ⟨s, q, ?_⟩) h
    cases e
    cases s <;> first | rfl | cases k
  · exact .rfl'
theorem pre_back : ∀ {rs : List R} {as env : Env}, (∀ i o, (R.sl i, some (S.bor o)) ∈ rs.zip as → ∀ o', env[i]? ≠ some (some (.lk o'))) → Pre env (back rs as env)
  | [], as, env, _ => by
    have e : back [] as env = env := by cases as <;> rfl
    rw [e]
    exact .rfl'
  | r :: _, [], env, _ => by
    have e : back (r :: ‹_›) [] env = env := by cases r <;> rfl
    rw [e]
    exact .rfl'
  | r :: rs, x :: as, env, h => by
    have rest : ∀ i o, (R.sl i, some (S.bor o)) ∈ rs.zip as → ∀ o', env[i]? ≠ some (some (.lk o')) := fun i o m => h i o (by rw [List.zip_cons_cons]; exact List.mem_cons_of_mem _ m)
    by_cases hc : ∃ i o, r = .sl i ∧ x = some (.bor o)
    · obtain ⟨i, o, rfl, rfl⟩ := hc
      have h0 := h i o (by rw [List.zip_cons_cons]; exact List.mem_cons_self)
      have e : back (.sl i :: rs) (some (.bor o) :: as) env = back rs as (setK i o env) := by rw [Ky.back]
      rw [e]
      refine (pre_setK h0).trans (pre_back fun j o' m o2 z => ?_)
      unfold Ky.setK at z
      split at z
      · rename_i s q
        by_cases hj : j = i
        · subst hj
          rw [List.getElem?_set_self (List.getElem?_eq_some_iff.mp q).1] at z
          cases s <;> cases z
        · rw [List.getElem?_set_ne (Ne.symm hj)] at z
          exact rest j o' m o2 z
      · exact rest j o' m o2 z
    · have e : back (r :: rs) (x :: as) env = back rs as env := by
        rw [Ky.back]
        intro i o e1 e2
        exact hc ⟨i, o, e1, e2⟩
      rw [e]
      exact pre_back rest
theorem pre_lose : ∀ {rs : List R} {ss : List S} {env : Env}, (∀ i o, (R.sl i, S.bor o) ∈ rs.zip ss → ∀ o', env[i]? ≠ some (some (.lk o'))) → Pre env (lose rs ss env)
  | [], ss, env, _ => by
    have e : lose [] ss env = env := by cases ss <;> rfl
    rw [e]
    exact .rfl'
  | r :: _, [], env, _ => by
    have e : lose (r :: ‹_›) [] env = env := by cases r <;> rfl
    rw [e]
    exact .rfl'
  | r :: rs, x :: ss, env, h => by
    have rest : ∀ i o, (R.sl i, S.bor o) ∈ rs.zip ss → ∀ o', env[i]? ≠ some (some (.lk o')) := fun i o m => h i o (by rw [List.zip_cons_cons]; exact List.mem_cons_of_mem _ m)
    by_cases hc : ∃ i o, r = .sl i ∧ x = .bor o
    · obtain ⟨i, o, rfl, rfl⟩ := hc
      have h0 := h i o (by rw [List.zip_cons_cons]; exact List.mem_cons_self)
      have e : lose (.sl i :: rs) (.bor o :: ss) env = lose rs ss (env.set i none) := by rw [Ky.lose]
      rw [e]
      refine (Pre.set1 (s := none) (fun s' e k => (by cases e)) h0).trans (pre_lose fun j o' m o2 z => ?_)
      by_cases hj : j = i
      · subst hj
        by_cases hl : j < env.length
        · rw [List.getElem?_set_self hl] at z; cases z
        · rw [List.getElem?_eq_none (by rw [List.length_set]; omega)] at z; cases z
      · rw [List.getElem?_set_ne (Ne.symm hj)] at z
        exact rest j o' m o2 z
    · have e : lose (r :: rs) (x :: ss) env = lose rs ss env := by
        rw [Ky.lose]
        intro i o e1 e2
        exact hc ⟨i, o, e1, e2⟩
      rw [e]
      exact pre_lose rest
theorem lends_bor : ∀ {rs : List R} {ss : List S} {env : Env}, lends rs env = some ss → ∀ i o, (R.sl i, S.bor o) ∈ rs.zip ss → ∀ o', env[i]? ≠ some (some (.lk o'))
  | [], _, _, _ => fun i o m => (by cases m)
  | r :: rs, ss, env, h => by
    unfold lends at h
    split at h
    · rename_i s ss2 q1 q2
      cases h
      intro i o m o'
      rw [List.zip_cons_cons] at m
      rcases List.mem_cons.mp m with e | m
      · cases e
        intro z
        have q1 : (match env[i]? with
          | some (some (.own o)) => some (S.bor o)
          | some (some (.bor o)) => some (.bor o)
          | some (some (.lk o)) => some (.ro o)
          | some (some (.ro o)) => some (.ro o)
          | some (some (.v d)) => some (.v d)
          | _ => none) = some (S.bor o) := q1
        rw [z] at q1
        cases q1
      · exact lends_bor q2 i o m o'
    · cases h
theorem argsE_zip : ∀ {rs : List R} {ss : List S} {os : List O} {i : Nat} {o : O}, (R.sl i, some (S.bor o)) ∈ rs.zip (argsE ss os) → ∃ o', (R.sl i, S.bor o') ∈ rs.zip ss
  | [], _, _, _, _, m => by cases m
  | _ :: _, [], _, _, _, m => by unfold argsE at m; cases m
  | r :: rs, s :: ss, os, i, o, m => by
    by_cases hc : ∃ b o1 os1, s = .bor b ∧ os = o1 :: os1
    · obtain ⟨b, o1, os1, rfl, rfl⟩ := hc
      have e : argsE (.bor b :: ss) (o1 :: os1) = some (.bor o1) :: argsE ss os1 := rfl
      rw [e, List.zip_cons_cons] at m
      rcases List.mem_cons.mp m with e | m
      · cases e; exact ⟨b, List.mem_cons_self⟩
      · obtain ⟨o', h⟩ := argsE_zip m; exact ⟨o', List.mem_cons_of_mem _ h⟩
    · have e : argsE (s :: ss) os = none :: argsE ss os := by
        rw [argsE]
        intro b o1 os1 e1 e2
        first | exact hc ⟨b, o1, os1, e1, e2⟩ | exact hc ⟨_, _, _, e2, e1⟩
      rw [e, List.zip_cons_cons] at m
      rcases List.mem_cons.mp m with e | m
      · cases e
      · obtain ⟨o', h⟩ := argsE_zip m; exact ⟨o', List.mem_cons_of_mem _ h⟩
def Rs.all {α : Type} (p : Env → Prop) : Rs α → Prop | .ok _ e => p e | .exc _ _ e => p e | .bad => True
theorem Rs.all_bind {α β : Type} {p q : Env → Prop} {x : Rs α} {f : α → Env → Rs β} (h : x.all p) (hx : ∀ e, p e → q e) (hf : ∀ a e, p e → (f a e).all q) : (x.bind f).all q := by
  cases x with
  | ok a e => exact hf a e h
  | exc c fs e => exact hx e h
  | bad => trivial
theorem callR_pre {c : List S → CR} {rs : List R} {env : Env} : (callR c rs env).all (Pre env) := by
  unfold callR
  cases l : lends rs env with
  | none => trivial
  | some ss =>
    simp only
    split
    · cases q : c ss with
      | bad => trivial
      | exc x fs => exact pre_lose (lends_bor l)
      | ok r os =>
        have key : (if os.length = borN ss then Rs.ok r (back rs (argsE ss os) env) else .bad : Rs R).all (Pre env) := by
          split
          · exact pre_back fun i o m => let ⟨o', h⟩ := argsE_zip m; lends_bor l i o' h
          · trivial
        cases r with
        | sl i => trivial
        | v d => exact key
        | own o => exact key
    · trivial
theorem Rs.all_of {α : Type} {o : Option α} {env : Env} : (Rs.of o env).all (Pre env) := by cases o <;> first | trivial | exact .rfl'
theorem Rs.all_imp {α : Type} {p q : Env → Prop} {x : Rs α} (h : x.all p) (k : ∀ e, p e → q e) : x.all q := by
  cases x with
  | ok a e => exact k e h
  | exc c fs e => exact k e h
  | bad => trivial
theorem cmpR_pre {G : GT} {call : Str → List S → CR} {o : CmpOp} {r1 r2 : R} {env : Env} : (cmpR G call o r1 r2 env).all (Pre env) := by
  unfold cmpR
  split
  · split
    · exact .rfl'
    · split
      · split
        · split
          · rename_i q _
            split
            · rename_i b e h
              exact (show (Rs.ok (R.v (.bl b)) e).all (Pre env) from h ▸ callR_pre)
            · trivial
          · trivial
        · trivial
      · trivial
  · trivial
/-- the same through a step -/
theorem Rs.pre_bind {α β : Type} {env : Env} {x : Rs α} {f : α → Env → Rs β} (h : x.all (Pre env)) (hf : ∀ a e, (f a e).all (Pre e)) : (x.bind f).all (Pre env) :=
  Rs.all_bind h (fun _ h => h) fun a e h => Rs.all_imp (hf a e) fun _ g => h.trans g
end Ky
end
section
set_option Elab.async false
set_option linter.all false
set_option maxRecDepth 100000
set_option maxHeartbeats 1000000
/-! Ky, part T: evaluation keeps locked slots, makes no lent ones. -/
namespace Ky
open PySem PySem.Spec PyProof.Rows L2
theorem pre_put {i : Nat} {s : S} {env e : Env} (hs : s.isBL = false) (h : put i s env = some e) : Pre env e := by
  unfold put at h
  cases q : env[i]? with
  | none => rw [q] at h; cases h
  | some x =>
    have mk : e = env.set i (some s) → (∀ o, x ≠ some (.lk o)) → Pre env e := fun he hx => by
      subst he
      refine .set1 (fun s' e k => (by cases e; rw [hs] at k; cases k)) fun o z => ?_
      rw [q] at z
      exact hx o (Option.some.inj z)
    rw [q] at h
    cases x with
    | none => cases h; exact mk rfl fun o z => (by cases z)
    | some t =>
      cases t <;> first | (cases h; done) | (cases h; exact mk rfl fun o z => (by cases z))
theorem pre_asg {g : Tg} {d : D} {env e : Env} (h : asgT g d env = some e) : Pre env e := by
  cases g with
  | nm i => exact pre_put rfl h
  | tp is =>
    unfold asgT at h
    simp only at h
    split at h
    · rename_i ds
      split at h
      · have go : ∀ (l : List (Nat × D)) (env e : Env), l.foldl (fun e p => e.bind (put p.1 (.v p.2))) (some env) = some e → Pre env e := by
          intro l
          induction l with
          | nil => intro env e h; cases h; exact .rfl'
          | cons p l ih =>
            intro env e h
            rw [List.foldl_cons, Option.bind_some] at h
            cases q : put p.1 (.v p.2) env with
            | none =>
              rw [q] at h
              have : ∀ l : List (Nat × D), l.foldl (fun e p => e.bind (put p.1 (.v p.2))) (none : Option Env) = none := fun l => by
                induction l with
                | nil => rfl
                | cons p l ih => rw [List.foldl_cons]; exact ih
              rw [this] at h
              cases h
            | some e1 => rw [q] at h; exact (pre_put rfl q).trans (ih e1 e h)
        exact go _ _ _ h
      · cases h
    · cases h
theorem Pre.wipe {env : Env} : ∀ {vs : List Nat}, (∀ v ∈ vs, ∀ o, env[v]? ≠ some (some (.lk o))) → Pre env (wipeE env vs)
  | [], _ => .rfl'
  | v :: vs, h => by
    have h1 : Pre env (wipeE env vs) := Pre.wipe fun w m => h w (List.mem_cons_of_mem _ m)
    refine h1.trans (.set1 (fun s' e k => (by cases e)) fun o z => ?_)
    obtain ⟨s', q, _⟩ := h1.bl v _ z rfl
    have hw : ∀ (vs : List Nat) (s : S), (wipeE env vs)[v]? = some (some s) → env[v]? = some (some s) := by
      intro vs
      induction vs with
      | nil => intro s q; exact q
      | cons w vs ih =>
        intro s q
        have q : ((wipeE env vs).set w none)[v]? = some (some s) := q
        by_cases hw : v = w
        · subst hw
          by_cases hl : v < (wipeE env vs).length
          · rw [List.getElem?_set_self hl] at q; cases q
          · rw [List.getElem?_eq_none (by rw [List.length_set]; omega)] at q; cases q
        · rw [List.getElem?_set_ne (Ne.symm hw)] at q; exact ih s q
    exact h v List.mem_cons_self o (hw _ _ z)
theorem wipeE_len (env : Env) : ∀ vs, (wipeE env vs).length = env.length
  | [] => rfl
  | v :: vs => by unfold wipeE; rw [List.length_set, wipeE_len]
theorem wipeE_get {env : Env} {i : Nat} : ∀ {vs : List Nat}, i ∉ vs → (wipeE env vs)[i]? = env[i]?
  | [], _ => rfl
  | v :: vs, h => by
    have h1 : i ≠ v := fun e => h (by rw [e]; exact List.mem_cons_self)
    unfold wipeE
    rw [List.getElem?_set_ne (Ne.symm h1)]
    exact wipeE_get fun m => h (List.mem_cons_of_mem _ m)
theorem wipeE_in {env : Env} {i : Nat} {s : S} : ∀ {vs : List Nat}, i ∈ vs → (wipeE env vs)[i]? ≠ some (some s)
  | v :: vs, h, q => by
    unfold wipeE at q
    by_cases h1 : i = v
    · subst h1
      by_cases hl : i < (wipeE env vs).length
      · rw [List.getElem?_set_self hl] at q; cases q
      · rw [List.getElem?_eq_none (by rw [List.length_set]; omega)] at q; cases q
    · rw [List.getElem?_set_ne (Ne.symm h1)] at q
      exact wipeE_in ((List.mem_cons.mp h).resolve_left h1) q
theorem restE_get {e0 env : Env} {i : Nat} : ∀ {vs : List Nat}, i ∉ vs → (restE e0 env vs)[i]? = env[i]?
  | [], _ => rfl
  | v :: vs, h => by
    have h1 : i ≠ v := fun e => h (by rw [e]; exact List.mem_cons_self)
    unfold restE
    rw [List.getElem?_set_ne (Ne.symm h1)]
    exact restE_get fun m => h (List.mem_cons_of_mem _ m)
theorem restE_in {e0 env : Env} {i : Nat} {s : S} : ∀ {vs : List Nat}, i ∈ vs → (restE e0 env vs)[i]? = some (some s) → e0[i]? = some (some s)
  | v :: vs, h, q => by
    unfold restE at q
    by_cases h1 : i = v
    · subst h1
      by_cases hl : i < (restE e0 env vs).length
      · rw [List.getElem?_set_self hl] at q
        cases z : e0[i]? with
        | none => rw [z] at q; cases q
        | some x => rw [z] at q; exact q
      · rw [List.getElem?_eq_none (by rw [List.length_set]; omega)] at q; cases q
    · rw [List.getElem?_set_ne (Ne.symm h1)] at q
      exact restE_in ((List.mem_cons.mp h).resolve_left h1) q
/-- a slot behind lock -/
theorem lock1_get (env : Env) (i j : Nat) : (lock1 env i)[j]? = env[j]? ∨ (j = i ∧ ∃ o, (env[j]? = some (some (.own o)) ∨ env[j]? = some (some (.bor o))) ∧ (lock1 env i)[j]? = some (some (.lk o))) := by
  unfold lock1
  split
  · rename_i o q
    by_cases h : j = i
    · subst h; exact .inr ⟨rfl, o, .inl q, List.getElem?_set_self (List.getElem?_eq_some_iff.mp q).1⟩
    · exact .inl (List.getElem?_set_ne (Ne.symm h))
  · rename_i o q
    by_cases h : j = i
    · subst h; exact .inr ⟨rfl, o, .inr q, List.getElem?_set_self (List.getElem?_eq_some_iff.mp q).1⟩
    · exact .inl (List.getElem?_set_ne (Ne.symm h))
  · exact .inl rfl
theorem lock_get : ∀ (is : List Nat) (env : Env) (j : Nat), (lock is env)[j]? = env[j]? ∨ (j ∈ is ∧ ∃ o, (env[j]? = some (some (.own o)) ∨ env[j]? = some (some (.bor o))) ∧ (lock is env)[j]? = some (some (.lk o)))
  | [], env, j => .inl rfl
  | i :: is, env, j => by
    have e : lock (i :: is) env = lock is (lock1 env i) := rfl
    rw [e]
    rcases lock1_get env i j with h | ⟨rfl, o, h1, h2⟩
    · rcases lock_get is (lock1 env i) j with g | ⟨m, o, g1, g2⟩
      · exact .inl (g.trans h)
      · rw [h] at g1; exact .inr ⟨List.mem_cons_of_mem _ m, o, g1, g2⟩
    · rcases lock_get is (lock1 env j) j with g | ⟨m, o', g1, g2⟩
      · exact .inr ⟨List.mem_cons_self, o, h1, g.trans h2⟩
      · rw [h2] at g1; rcases g1 with z | z <;> cases z
/-- .. and behind unlock -/
theorem unlock1_get {e0 env e : Env} {i : Nat} (h : unlock1 e0 env i = some e) (j : Nat) : (e[j]? = env[j]? ∧ (j = i → ∀ o, e0[i]? ≠ some (some (.own o)) ∧ e0[i]? ≠ some (some (.bor o)))) ∨ (j = i ∧ ∃ o o', env[j]? = some (some (.lk o)) ∧ ((e0[j]? = some (some (.own o')) ∧ e[j]? = some (some (.own o))) ∨ (e0[j]? = some (some (.bor o')) ∧ e[j]? = some (some (.bor o))))) := by
  unfold unlock1 at h
  split at h
  · rename_i o' q
    split at h
    · rename_i o q2
      cases h
      by_cases hj : j = i
      · subst hj; exact .inr ⟨rfl, o, o', q2, .inl ⟨q, List.getElem?_set_self (List.getElem?_eq_some_iff.mp q2).1⟩⟩
      · exact .inl ⟨List.getElem?_set_ne (Ne.symm hj), fun e => absurd e hj⟩
    · cases h
  · rename_i o' q
    split at h
    · rename_i o q2
      cases h
      by_cases hj : j = i
      · subst hj; exact .inr ⟨rfl, o, o', q2, .inr ⟨q, List.getElem?_set_self (List.getElem?_eq_some_iff.mp q2).1⟩⟩
      · exact .inl ⟨List.getElem?_set_ne (Ne.symm hj), fun e => absurd e hj⟩
    · cases h
  · rename_i n1 n2
    cases h
    exact .inl ⟨rfl, fun _ o => ⟨n1 o, n2 o⟩⟩
theorem unlock_get : ∀ {is : List Nat} {e0 env e : Env}, unlock e0 is env = some e → ∀ j, (e[j]? = env[j]? ∧ (j ∈ is → ∀ o, e0[j]? ≠ some (some (.own o)) ∧ e0[j]? ≠ some (some (.bor o)))) ∨ (j ∈ is ∧ ∃ o o', env[j]? = some (some (.lk o)) ∧ ((e0[j]? = some (some (.own o')) ∧ e[j]? = some (some (.own o))) ∨ (e0[j]? = some (some (.bor o')) ∧ e[j]? = some (some (.bor o)))))
  | [], e0, env, e, h, j => by cases h; exact .inl ⟨rfl, fun m => (by cases m)⟩
  | i :: is, e0, env, e, h, j => by
    unfold unlock at h
    split at h
    · rename_i e1 q
      rcases unlock1_get q j with ⟨g1, g2⟩ | ⟨rfl, o, o', g1, g2⟩
      · rcases unlock_get h j with ⟨k1, k2⟩ | ⟨m, o, o', k1, k2⟩
        · refine .inl ⟨k1.trans g1, fun m => ?_⟩
          rcases List.mem_cons.mp m with rfl | m
          · exact g2 rfl
          · exact k2 m
        · rw [g1] at k1; exact .inr ⟨List.mem_cons_of_mem _ m, o, o', k1, k2⟩
      · rcases unlock_get h j with ⟨k1, k2⟩ | ⟨m, o2, o2', k1, k2⟩
        · refine .inr ⟨List.mem_cons_self, o, o', g1, ?_⟩
          rw [k1]; exact g2
        · rcases g2 with ⟨_, z⟩ | ⟨_, z⟩ <;> (rw [k1] at z; cases z)
    · cases h
theorem lock1_len (env : Env) (i : Nat) : (lock1 env i).length = env.length := by
  unfold lock1
  split <;> simp
theorem lock_len : ∀ (is : List Nat) (env : Env), (lock is env).length = env.length
  | [], _ => rfl
  | i :: is, env => (lock_len is (lock1 env i)).trans (lock1_len env i)
theorem unlock_len : ∀ {is : List Nat} {e0 env e : Env}, unlock e0 is env = some e → e.length = env.length
  | [], _, _, _, h => by cases h; rfl
  | i :: is, e0, env, e, h => by
    unfold unlock at h
    split at h
    · rename_i e1 q
      have l1 : e1.length = env.length := by
        unfold unlock1 at q
        split at q
        · split at q
          · cases q; simp
          · cases q
        · split at q
          · cases q; simp
          · cases q
        · cases q; rfl
      exact (unlock_len h).trans l1
    · cases h
theorem restE_len (e0 env : Env) : ∀ vs, (restE e0 env vs).length = env.length
  | [] => rfl
  | v :: vs => by unfold restE; rw [List.length_set, restE_len]
/-- around a walk: what happened within kept what was locked -/
theorem Pre.walked {env e e3 : Env} {is : List Nat} (h : Pre (lock is env) e) (u : unlock env is e = some e3) : Pre env e3 := by
  refine ⟨fun j s q k => ?_, fun j o q => ?_, ((unlock_len u).trans h.len).trans (lock_len is env)⟩
  · rcases unlock_get u j with ⟨g1, g2⟩ | ⟨m, o, o', g1, ⟨z, w⟩ | ⟨z, w⟩⟩
    · rw [g1] at q
      obtain ⟨s', q', k'⟩ := h.bl j s q k
      rcases lock_get is env j with l | ⟨m, o, l1, l2⟩
      · rw [l] at q'; exact ⟨s', q', k'⟩
      · rcases l1 with l1 | l1
        · exact absurd l1 (g2 m o).1
        · exact ⟨_, l1, rfl⟩
    · rw [w] at q; cases q; cases k
    · exact ⟨_, z, rfl⟩
  · have q1 : (lock is env)[j]? = some (some (.lk o)) := by
      rcases lock_get is env j with l | ⟨m, o', l1, _⟩
      · rw [l]; exact q
      · rw [q] at l1; rcases l1 with z | z <;> cases z
    have q2 := h.lk j o q1
    rcases unlock_get u j with ⟨g1, _⟩ | ⟨m, o2, o', g1, ⟨z, _⟩ | ⟨z, _⟩⟩
    · rw [g1]; exact q2
    · rw [q] at z; cases z
    · rw [q] at z; cases z
end Ky
end
section
set_option Elab.async false
set_option linter.all false
set_option maxRecDepth 100000
set_option maxHeartbeats 2000000
/-! Ky, part U: the same of all expressions. -/
namespace Ky
open PySem PySem.Spec PyProof.Rows L2
theorem loopC_pre {turn : D → List D → Env → Rs (List D)} (ht : ∀ d acc env, (turn d acc env).all (Pre env)) : ∀ (ds : List D) (acc : List D) (env : Env), (loopC turn ds acc env).all (Pre env)
  | [], acc, env => .rfl'
  | d :: ds, acc, env => Rs.pre_bind (ht d acc env) fun acc e => loopC_pre ht ds acc e
theorem plain_at {env : Env} {vs : List Nat} (h : plainAt env vs = true) {v : Nat} (m : v ∈ vs) {s : S} (q : env[v]? = some (some s)) : ∃ d, s = .v d := by
  unfold plainAt at h
  have := List.all_eq_true.mp h v m
  rw [q] at this
  cases s <;> first | exact ⟨_, rfl⟩ | cases this
theorem Rs.nx_all {α : Type} {p : Env → Prop} {x : Rs α} (h : x.all p) : x.nx.all p := by
  cases x <;> first | exact h | trivial
theorem Rs.all_bind_nx {α β : Type} {p q : Env → Prop} {x : Rs α} {f : α → Env → Rs β} (h : x.all p) (hf : ∀ a e, p e → (f a e).all q) : (x.nx.bind f).all q := by
  cases x with
  | ok a e => exact hf a e h
  | exc c fs e => trivial
  | bad => trivial
/-- a comprehension's turn leaves no locked slot and no lent one more -/
theorem Pre.wipe2 {env e : Env} {vs : List Nat} (h : Pre env e) (hv : ∀ v ∈ vs, ∀ o, e[v]? ≠ some (some (.lk o))) : Pre env (wipeE e vs) := h.trans (Pre.wipe hv)
section
variable {G : GT} {call : Str → List S → CR}
theorem frz_all {r : R} {env : Env} {α : Type} {f : D → Env → Rs α} (h : ∀ d e, (f d e).all (Pre e)) : (match frz r env with | some (d, e) => f d e | none => .bad : Rs α).all (Pre env) := by
  cases q : frz r env with
  | none => trivial
  | some p => obtain ⟨d, e⟩ := p; exact Rs.all_imp (h d e) fun _ g => (pre_frz q).trans g
theorem frzs_all {rs : List R} {env : Env} {α : Type} {f : List D → Env → Rs α} (h : ∀ d e, (f d e).all (Pre e)) : (match frzs rs env with | some (d, e) => f d e | none => .bad : Rs α).all (Pre env) := by
  cases q : frzs rs env with
  | none => trivial
  | some p => obtain ⟨d, e⟩ := p; exact Rs.all_imp (h d e) fun _ g => (pre_frzs q).trans g
/-- slots of a block's own names are plain throughout: none of them is locked -/
def NoLk (vs : List Nat) (env : Env) : Prop := ∀ v ∈ vs, ∀ (s : S), env[v]? = some (some s) → s.isBL = false
theorem NoLk.pre {vs : List Nat} {env e : Env} (h : NoLk vs env) (p : Pre env e) : NoLk vs e := fun v m s q => by
  cases k : s.isBL with
  | false => rfl
  | true =>
    obtain ⟨s', q', k'⟩ := p.bl v s q k
    rw [h v m s' q'] at k'
    cases k'
theorem NoLk.lk {vs : List Nat} {env : Env} (h : NoLk vs env) : ∀ v ∈ vs, ∀ o, env[v]? ≠ some (some (.lk o)) := fun v m o q => by
  have := h v m _ q
  cases this
theorem loopC_pre2 {vs : List Nat} {turn : D → List D → Env → Rs (List D)} (ht : ∀ d acc env, NoLk vs env → (turn d acc env).all (Pre env)) : ∀ (ds : List D) (acc : List D) (env : Env), NoLk vs env → (loopC turn ds acc env).all (Pre env)
  | [], acc, env, _ => .rfl'
  | d :: ds, acc, env, h => Rs.all_bind (p := Pre env) (ht d acc env h) (fun _ h => h) fun acc e he => Rs.all_imp (loopC_pre2 ht ds acc e (h.pre he)) fun _ g => he.trans g
mutual
theorem ev_pre : ∀ (a : Ex) (env : Env), (ev G call a env).all (Pre env)
  | .var i, env => by
    rw [ev]
    split <;> first | exact .rfl' | trivial
  | .cst d, env => by rw [ev]; exact .rfl'
  | .glb x, env => by rw [ev]; exact Rs.all_of
  | .bin o a b, env => by
    rw [ev]
    refine Rs.pre_bind (ev_pre a env) fun r1 e1 => Rs.pre_bind (ev_pre b e1) fun r2 e2 => ?_
    split <;> first | exact Rs.all_of | trivial
  | .neg a, env => by
    rw [ev]
    refine Rs.pre_bind (ev_pre a env) fun r1 e1 => ?_
    split <;> first | exact Rs.all_of | trivial
  | .nt a, env => by
    rw [ev]
    refine Rs.pre_bind (ev_pre a env) fun r1 e1 => ?_
    split <;> first | exact .rfl' | trivial
  | .cmp o a b, env => by
    rw [ev]
    exact Rs.pre_bind (ev_pre a env) fun r1 e1 => Rs.pre_bind (ev_pre b e1) fun r2 e2 => cmpR_pre
  | .cm2 o o' a b c, env => by
    rw [ev]
    refine Rs.pre_bind (ev_pre a env) fun r1 e1 => Rs.pre_bind (ev_pre b e1) fun r2 e2 => Rs.pre_bind cmpR_pre fun q e3 => ?_
    split
    · exact Rs.pre_bind (ev_pre c e3) fun r e => cmpR_pre
    · exact .rfl'
    · trivial
  | .an a b, env => by
    rw [ev]
    refine Rs.pre_bind (ev_pre a env) fun r1 e1 => ?_
    split <;> first | exact ev_pre b e1 | exact .rfl' | trivial
  | .or a b, env => by
    rw [ev]
    refine Rs.pre_bind (ev_pre a env) fun r1 e1 => ?_
    split <;> first | exact ev_pre b e1 | exact .rfl' | trivial
  | .ite c a b, env => by
    rw [ev]
    refine Rs.pre_bind (evT_pre c env) fun t e1 => ?_
    split
    · exact ev_pre a e1
    · exact ev_pre b e1
  | .tup es, env => by
    rw [ev]
    refine Rs.pre_bind (evs_pre es env) fun rs e => frzs_all fun ds e' => ?_
    split <;> first | exact .rfl' | trivial
  | .lst es, env => by
    rw [ev]
    refine Rs.pre_bind (evs_pre es env) fun rs e => frzs_all fun ds e' => ?_
    split <;> first | exact .rfl' | trivial
  | .idx a b, env => by
    rw [ev]
    refine Rs.pre_bind (ev_pre a env) fun r1 e1 => Rs.pre_bind (ev_pre b e1) fun r2 e2 => ?_
    split <;> first | exact Rs.all_of | trivial
  | .slc a lo hi, env => by
    rw [ev]
    refine Rs.pre_bind (ev_pre a env) fun r1 e1 => Rs.pre_bind (evO_pre lo e1) fun l e2 => Rs.pre_bind (evO_pre hi e2) fun h e3 => ?_
    split <;> first | exact Rs.all_of | trivial
  | .rev a, env => by
    rw [ev]
    refine Rs.pre_bind (ev_pre a env) fun r1 e1 => ?_
    split <;> first | exact .rfl' | trivial
  | .call q es, env => by
    rw [ev]
    exact Rs.pre_bind (evs_pre es env) fun rs e => callR_pre
  | .callk j es zs, env => by
    rw [ev]
    split
    · trivial
    · split
      · refine Rs.pre_bind (evs_pre es env) fun rs e => Rs.pre_bind (evs_pre zs e) fun r2 e2 => ?_
        split
        · split <;> first | exact callR_pre | trivial
        · trivial
      · trivial
  | .rg1 tp a, env => by
    rw [ev]
    split
    · trivial
    · refine Rs.pre_bind (ev_pre a env) fun r1 e1 => ?_
      split
      · split <;> first | exact .rfl' | trivial
      · trivial
  | .rg2 tp a b, env => by
    rw [ev]
    split
    · trivial
    · refine Rs.pre_bind (ev_pre a env) fun r1 e1 => Rs.pre_bind (ev_pre b e1) fun r2 e2 => ?_
      split
      · split <;> first | exact .rfl' | trivial
      · trivial
  | .calv i es, env => by
    rw [ev]
    split
    · split
      · exact Rs.pre_bind (evs_pre es env) fun rs e => callR_pre
      · trivial
    · trivial
  | .mk c es, env => by
    rw [ev]
    split
    · trivial
    · split
      · exact Rs.pre_bind (evs_pre es env) fun rs e => callR_pre
      · trivial
  | .meth m o es, env => by
    rw [ev]
    refine Rs.pre_bind (ev_pre o env) fun r1 e1 => ?_
    split
    · split
      · split
        · exact Rs.pre_bind (evs_pre es e1) fun rs e => callR_pre
        · trivial
      · trivial
    · trivial
  | .fld o f, env => by
    rw [ev]
    refine Rs.pre_bind (ev_pre o env) fun r1 e1 => ?_
    repeat' first | exact .rfl' | trivial | split
  | .ccon c f, env => by rw [ev]; exact Rs.all_of
  | .bi b es, env => by
    rw [ev]
    split
    · trivial
    · refine Rs.pre_bind (evs_pre es env) fun rs e => ?_
      split <;> first | exact Rs.all_of | trivial
  | .isi a t, env => by
    rw [ev]
    refine Rs.pre_bind (ev_pre a env) fun r1 e1 => ?_
    split <;> first | exact Rs.all_of | trivial
  | .isis a ts, env => by
    rw [ev]
    refine Rs.pre_bind (ev_pre a env) fun r1 e1 => ?_
    repeat' first | exact .rfl' | trivial | split
  | .mut m i es, env => by
    rw [ev]
    split
    · refine Rs.pre_bind (evs_pre es env) fun rs e => frzs_all fun ds e' => ?_
      split
      · rename_i xs q
        split
        · exact .set1 (fun s' z k => (by cases z; cases k)) fun o z => (by rw [q] at z; cases z)
        · trivial
      · rename_i xs q
        split
        · exact .set1 (fun s' z k => ⟨_, q, rfl⟩) fun o z => (by rw [q] at z; cases z)
        · trivial
      · trivial
    · trivial
  | .comp vs g it c el, env => by
    rw [ev]
    split
    · trivial
    · refine Rs.pre_bind (evI_pre it env) fun p e => ?_
      split
      · rename_i hp
        have n0 : NoLk vs (wipeE (lock p.2 e) vs) := fun v m s q => absurd q (wipeE_in m)
        have nl : ∀ v ∈ vs, ∀ o, (lock p.2 e)[v]? ≠ some (some (.lk o)) := fun v m o q => by
          rcases lock_get p.2 e v with l | ⟨_, o', l1, _⟩
          · rw [l] at q; obtain ⟨d, z⟩ := plain_at hp m q; cases z
          · rcases l1 with l1 | l1 <;> (obtain ⟨d, z⟩ := plain_at hp m l1; cases z)
        refine Rs.all_bind_nx (p := fun e2 => Pre (lock p.2 e) e2) (Rs.all_imp (loopC_pre2 (vs := vs) (fun d acc e1 hn => ?_) p.1 [] _ n0) fun _ h => (Pre.wipe nl).trans h) fun xs e2 h2 => ?_
        · split
          · rename_i e2 q
            have p1 := pre_asg q
            have n2 := hn.pre p1
            refine Rs.all_bind (p := Pre e1) (Rs.all_imp (evT_pre c e2) fun _ g => p1.trans g) (fun _ h => h) fun b e3 h3 => ?_
            split
            · refine Rs.all_bind (p := Pre e1) (Rs.all_imp (ev_pre el e3) fun _ g => h3.trans g) (fun _ h => h) fun r e4 h4 => ?_
              split
              · rename_i x e5 q5
                have h5 := h4.trans (pre_frz q5)
                split
                · exact h5.wipe2 (hn.pre h5).lk
                · trivial
              · trivial
            · exact h3.wipe2 (hn.pre h3).lk
          · trivial
        · split
          · rename_i e3 q3
            have w := Pre.walked h2 q3
            refine ⟨fun j s q k => ?_, fun j o q => ?_, (restE_len _ _ _).trans w.len⟩
            · by_cases m : j ∈ vs
              · exact ⟨s, restE_in m q, k⟩
              · rw [restE_get m] at q; exact w.bl j s q k
            · have m : j ∉ vs := fun m => by obtain ⟨d, z⟩ := plain_at hp m q; cases z
              rw [restE_get m]; exact w.lk j o q
          · trivial
      · trivial
  | .efld i f, env => by
    rw [ev]
    repeat' first | exact Rs.all_of | trivial | split
  | .cdx x a, env => by
    rw [ev]
    refine Rs.pre_bind (ev_pre a env) fun r1 e1 => ?_
    split <;> first | exact Rs.all_of | trivial
  | .eisi i t, env => by
    rw [ev]
    repeat' first | exact .rfl' | trivial | split
  | .eisis i t, env => by
    rw [ev]
    repeat' first | exact .rfl' | trivial | split
  | .dead, env => by rw [ev]; trivial
theorem evs_pre : ∀ (a : Exs) (env : Env), (evs G call a env).all (Pre env)
  | .nil, env => by rw [evs]; exact .rfl'
  | .cons a es, env => by
    rw [evs]
    exact Rs.pre_bind (ev_pre a env) fun r e => Rs.pre_bind (evs_pre es e) fun rs e2 => .rfl'
theorem evO_pre : ∀ (a : Ox) (env : Env), (evO G call a env).all (Pre env)
  | .no, env => by rw [evO]; exact .rfl'
  | .so a, env => by
    rw [evO]
    refine Rs.pre_bind (ev_pre a env) fun r e => ?_
    split <;> first | exact .rfl' | trivial
theorem evT_pre : ∀ (a : Tx) (env : Env), (evT G call a env).all (Pre env)
  | .yes, env => by rw [evT]; exact .rfl'
  | .an a b, env => by
    rw [evT]
    refine Rs.pre_bind (evT_pre a env) fun t e => ?_
    split
    · exact evT_pre b e
    · exact .rfl'
  | .or a b, env => by
    rw [evT]
    refine Rs.pre_bind (evT_pre a env) fun t e => ?_
    split
    · exact .rfl'
    · exact evT_pre b e
  | .nt a, env => by
    rw [evT]
    exact Rs.pre_bind (evT_pre a env) fun t e => .rfl'
  | .cmp o a b, env => by
    rw [evT]
    refine Rs.pre_bind (ev_pre a env) fun r1 e1 => Rs.pre_bind (ev_pre b e1) fun r2 e2 => Rs.pre_bind cmpR_pre fun q e3 => ?_
    split <;> first | exact .rfl' | trivial
  | .cm2 o o' a b c, env => by
    rw [evT]
    refine Rs.pre_bind (ev_pre a env) fun r1 e1 => Rs.pre_bind (ev_pre b e1) fun r2 e2 => Rs.pre_bind cmpR_pre fun q e3 => ?_
    split
    · refine Rs.pre_bind (ev_pre c e3) fun r e => Rs.pre_bind cmpR_pre fun q e3 => ?_
      split <;> first | exact .rfl' | trivial
    · exact .rfl'
    · trivial
  | .val a, env => by
    rw [evT]
    refine Rs.pre_bind (ev_pre a env) fun r e => ?_
    split <;> first | exact Rs.all_of | trivial
theorem evI_pre : ∀ (a : Itx) (env : Env), (evI G call a env).all (Pre env)
  | .seq a, env => by
    rw [evI]
    refine Rs.pre_bind (ev_pre a env) fun r e => ?_
    split <;> first | exact Rs.all_of | trivial
  | .rng1 a, env => by
    rw [evI]
    refine Rs.pre_bind (ev_pre a env) fun r e => ?_
    repeat' first | exact .rfl' | trivial | split
  | .rng2 a b, env => by
    rw [evI]
    refine Rs.pre_bind (ev_pre a env) fun r1 e1 => Rs.pre_bind (ev_pre b e1) fun r2 e2 => ?_
    repeat' first | exact .rfl' | trivial | split
  | .zip a b, env => by
    rw [evI]
    refine Rs.pre_bind (ev_pre a env) fun r1 e1 => Rs.pre_bind (ev_pre b e1) fun r2 e2 => ?_
    repeat' first | exact .rfl' | trivial | split
  | .enum a, env => by
    rw [evI]
    refine Rs.pre_bind (ev_pre a env) fun r e => ?_
    repeat' first | exact .rfl' | trivial | split
end
end
end Ky
end
section
set_option Elab.async false
set_option linter.all false
set_option maxRecDepth 100000
set_option maxHeartbeats 1000000
/-! Ky, part E: the operations, by values. -/
namespace Ky
open PySem PySem.Spec PyProof.Rows L2
section
variable {K : PySem.W.Frag} {adr : Str → Addr} {F H : Hp} {v : V} {i : Int} {b : Bool} {x : Str} {xs : List D} {c : Str} {fs : List (Str × D)} {ns : List Int} {d : D}
theorem View.int (h : View K adr F H (.int i) v) : v = .int i := by
  rcases h with h | ⟨o, a, e, _⟩
  · exact h
  · cases o <;> cases e
theorem View.bl (h : View K adr F H (.bl b) v) : v = .bl b := by
  rcases h with h | ⟨o, a, e, _⟩
  · exact h
  · cases o <;> cases e
theorem View.non (h : View K adr F H .non v) : v = .non := by
  rcases h with h | ⟨o, a, e, _⟩
  · exact h
  · cases o <;> cases e
theorem View.str (h : View K adr F H (.str x) v) : v = .str x := by
  rcases h with h | ⟨o, a, e, _⟩
  · exact h
  · cases o <;> cases e
theorem View.tup (s : Same F H) (h : View K adr F H (.tup xs) v) : ∃ a vs, v = .ref a ∧ SqT K H a vs ∧ RepL K adr F xs vs := by
  rcases h with h | ⟨o, a, e, _⟩
  · obtain ⟨a, vs, h1, h2, h3⟩ := h
    exact ⟨a, vs, h1, Same.sqT s h2, h3⟩
  · cases o <;> cases e
theorem View.lst (s : Same F H) (h : View K adr F H (.lst xs) v) : ∃ a vs, v = .ref a ∧ H a = some (.lst vs) ∧ RepL K adr F xs vs := by
  rcases h with h | ⟨o, a, e, hv, h⟩
  · obtain ⟨a, vs, h1, h2, h3⟩ := h
    exact ⟨a, vs, h1, s _ _ h2, h3⟩
  · cases o <;> cases e
    obtain ⟨vs, h1, h2⟩ := h
    exact ⟨a, vs, hv, h1, h2⟩
theorem View.scr (s : Same F H) (h : View K adr F H (.scr ns) v) : ∃ a, v = .ref a ∧ SqL K H a (ns.map V.int) := by
  rcases h with h | ⟨o, a, e, hv, h⟩
  · obtain ⟨a, h1, h2⟩ := h
    exact ⟨a, h1, s.seq h2⟩
  · cases o <;> cases e
theorem View.ins (s : Same F H) (h : View K adr F H (.ins c fs) v) : ∃ a dx vs, v = .ref a ∧ H a = some (.ins (adr c) dx vs) ∧ RepF K adr F fs vs := by
  rcases h with h | ⟨o, a, e, hv, h⟩
  · obtain ⟨a, dx, vs, h1, h2, h3⟩ := h
    exact ⟨a, dx, vs, h1, s _ _ h2, h3⟩
  · cases o <;> cases e
    obtain ⟨dx, vs, h1, h2⟩ := h
    exact ⟨a, dx, vs, hv, h1, h2⟩
/-- what is walked or read by places -/
theorem View.items (s : Same F H) (h : View K adr F H d v) (e : itemsD d = some xs) : ∃ a vs, v = .ref a ∧ (SqL K H a vs ∨ SqT K H a vs) ∧ RepL K adr F xs vs := by
  cases d with
  | tup ys => cases e; obtain ⟨a, vs, h1, h2, h3⟩ := h.tup s; exact ⟨a, vs, h1, .inr h2, h3⟩
  | lst ys => cases e; obtain ⟨a, vs, h1, h2, h3⟩ := h.lst s; exact ⟨a, vs, h1, .inl (.of h2), h3⟩
  | scr ns => cases e; obtain ⟨a, h1, h2⟩ := h.scr s; exact ⟨a, _, h1, .inl h2, RepL.ints ns⟩
  | _ => cases e
theorem RepL.intsV : ∀ {ds : List D} {vs : List V} {ns : List Int}, RepL K adr F ds vs → intsD ds = some ns → vs = ns.map V.int
  | [], _, _, h, e => by cases e; exact h
  | .int i :: ds, vs, ns, h, e => by
    obtain ⟨w, r, rfl, h2, h3⟩ := h
    have e : (intsD ds).map (i :: ·) = some ns := e
    cases q : intsD ds with
    | none => rw [q] at e; cases e
    | some ms =>
      rw [q] at e; cases e
      rw [RepL.intsV h3 q, show w = .int i from h2]
      rfl
  | .non :: _, _, _, _, e => by cases e
  | .bl _ :: _, _, _, _, e => by cases e
  | .str _ :: _, _, _, _, e => by cases e
  | .tup _ :: _, _, _, _, e => by cases e
  | .lst _ :: _, _, _, _, e => by cases e
  | .scr _ :: _, _, _, _, e => by cases e
  | .ins _ _ :: _, _, _, _, e => by cases e
  | .fn _ :: _, _, _, _, e => by cases e
  | .cls _ :: _, _, _, _, e => by cases e
theorem flat_rep {d : D} {v : V} (f : flatD d = true) (h : Rep K adr F d v) : flatV v = true := by
  cases d <;> first | (cases f; done) | (have h := h; simp only [Rep] at h; subst h; rfl)
theorem flat_view {d : D} {v : V} (f : flatD d = true) (h : View K adr F H d v) : Rep K adr F d v := by
  rcases h with h | ⟨o, a, e, _⟩
  · exact h
  · cases o <;> subst e <;> cases f
theorem eqF_rep {d e : D} {v w : V} (f : flatD d = true) (g : flatD e = true) (h : Rep K adr F d v) (k : Rep K adr F e w) : eqF d e = eqV v w := by
  cases d <;> first | (cases f; done) | (cases e <;> first | (cases g; done) | (simp only [Rep] at h k; subst h; subst k; rfl))
theorem flat_all : ∀ {ds : List D} {vs : List V}, ds.all flatD = true → RepL K adr F ds vs → vs.all flatV = true
  | [], _, _, h => by simp only [RepL] at h; subst h; rfl
  | d :: ds, _, f, h => by
    obtain ⟨w, r, rfl, h2, h3⟩ := h
    rw [List.all_cons, Bool.and_eq_true] at f
    rw [List.all_cons, flat_rep f.1 h2, flat_all f.2 h3] <;> rfl
theorem any_rep {e : D} {w : V} (g : flatD e = true) (k : Rep K adr F e w) : ∀ {ds : List D} {vs : List V}, ds.all flatD = true → RepL K adr F ds vs → (ds.any fun y => eqF y e) = inV w vs
  | [], _, _, h => by simp only [RepL] at h; subst h; rfl
  | d :: ds, _, f, h => by
    obtain ⟨v, r, rfl, h2, h3⟩ := h
    rw [List.all_cons, Bool.and_eq_true] at f
    unfold inV
    rw [List.any_cons, List.any_cons, eqF_rep f.1 g h2 k, any_rep g k f.2 h3] <;> rfl
mutual
theorem toP_rep (s : Same F H) : ∀ (d : D) (p : PyData) (v : V), toP d = some p → Rep K adr F d v → Dp K H v p
  | .non, p, v, e, h => by simp only [toP] at e; cases e; simp only [Rep] at h; subst h; exact .non
  | .bl _, p, v, e, h => by simp only [toP] at e; cases e; simp only [Rep] at h; subst h; exact .bl _
  | .int _, p, v, e, h => by simp only [toP] at e; cases e; simp only [Rep] at h; subst h; exact .int _
  | .str _, p, v, e, h => by simp only [toP] at e; cases e; simp only [Rep] at h; subst h; exact .str _
  | .tup xs, p, v, e, h => by
    simp only [toP] at e
    cases q : toPL xs with
    | none => rw [q] at e; cases e
    | some ps =>
      rw [q] at e; cases e
      simp only [Rep] at h
      obtain ⟨a, vs, rfl, h2, h3⟩ := h
      exact .tup (Same.sqT s h2) (toPL_rep s xs ps vs q h3)
  | .lst xs, p, v, e, h => by
    simp only [toP] at e
    cases q : toPL xs with
    | none => rw [q] at e; cases e
    | some ps =>
      rw [q] at e; cases e
      simp only [Rep] at h
      obtain ⟨a, vs, rfl, h2, h3⟩ := h
      exact .lst (.of (s _ _ h2)) (toPL_rep s xs ps vs q h3)
  | .scr ns, p, v, e, h => by
    simp only [toP] at e; cases e
    simp only [Rep] at h
    obtain ⟨a, rfl, h2⟩ := h
    refine .lst (s.seq h2) ?_
    clear h2
    induction ns with
    | nil => exact .nil
    | cons n ns ih => exact .cons (.int n) ih
  | .ins _ _, _, _, e, _ => by simp only [toP] at e; cases e
  | .fn _, _, _, e, _ => by simp only [toP] at e; cases e
  | .cls _, _, _, e, _ => by simp only [toP] at e; cases e
theorem toPL_rep (s : Same F H) : ∀ (ds : List D) (ps : List PyData) (vs : List V), toPL ds = some ps → RepL K adr F ds vs → DpAll K H vs ps
  | [], ps, vs, e, h => by simp only [toPL] at e; cases e; simp only [RepL] at h; subst h; exact .nil
  | d :: ds, ps, vs, e, h => by
    simp only [RepL] at h
    obtain ⟨v, r, rfl, h2, h3⟩ := h
    simp only [toPL] at e
    cases q1 : toP d with
    | none => rw [q1] at e; cases e
    | some p =>
      cases q2 : toPL ds with
      | none => rw [q1, q2] at e; cases e
      | some qs =>
        rw [q1, q2] at e; cases e
        exact .cons (toP_rep s d p v q1 h2) (toPL_rep s ds qs r q2 h3)
end
theorem toP_view (s : Same F H) {d : D} {p : PyData} {v : V} (e : toP d = some p) (h : View K adr F H d v) : Dp K H v p := by
  rcases h with h | ⟨o, a, e2, hv, h⟩
  · exact toP_rep s d p v e h
  · subst e2; subst hv
    cases o with
    | L xs =>
      obtain ⟨vs, h1, h2⟩ := h
      have e : (toPL xs).map PyData.list = some p := e
      cases q : toPL xs with
      | none => rw [q] at e; cases e
      | some ps => rw [q] at e; cases e; exact .lst (.of h1) (toPL_rep s xs ps vs q h2)
    | I c fs => cases e
end

section
variable {X : Cx} {adr : Str → Addr}
theorem lim_eq : lim = sizeLine := by rw [sizeLine_eq]
theorem Fin.val {F H : Hp} {d : D} {v : V} {Q : VK} (h : Fin X.K adr F H (.v d) Q) (s : Same F H) (r : Rep X.K adr F d v) : Q v H := h v H F (New.val s r)
/-- a binary operation -/
def rB (K : PySem.W.Frag) (adr : Str → Addr) (g : D → D → Option R) : R2 := fun x y H Q => ∃ F d1 d2 r, Same F H ∧ View K adr F H d1 x ∧ View K adr F H d2 y ∧ g d1 d2 = some r ∧ Fin K adr F H r Q
theorem OpR.im {f : Value → Value → Sem Value} {r r' : R2} (h : OpR X f r) (w : ∀ x y H Q, r' x y H Q → r x y H Q) : OpR X f r' := fun pins s σ H x y v u Q I rx ry q => h pins s σ H x y v u Q I rx ry (w x y H Q q)
theorem mulB_ok {i j : Int} (h : mulB i j = true) : IntMulOk i j := by
  unfold mulB at h
  rw [Bool.or_eq_true, Bool.or_eq_true] at h
  rcases h with (h | h) | h
  · have := of_decide_eq_true h
    exact CMul.ok (.inl (by omega))
  · have := of_decide_eq_true h
    exact CMul.ok (.inr (by omega))
  · exact CMulW.ok (show i.natAbs.log2 + j.natAbs.log2 < 1000000 from of_decide_eq_true h)
theorem op_mulB : OpR X (binaryOp .Mult) (rI (fun i j => mulB i j = true) fun i j => .int (i * j)) := opI fun _ _ _ _ _ _ _ hc q => mul_int q (mulB_ok hc)
theorem op_powB : OpR X (binaryOp .Pow) (rI (fun i j => powB i j = true) fun i j => .int (i ^ j.toNat)) := opI fun i j _ _ _ _ _ hc q => by
  unfold powB at hc
  rw [Bool.and_eq_true] at hc
  exact pow_int (of_decide_eq_true hc.1) (of_decide_eq_true hc.2) q
theorem View.tupR {F H : Hp} {xs : List D} {v : V} {K : PySem.W.Frag} (h : View K adr F H (.tup xs) v) : Rep K adr F (.tup xs) v := by
  rcases h with h | ⟨o, a, e, _⟩
  · exact h
  · cases o <;> cases e
theorem RepL.nil_iff {F : Hp} {K : PySem.W.Frag} {ds : List D} {vs : List V} (h : RepL K adr F ds vs) : vs = [] ↔ ds = [] := by
  cases ds with
  | nil => simp only [RepL] at h; simp [h]
  | cons d ds => obtain ⟨v, r, rfl, _⟩ := h; simp
theorem ite_some {α : Type} {p : Prop} [Decidable p] {a b : α} (e : (if p then some a else none) = some b) : p ∧ a = b := by
  split at e
  · rename_i h; cases e; exact ⟨h, rfl⟩
  · cases e
theorem pushL {F H : Hp} {xs : List D} {vs : List V} {Q : VK} (q : Fin X.K adr F H (.own (.L xs)) Q) (s : Same F H) (h : RepL X.K adr F xs vs) : ∀ p, H p = none → Q (.ref p) (upd H p (.lst vs)) :=
  fun p hp => q _ _ _ (New.lst s hp h)
theorem pushT {F H : Hp} {xs : List D} {vs : List V} {Q : VK} (q : Fin X.K adr F H (.v (.tup xs)) Q) (s : Same F H) (h : RepL X.K adr F xs vs) : ∀ p, H p = none → Q (.ref p) (upd H p (.tup vs)) :=
  fun p hp => q _ _ _ (New.tup s hp h)
theorem op_none {f : Value → Value → Sem Value} : OpR X f fun _ _ _ _ => False := fun _ _ _ _ _ _ _ _ _ _ _ _ h => h.elim
theorem binR (o : Operator) : OpR X (binaryOp o) (rB X.K adr (binD o)) := by
  cases o with
  | Add =>
    refine OpR.im (OpR.or op_add (OpR.or op_cat (OpR.or op_catT op_add_str))) ?_
    rintro x y H Q ⟨F, d1, d2, r, s, h1, h2, e, q⟩
    cases d1 <;> cases d2 <;> try cases e
    · have a1 := h1.int; have a2 := h2.int; subst a1 a2
      exact .inl ⟨_, _, rfl, rfl, q.val s rfl⟩
    · have a1 := h1.str; have a2 := h2.str; subst a1 a2
      obtain ⟨hz, e⟩ := ite_some e
      subst e
      exact .inr (.inr (.inr ⟨_, _, rfl, rfl, by rw [← lim_eq]; exact hz, q.val s rfl⟩))
    · obtain ⟨hz, e⟩ := ite_some e
      subst e
      obtain ⟨a, vs, rfl, m1, r1⟩ := h1.tup s
      obtain ⟨b, ws, rfl, m2, r2⟩ := h2.tup s
      obtain ⟨a', vs', e1, m1', r1'⟩ := h1.tupR
      obtain ⟨b', ws', e2, m2', r2'⟩ := h2.tupR
      cases e1; cases e2
      refine .inr (.inr (.inl ⟨_, _, _, _, rfl, rfl, m1, m2, fun z => hz.2 (r1.nil_iff.mp z), ?_, fun z => ?_, fun _ => pushT q s (r1.app r2)⟩))
      · rw [r1.length, r2.length, ← lim_eq]; exact hz.1
      · have z := r2.nil_iff.mp z
        subst z
        rw [List.append_nil] at q
        exact q.val s h1.tupR
    · obtain ⟨hz, e⟩ := ite_some e
      subst e
      obtain ⟨a, vs, rfl, m1, r1⟩ := h1.lst s
      obtain ⟨b, ws, rfl, m2, r2⟩ := h2.lst s
      exact .inr (.inl ⟨_, _, _, _, rfl, rfl, m1, m2, by rw [r1.length, r2.length, ← lim_eq]; exact hz, pushL q s (r1.app r2)⟩)
  | Sub =>
    refine OpR.im op_sub ?_
    rintro x y H Q ⟨F, d1, d2, r, s, h1, h2, e, q⟩
    cases d1 <;> cases d2 <;> try cases e
    have a1 := h1.int; have a2 := h2.int; subst a1 a2
    exact ⟨_, _, rfl, rfl, q.val s rfl⟩
  | Mult =>
    refine OpR.im op_mulB ?_
    rintro x y H Q ⟨F, d1, d2, r, s, h1, h2, e, q⟩
    cases d1 <;> cases d2 <;> try cases e
    have a1 := h1.int; have a2 := h2.int; subst a1 a2
    obtain ⟨hz, e⟩ := ite_some e
    subst e
    exact ⟨_, _, rfl, rfl, hz, q.val s rfl⟩
  | FloorDiv =>
    refine OpR.im op_fdivW ?_
    rintro x y H Q ⟨F, d1, d2, r, s, h1, h2, e, q⟩
    cases d1 <;> cases d2 <;> try cases e
    have a1 := h1.int; have a2 := h2.int; subst a1 a2
    obtain ⟨hz, e⟩ := ite_some e
    subst e
    unfold divB at hz
    rw [Bool.and_eq_true] at hz
    exact ⟨_, _, rfl, rfl, ⟨of_decide_eq_true hz.1, of_decide_eq_true hz.2⟩, q.val s rfl⟩
  | Mod =>
    refine OpR.im op_mod ?_
    rintro x y H Q ⟨F, d1, d2, r, s, h1, h2, e, q⟩
    cases d1 <;> cases d2 <;> try cases e
    have a1 := h1.int; have a2 := h2.int; subst a1 a2
    obtain ⟨hz, e⟩ := ite_some e
    subst e
    exact ⟨_, _, rfl, rfl, hz, q.val s rfl⟩
  | Pow =>
    refine OpR.im op_powB ?_
    rintro x y H Q ⟨F, d1, d2, r, s, h1, h2, e, q⟩
    cases d1 <;> cases d2 <;> try cases e
    have a1 := h1.int; have a2 := h2.int; subst a1 a2
    obtain ⟨hz, e⟩ := ite_some e
    subst e
    exact ⟨_, _, rfl, rfl, hz, q.val s rfl⟩
  | _ => exact OpR.im op_none fun x y H Q ⟨_, _, _, _, _, _, _, e, _⟩ => by cases e
/-- a comparison -/
def rC (K : PySem.W.Frag) (adr : Str → Addr) (g : D → D → Option Bool) : R2 := fun x y H Q => ∃ F d1 d2 b, Same F H ∧ View K adr F H d1 x ∧ View K adr F H d2 y ∧ g d1 d2 = some b ∧ Q (.bl b) H
theorem eqD_cases {F H : Hp} {d1 d2 : D} {b : Bool} {x y : V} {K : PySem.W.Frag} (s : Same F H) (h1 : View K adr F H d1 x) (h2 : View K adr F H d2 y) (e : eqD d1 d2 = some b) :
    (scal x y = true ∧ b = decide (x = y)) ∨ ∃ p q, Dp K H x p ∧ Dp K H y q ∧ SeqAt.shaped p = true ∧ SeqAt.shaped q = true ∧ b = PyData.eqv p q := by
  have gen : ∀ {d1 d2 : D}, View K adr F H d1 x → View K adr F H d2 y → (match toP d1, toP d2 with
      | some p, some q => if SeqAt.shaped p && SeqAt.shaped q then some (PyData.eqv p q) else none
      | _, _ => none) = some b → ∃ p q, Dp K H x p ∧ Dp K H y q ∧ SeqAt.shaped p = true ∧ SeqAt.shaped q = true ∧ b = PyData.eqv p q := fun {d1 d2} h1 h2 e => by
    cases q1 : toP d1 with
    | none => rw [q1] at e; cases e
    | some p =>
      cases q2 : toP d2 with
      | none => rw [q1, q2] at e; cases e
      | some q =>
        rw [q1, q2] at e
        obtain ⟨hz, e⟩ := ite_some e
        rw [Bool.and_eq_true] at hz
        exact ⟨p, q, toP_view s q1 h1, toP_view s q2 h2, hz.1, hz.2, e.symm⟩
  unfold eqD at e
  split at e
  · have a1 := h1.int; have a2 := h2.int; subst a1 a2; cases e
    exact .inl ⟨rfl, by simp⟩
  · have a1 := h1.str; have a2 := h2.str; subst a1 a2; cases e
    exact .inl ⟨rfl, by simp⟩
  · have a1 := h1.bl; have a2 := h2.bl; subst a1 a2; cases e
    exact .inl ⟨rfl, by simp⟩
  · have a1 := h1.non; have a2 := h2.non; subst a1 a2; cases e
    exact .inl ⟨rfl, by simp⟩
  · exact .inr (gen h1 h2 e)
theorem inD_cases {F H : Hp} {d1 d2 : D} {b : Bool} {x y : V} {K : PySem.W.Frag} (s : Same F H) (h1 : View K adr F H d1 x) (h2 : View K adr F H d2 y) (e : inD d1 d2 = some b) :
    ∃ p xs, y = .ref p ∧ (SqL K H p xs ∨ SqT K H p xs) ∧ flatV x = true ∧ xs.all flatV = true ∧ b = inV x xs := by
  unfold inD at e
  cases q : itemsD d2 with
  | none => rw [q] at e; cases e
  | some ds =>
    rw [q] at e
    obtain ⟨hz, e⟩ := ite_some e
    rw [Bool.and_eq_true] at hz
    obtain ⟨a, vs, hv, hs, hr⟩ := h2.items s q
    have h1 := flat_view hz.1 h1
    exact ⟨a, vs, hv, hs, flat_rep hz.1 h1, flat_all hz.2 hr, by rw [← e]; exact any_rep hz.1 h1 hz.2 hr⟩
theorem isD_cases {F H : Hp} {d1 d2 : D} {b : Bool} {x y : V} {K : PySem.W.Frag} (h1 : View K adr F H d1 x) (h2 : View K adr F H d2 y) (e : isD d1 d2 = some b) : y = .non ∧ b = decide (x = .non) := by
  unfold isD at e
  split at e
  · have a2 := h2.non
    refine ⟨a2, ?_⟩
    cases e
    rcases h1 with h1 | ⟨o, a, e, hv, _⟩
    · split
      · simp only [Rep] at h1; subst h1; simp
      · rename_i hn
        cases d1 <;> first | exact absurd rfl hn | (simp only [Rep] at h1; subst h1; simp) | (simp only [Rep] at h1; obtain ⟨a, h1⟩ := h1; first | (obtain ⟨vs, rfl, _⟩ := h1; simp) | (obtain ⟨rfl, _⟩ := h1; simp) | (obtain ⟨dx, vs, rfl, _⟩ := h1; simp))
    · subst e; subst hv
      cases o <;> simp [O.dat]
  · cases e
theorem map_not {o : Option Bool} {b : Bool} (e : o.map not = some b) : ∃ c, o = some c ∧ b = !c := by
  cases o with
  | none => cases e
  | some c => cases e; exact ⟨c, rfl, rfl⟩
theorem cmpR' (o : CmpOp) (hu : X.A.units + 64 < cLine) : OpR X (compareOp o) (rC X.K adr (cmpD o)) := by
  have hInt : ∀ {g : Int → Int → Bool} {f : Value → Value → Sem Value} {h : D → D → Option Bool}, OpR X f (rI0 fun i j => .bl (g i j)) → (∀ d1 d2 b, h d1 d2 = some b → ∃ i j, d1 = .int i ∧ d2 = .int j ∧ b = g i j) → OpR X f (rC X.K adr h) := fun {g f h} r w => by
    refine OpR.im r ?_
    rintro x y H Q ⟨F, d1, d2, b, s, h1, h2, e, q⟩
    obtain ⟨i, j, rfl, rfl, rfl⟩ := w d1 d2 b e
    have a1 := h1.int; have a2 := h2.int; subst a1 a2
    exact ⟨_, _, rfl, rfl, q⟩
  cases o with
  | Eq =>
    refine OpR.im (OpR.or op_eq (op_eqD hu)) ?_
    rintro x y H Q ⟨F, d1, d2, b, s, h1, h2, e, q⟩
    rcases eqD_cases s h1 h2 e with ⟨e1, rfl⟩ | ⟨p, p', e1, e2, e3, e4, rfl⟩
    · exact .inl ⟨e1, q⟩
    · exact .inr ⟨p, p', e1, e2, e3, e4, q⟩
  | NotEq =>
    refine OpR.im (OpR.or op_ne (op_neD hu)) ?_
    rintro x y H Q ⟨F, d1, d2, b, s, h1, h2, e, q⟩
    obtain ⟨c, e5, rfl⟩ := map_not e
    rcases eqD_cases s h1 h2 e5 with ⟨e1, rfl⟩ | ⟨p, p', e1, e2, e3, e4, rfl⟩
    · exact .inl ⟨e1, q⟩
    · exact .inr ⟨p, p', e1, e2, e3, e4, q⟩
  | Lt => exact hInt op_lt fun d1 d2 b e => by cases d1 <;> cases d2 <;> first | (cases e; done) | (cases e; exact ⟨_, _, rfl, rfl, rfl⟩)
  | LtE => exact hInt op_le fun d1 d2 b e => by cases d1 <;> cases d2 <;> first | (cases e; done) | (cases e; exact ⟨_, _, rfl, rfl, rfl⟩)
  | Gt => exact hInt op_gt fun d1 d2 b e => by cases d1 <;> cases d2 <;> first | (cases e; done) | (cases e; exact ⟨_, _, rfl, rfl, rfl⟩)
  | GtE => exact hInt op_ge fun d1 d2 b e => by cases d1 <;> cases d2 <;> first | (cases e; done) | (cases e; exact ⟨_, _, rfl, rfl, rfl⟩)
  | Is =>
    refine OpR.im op_isN ?_
    rintro x y H Q ⟨F, d1, d2, b, s, h1, h2, e, q⟩
    obtain ⟨rfl, rfl⟩ := isD_cases h1 h2 e
    exact ⟨rfl, q⟩
  | IsNot =>
    refine OpR.im op_notN ?_
    rintro x y H Q ⟨F, d1, d2, b, s, h1, h2, e, q⟩
    obtain ⟨c, e5, rfl⟩ := map_not e
    obtain ⟨rfl, rfl⟩ := isD_cases h1 h2 e5
    exact ⟨rfl, q⟩
  | In =>
    refine OpR.im op_in_seq ?_
    rintro x y H Q ⟨F, d1, d2, b, s, h1, h2, e, q⟩
    obtain ⟨p, xs, e1, e2, e3, e4, rfl⟩ := inD_cases s h1 h2 e
    exact ⟨p, xs, e1, e2, e3, e4, q⟩
  | NotIn =>
    refine OpR.im op_notIn_seq ?_
    rintro x y H Q ⟨F, d1, d2, b, s, h1, h2, e, q⟩
    obtain ⟨c, e5, rfl⟩ := map_not e
    obtain ⟨p, xs, e1, e2, e3, e4, rfl⟩ := inD_cases s h1 h2 e5
    exact ⟨p, xs, e1, e2, e3, e4, q⟩
end
end Ky
end
section
set_option Elab.async false
set_option linter.all false
set_option maxRecDepth 100000
set_option maxHeartbeats 1000000
/-! Ky, part F: isinstance, built-in functions, places and slices, by values. -/
namespace Ky
open PySem PySem.Spec PyProof.Rows L2
/-- what the written part says of an own class -/
structure ClOk (K : PySem.W.Frag) (C : Addr) : Prop where
  cls : Cls K C
  ha : PySem.W.findIn K (.ref C) "__class__" = some (some (.builtin "object.__class__"))
  hn : PySem.W.specialIn K (.builtin "object.__class__") "__get__" = some (some (.builtin "getset_descriptor.__get__"))
  ht : PySem.W.takesIn K (.builtin "object.__class__") = some true
  hm : PySem.W.mroIn K C (.type "object") = some true
def sixTy : List String := ["NoneType", "bool", "int", "str", "tuple", "list"]
structure ClFact (K : PySem.W.Frag) (adr : Str → Addr) (G : GT) : Prop where
  own : ∀ c ∈ G.cl, ClOk K (adr c)
  oo : ∀ c ∈ G.cl, ∀ c' ∈ G.cl, PySem.W.kitOne K (.ref (adr c)) (.ref (adr c')) = some (G.sub c c')
  bo : ∀ a ∈ sixTy, ∀ c ∈ G.cl, PySem.W.kitOne K (.type a) (.ref (adr c)) = some false
  ob : ∀ c ∈ G.cl, ∀ b ∈ okTy, PySem.W.kitOne K (.ref (adr c)) (.type b) = some false
def tyVal (adr : Str → Addr) : Ty → Value | .ty n => .type n | .cl c => .ref (adr c)
def tyV' (adr : Str → Addr) : Ty → V | .ty n => .ty n | .cl c => .ref (adr c)
theorem six_of {d : D} {a : String} (e : kindD d = some (.inl a)) : a ∈ sixTy := by
  cases d <;> first | (cases e; done) | (cases e; decide)
theorem kit_six : ∀ a ∈ sixTy, ∀ b ∈ okTy, kitB a b = some (isiB a b) := by decide +kernel
section
variable {K : PySem.W.Frag} {adr : Str → Addr} {F H : Hp} {v : V} {d : D} {G : GT}
theorem View.ty (C : ClFact K adr G) (s : Same F H) (h : View K adr F H d v) {t : Ty} {b : Bool} (e : isiT G.cl G.sub d t = some b) : ∃ u, TyX K H v u ∧ ∀ t b, isiT G.cl G.sub d t = some b → PySem.W.kitOne K u (tyVal adr t) = some b := by
  have base : ∀ {a : String}, kindD d = some (.inl a) → TyX K H v (.type a) := fun {a} q => by
    cases d with
    | non => cases q; have := h.non; subst this; exact .base .non
    | bl _ => cases q; have := h.bl; subst this; exact .base (.bl _)
    | int _ => cases q; have := h.int; subst this; exact .base (.int _)
    | str _ => cases q; have := h.str; subst this; exact .base (.str _)
    | tup xs =>
      cases q
      obtain ⟨a, vs, rfl, h2, _⟩ := h.tup s
      rcases h2 with (h2 | ⟨o, h2⟩) | ⟨o, its, n, hk, hc, _⟩
      · exact .base (.tup h2)
      · exact .fTuple h2
      · exact .kTuple hk hc
    | lst xs =>
      cases q
      obtain ⟨a, vs, rfl, h2, _⟩ := h.lst s
      exact .base (.lst h2)
    | scr ns =>
      cases q
      obtain ⟨a, rfl, h2⟩ := h.scr s
      rcases h2 with (h2 | ⟨o, h2⟩) | ⟨o, its, n, hk, hc, _⟩
      · exact .base (.lst h2)
      · exact .base (.frz h2)
      · exact .kList hk hc
    | ins c fs => cases q
    | fn q' => cases q
    | cls c => cases q
  have insT : ∀ {c : Str}, kindD d = some (.inr c) → c ∈ G.cl → TyX K H v (.ref (adr c)) := fun {c} q m => by
    cases d <;> first | (cases q; done) | skip
    cases q
    obtain ⟨a, dx, vs, rfl, h2, _⟩ := h.ins s
    have k := C.own c m
    exact .base (.ins h2 k.cls k.ha k.hn k.ht k.hm)
  have kit : ∀ k, kindD d = some k → ∀ t b, isiT G.cl G.sub d t = some b → PySem.W.kitOne K (match k with | .inl a => .type a | .inr c => .ref (adr c)) (tyVal adr t) = some b := fun k q t b e => by
    unfold isiT at e
    rw [q] at e
    cases k with
    | inl a =>
      cases t with
      | ty n =>
        obtain ⟨z, rfl⟩ := ite_some e
        exact kit_ty (kit_six a (six_of q) n (List.contains_iff_mem.mp z))
      | cl c =>
        obtain ⟨z, rfl⟩ := ite_some e
        exact C.bo a (six_of q) c (List.contains_iff_mem.mp z)
    | inr c' =>
      cases t with
      | ty n =>
        obtain ⟨z, rfl⟩ := ite_some e
        rw [Bool.and_eq_true] at z
        exact C.ob c' (List.contains_iff_mem.mp z.1) n (List.contains_iff_mem.mp z.2)
      | cl c =>
        obtain ⟨z, rfl⟩ := ite_some e
        rw [Bool.and_eq_true] at z
        exact C.oo c' (List.contains_iff_mem.mp z.1) c (List.contains_iff_mem.mp z.2)
  have e0 := e
  unfold isiT at e
  cases q : kindD d with
  | none => rw [q] at e; cases t <;> cases e
  | some k =>
    rw [q] at e
    cases k with
    | inl a => exact ⟨_, base q, kit _ q⟩
    | inr c' =>
      have m : c' ∈ G.cl := by
        cases t with
        | ty n =>
          obtain ⟨z, rfl⟩ := ite_some e
          rw [Bool.and_eq_true] at z
          exact List.contains_iff_mem.mp z.1
        | cl c =>
          obtain ⟨z, rfl⟩ := ite_some e
          rw [Bool.and_eq_true] at z
          exact List.contains_iff_mem.mp z.1
      exact ⟨_, insT q m, kit _ q⟩
end
section
variable {X : Cx} {adr : Str → Addr} {G : GT}
theorem CallR.im {f : Value} {r r' : List V → Hp → VK → Prop} (h : CallR X f r) (w : ∀ xs H Q, r' xs H Q → r xs H Q) : CallR X f r' := fun pins s σ H xs us Q I rx q => h pins s σ H xs us Q I rx (w xs H Q q)
theorem clsV_ty (t : Ty) : ClsV (tyV' adr t) (tyVal adr t) := by cases t <;> constructor
/-- isinstance(x, C) -/
def rI1 (K : PySem.W.Frag) (adr : Str → Addr) (G : GT) (t : Ty) : List V → Hp → VK → Prop := fun xs H Q => ∃ F d b x, xs = [x, tyV' adr t] ∧ Same F H ∧ View K adr F H d x ∧ isiT G.cl G.sub d t = some b ∧ Q (.bl b) H
theorem isiR (C : ClFact X.K adr G) (t : Ty) : CallR X (.builtin "isinstance") (rI1 X.K adr G t) := by
  refine CallR.im call_isi ?_
  rintro xs H Q ⟨F, d, b, x, rfl, s, h, e, q⟩
  obtain ⟨u, h1, h2⟩ := h.ty C s e
  exact ⟨x, _, u, _, b, rfl, clsV_ty t, h1, h2 _ _ e, q⟩
/-- isinstance(x, (C, D, ..)) -/
def rI2 (K : PySem.W.Frag) (adr : Str → Addr) (G : GT) (ts : List Ty) : List V → Hp → VK → Prop := fun xs H Q => ∃ F d bs x tp, xs = [x, .ref tp] ∧ H tp = some (.tup (ts.map (tyV' adr))) ∧ Same F H ∧ View K adr F H d x ∧ ts ≠ [] ∧ ts.mapM (isiT G.cl G.sub d) = some bs ∧ Q (.bl (bs.any _root_.id)) H
theorem kit_many {K : PySem.W.Frag} {u : Value} {g : Ty → Option Bool} (h : ∀ t b, g t = some b → PySem.W.kitOne K u (tyVal adr t) = some b) : ∀ {ts : List Ty} {bs : List Bool}, ts.mapM g = some bs → PySem.W.kitAny K u (ts.map (tyVal adr)) = some (bs.any _root_.id)
  | [], bs, e => by cases e; rfl
  | t :: ts, bs, e => by
    rw [List.mapM_cons] at e
    cases q1 : g t with
    | none => rw [q1] at e; cases e
    | some b =>
      cases q2 : ts.mapM g with
      | none => rw [q1, q2] at e; cases e
      | some cs =>
        rw [q1, q2] at e
        cases e
        refine kitAny_cons (h t b q1) (fun z => ?_) (fun z => ?_)
        · rw [z, List.any_cons, show _root_.id false = false from rfl, Bool.false_or]; exact kit_many h q2
        · rw [z]; rfl
theorem paired_ty : ∀ (ts : List Ty), Paired ClsV (ts.map (tyV' adr)) (ts.map (tyVal adr))
  | [] => .nil
  | t :: ts => .cons (clsV_ty t) (paired_ty ts)
theorem isiR2 (C : ClFact X.K adr G) (ts : List Ty) : CallR X (.builtin "isinstance") (rI2 X.K adr G ts) := by
  refine CallR.im call_isiT ?_
  rintro xs H Q ⟨F, d, bs, x, tp, rfl, ht, s, h, hne, e, q⟩
  cases ts with
  | nil => exact absurd rfl hne
  | cons t ts =>
    have e1 := e
    rw [List.mapM_cons] at e1
    cases q1 : isiT G.cl G.sub d t with
    | none => rw [q1] at e1; cases e1
    | some b =>
      obtain ⟨u, h1, h2⟩ := h.ty C s q1
      exact ⟨x, tp, _, u, _, _, rfl, ht, paired_ty _, h1, kit_many h2 e, q⟩
/-- a built-in's call -/
def biN : Bi → String
  | .len => "len" | .abs => "abs" | .max2 => "max" | .min2 => "min" | .int => "int" | .tuple => "tuple" | .list => "list" | .sorted => "sorted" | .sum => "sum" | .divmod => "divmod"
  | .bool => "bool" | .any => "any" | .all => "all" | .max => "max" | .min => "min" | .str => "str"
def biV : Bi → Value
  | .len => .builtin "len" | .abs => .builtin "abs" | .max2 => .builtin "max" | .min2 => .builtin "min" | .int => .type "int" | .tuple => .type "tuple" | .list => .type "list" | .sorted => .builtin "sorted" | .sum => .builtin "sum" | .divmod => .builtin "divmod"
  | .bool => .type "bool" | .any => .builtin "any" | .all => .builtin "all" | .max => .builtin "max" | .min => .builtin "min" | .str => .type "str"
def Views (K : PySem.W.Frag) (adr : Str → Addr) (F H : Hp) : List D → List V → Prop
  | [], vs => vs = []
  | d :: ds, vs => ∃ v r, vs = v :: r ∧ View K adr F H d v ∧ Views K adr F H ds r
def rBi (K : PySem.W.Frag) (adr : Str → Addr) (b : Bi) : List V → Hp → VK → Prop := fun xs H Q => ∃ F ds r, Same F H ∧ Views K adr F H ds xs ∧ biD b ds = some r ∧ Fin K adr F H r Q
theorem call_none {f : Value} : CallR X f fun _ _ _ => False := fun _ _ _ _ _ _ _ _ _ h => h.elim
theorem insI_perm (x : Int) : ∀ ys : List Int, (insI x ys).Perm (x :: ys)
  | [] => .refl _
  | y :: ys => by
    unfold insI
    split
    · exact .refl _
    · exact ((insI_perm x ys).cons y).trans (.swap x y ys)
theorem sortI_perm : ∀ xs : List Int, (sortI xs).Perm xs
  | [] => .refl _
  | x :: xs => (insI_perm x (sortI xs)).trans ((sortI_perm xs).cons x)
theorem insI_sorted (x : Int) : ∀ {ys : List Int}, ys.Pairwise (· ≤ ·) → (insI x ys).Pairwise (· ≤ ·)
  | [], _ => by simp [insI]
  | y :: ys, h => by
    unfold insI
    have h1 := List.pairwise_cons.mp h
    split
    · rename_i hx
      refine List.pairwise_cons.mpr ⟨fun z hz => ?_, h⟩
      rcases List.mem_cons.mp hz with rfl | hz
      · exact hx
      · exact Int.le_trans hx (h1.1 z hz)
    · rename_i hx
      refine List.pairwise_cons.mpr ⟨fun z hz => ?_, insI_sorted x h1.2⟩
      rcases List.mem_cons.mp ((insI_perm x ys).mem_iff.mp hz) with rfl | hz
      · omega
      · exact h1.1 z hz
theorem sortI_sorted : ∀ xs : List Int, (sortI xs).Pairwise (· ≤ ·)
  | [] => .nil
  | x :: xs => insI_sorted x (sortI_sorted xs)
theorem sorted_one : ∀ {xs ys : List Int}, xs.Perm ys → xs.Pairwise (· ≤ ·) → ys.Pairwise (· ≤ ·) → xs = ys
  | [], ys, p, _, _ => (List.nil_perm.mp p).symm
  | x :: xs, [], p, _, _ => by have := p.length_eq; simp at this
  | x :: xs, y :: ys, p, h, g => by
    have h1 := List.pairwise_cons.mp h
    have g1 := List.pairwise_cons.mp g
    have e : x = y := by
      have a1 : x ≤ y := by
        rcases List.mem_cons.mp (p.mem_iff.mpr List.mem_cons_self) with e | e
        · omega
        · exact h1.1 y e
      have a2 : y ≤ x := by
        rcases List.mem_cons.mp (p.mem_iff.mp List.mem_cons_self) with e | e
        · omega
        · exact g1.1 x e
      omega
    subst e
    rw [sorted_one (List.Perm.cons_inv p) h1.2 g1.2]
theorem sixLim {n : Nat} : n ≤ lim ↔ n ≤ sizeLine := by rw [lim_eq]
theorem biR (b : Bi) (hc : hotB b = false → X.calm = true) : CallR X (biV b) (rBi X.K adr b) := by
  cases b with
  | len =>
    refine CallR.im call_len ?_
    rintro xs H Q ⟨F, ds, r, s, h, e, q⟩
    rcases ds with _ | ⟨d, _ | ⟨d2, ds⟩⟩
    · cases e
    · obtain ⟨v, _, rfl, h, rfl⟩ := h
      have e : (lenD d).map (fun n => R.v (.int n)) = some r := e
      cases d with
      | str x =>
        have := h.str; subst this
        by_cases hz : x.length ≤ lim
        · have z : lenD (.str x) = some x.length := if_pos hz
          rw [z] at e; cases e
          exact ⟨_, _, rfl, ⟨by rw [← lim_eq]; exact hz, rfl⟩, q.val s rfl⟩
        · have z : lenD (.str x) = none := if_neg hz
          rw [z] at e; cases e
      | tup ys => cases e; obtain ⟨a, vs, rfl, h2, h3⟩ := h.tup s; exact ⟨_, _, rfl, .inr ⟨vs, h2, rfl⟩, by rw [h3.length]; exact q.val s rfl⟩
      | lst ys => cases e; obtain ⟨a, vs, rfl, h2, h3⟩ := h.lst s; exact ⟨_, _, rfl, .inl ⟨vs, .of h2, rfl⟩, by rw [h3.length]; exact q.val s rfl⟩
      | scr ns => cases e; obtain ⟨a, rfl, h2⟩ := h.scr s; exact ⟨_, _, rfl, .inl ⟨_, h2, rfl⟩, by rw [List.length_map]; exact q.val s rfl⟩
      | _ => cases e
    · cases e
  | abs =>
    refine CallR.im call_abs ?_
    rintro xs H Q ⟨F, ds, r, s, h, e, q⟩
    rcases ds with _ | ⟨d, _ | ⟨d2, ds⟩⟩ <;> (try cases d) <;> try (cases e; done)
    obtain ⟨v, _, rfl, h, rfl⟩ := h
    have := h.int; subst this; cases e
    exact ⟨_, rfl, q.val s rfl⟩
  | max2 =>
    refine CallR.im (call_max2 (hc rfl)) ?_
    rintro xs H Q ⟨F, ds, r, s, h, e, q⟩
    rcases ds with _ | ⟨d, _ | ⟨d2, _ | ⟨d3, ds⟩⟩⟩ <;> (try cases d) <;> (try cases d2) <;> try (cases e; done)
    obtain ⟨v, _, rfl, h, w, _, rfl, h', rfl⟩ := h
    have := h.int; subst this; have := h'.int; subst this; cases e
    exact ⟨_, _, rfl, q.val s rfl⟩
  | min2 =>
    refine CallR.im (call_min2 (hc rfl)) ?_
    rintro xs H Q ⟨F, ds, r, s, h, e, q⟩
    rcases ds with _ | ⟨d, _ | ⟨d2, _ | ⟨d3, ds⟩⟩⟩ <;> (try cases d) <;> (try cases d2) <;> try (cases e; done)
    obtain ⟨v, _, rfl, h, w, _, rfl, h', rfl⟩ := h
    have := h.int; subst this; have := h'.int; subst this; cases e
    exact ⟨_, _, rfl, q.val s rfl⟩
  | int =>
    refine CallR.im call_int1 ?_
    rintro xs H Q ⟨F, ds, r, s, h, e, q⟩
    rcases ds with _ | ⟨d, _ | ⟨d2, ds⟩⟩ <;> (try cases d) <;> try (cases e; done)
    · obtain ⟨v, _, rfl, h, rfl⟩ := h
      have := h.bl; subst this; cases e
      exact .inr ⟨_, rfl, q.val s rfl⟩
    · obtain ⟨v, _, rfl, h, rfl⟩ := h
      have := h.int; subst this; cases e
      exact .inl ⟨_, rfl, q.val s rfl⟩
  | bool =>
    refine CallR.im call_bool1 ?_
    rintro xs H Q ⟨F, ds, r, s, h, e, q⟩
    rcases ds with _ | ⟨d, _ | ⟨d2, ds⟩⟩ <;> (try cases d) <;> try (cases e; done)
    · obtain ⟨v, _, rfl, h, rfl⟩ := h
      have := h.bl; subst this; cases e
      exact .inr ⟨_, rfl, q.val s rfl⟩
    · obtain ⟨v, _, rfl, h, rfl⟩ := h
      have := h.int; subst this; cases e
      exact .inl ⟨_, rfl, q.val s rfl⟩
  | tuple =>
    refine CallR.im call_tuple_of ?_
    rintro xs H Q ⟨F, ds, r, s, h, e, q⟩
    rcases ds with _ | ⟨d, _ | ⟨d2, ds⟩⟩ <;> (try cases d) <;> try (cases e; done)
    · obtain ⟨v, _, rfl, h, rfl⟩ := h
      cases e
      obtain ⟨a, vs, rfl, h2, h3⟩ := h.tup s
      exact ⟨_, _, rfl, .inr ⟨h2, q.val s h.tupR⟩⟩
    · obtain ⟨v, _, rfl, h, rfl⟩ := h
      cases e
      obtain ⟨a, vs, rfl, h2, h3⟩ := h.lst s
      exact ⟨_, _, rfl, .inl ⟨.of h2, pushT q s h3⟩⟩
    · obtain ⟨v, _, rfl, h, rfl⟩ := h
      cases e
      obtain ⟨a, rfl, h2⟩ := h.scr s
      exact ⟨_, _, rfl, .inl ⟨h2, pushT q s (RepL.ints _)⟩⟩
  | list =>
    refine CallR.im call_list_of ?_
    rintro xs H Q ⟨F, ds, r, s, h, e, q⟩
    rcases ds with _ | ⟨d, _ | ⟨d2, ds⟩⟩ <;> (try cases d) <;> try (cases e; done)
    · obtain ⟨v, _, rfl, h, rfl⟩ := h
      cases e
      obtain ⟨a, vs, rfl, h2, h3⟩ := h.tup s
      exact ⟨_, _, rfl, .inr h2, pushL q s h3⟩
    · obtain ⟨v, _, rfl, h, rfl⟩ := h
      cases e
      obtain ⟨a, vs, rfl, h2, h3⟩ := h.lst s
      exact ⟨_, _, rfl, .inl (.of h2), pushL q s h3⟩
    · obtain ⟨v, _, rfl, h, rfl⟩ := h
      cases e
      obtain ⟨a, rfl, h2⟩ := h.scr s
      exact ⟨_, _, rfl, .inl h2, pushL q s (RepL.ints _)⟩
  | divmod =>
    refine CallR.im call_divmodW ?_
    rintro xs H Q ⟨F, ds, r, s, h, e, q⟩
    rcases ds with _ | ⟨d, _ | ⟨d2, _ | ⟨d3, ds⟩⟩⟩ <;> (try cases d) <;> (try cases d2) <;> try (cases e; done)
    obtain ⟨v, _, rfl, h, w, _, rfl, h', rfl⟩ := h
    have := h.int; subst this; have := h'.int; subst this
    obtain ⟨hz, e⟩ := ite_some e
    subst e
    unfold divB at hz
    rw [Bool.and_eq_true] at hz
    exact ⟨_, _, rfl, ⟨of_decide_eq_true hz.1, PyProof.noPylong_of_log2 (of_decide_eq_true hz.2)⟩, pushT q s ⟨_, _, rfl, rfl, _, _, rfl, rfl, rfl⟩⟩
  | sum =>
    refine CallR.im (cr_sum (hc rfl)) ?_
    rintro xs H Q ⟨F, ds, r, s, h, e, q⟩
    rcases ds with _ | ⟨d, _ | ⟨d2, ds⟩⟩ <;> (try cases d) <;> try (cases e; done)
    rename_i ys
    obtain ⟨v, _, rfl, h, rfl⟩ := h
    have e : (intsD ys).map (fun ns => R.v (.int ns.sum)) = some r := e
    cases z : intsD ys with
    | none => rw [z] at e; cases e
    | some ns =>
      rw [z] at e; cases e
      obtain ⟨a, vs, rfl, h2, h3⟩ := h.lst s
      have := h3.intsV z
      subst this
      exact ⟨_, _, rfl, .of h2, q.val s rfl⟩
  | sorted =>
    refine CallR.im cr_sortedI ?_
    rintro xs H Q ⟨F, ds, r, s, h, e, q⟩
    rcases ds with _ | ⟨d, _ | ⟨d2, ds⟩⟩ <;> (try cases d) <;> try (cases e; done)
    rename_i ys
    obtain ⟨v, _, rfl, h, rfl⟩ := h
    have e : (intsD ys).map (fun ns => R.own (.L ((sortI ns).map .int))) = some r := e
    cases z : intsD ys with
    | none => rw [z] at e; cases e
    | some ns =>
      rw [z] at e; cases e
      obtain ⟨a, vs, rfl, h2, h3⟩ := h.lst s
      have := h3.intsV z
      subst this
      refine ⟨_, _, rfl, .of h2, fun ns' p hp hs hn => ?_⟩
      have e := sorted_one (hp.trans (sortI_perm ns).symm) hs (sortI_sorted ns)
      subst e
      exact pushL q s (RepL.ints _) p hn
  | _ => exact CallR.im call_none fun xs H Q ⟨F, ds, r, s, h, e, q⟩ => by rcases ds with _ | ⟨d, _ | ⟨d2, _ | ⟨d3, ds⟩⟩⟩ <;> (try cases d) <;> (try cases d2) <;> cases e
/-- places -/
theorem atI_rep {K : PySem.W.Frag} {F : Hp} {ds : List D} {vs : List V} {i : Int} {d : D} (h : RepL K adr F ds vs) (e : atI ds i = some d) : ∃ v, atI vs i = some v ∧ Rep K adr F d v := by
  unfold atI at e ⊢
  rw [h.length]
  cases q : ixN ds.length i with
  | none => rw [q] at e; cases e
  | some j => rw [q] at e; exact h.get e
theorem ixR : IxR X (rB X.K adr fun a b => (ixD a b).map R.v) := by
  intro va sl pins s σ H x y v u Q I rx ry h hsu
  obtain ⟨F, d1, d2, r, sf, h1, h2, e, q⟩ := h
  refine ix_seq va sl pins s σ H x y v u Q I rx ry ?_ hsu
  cases d1 <;> cases d2 <;> try (cases e; done)
  · have := h2.int; subst this
    rename_i xs i
    have e : (atI xs i).map R.v = some r := e
    cases z : atI xs i with
    | none => rw [z] at e; cases e
    | some d =>
      rw [z] at e; cases e
      obtain ⟨a, vs, rfl, m, r1⟩ := h1.tup sf
      obtain ⟨w, m1, m2⟩ := atI_rep r1 z
      exact .inr (.inl ⟨_, _, _, _, rfl, rfl, m, m1, q.val sf m2⟩)
  · have := h2.int; subst this
    rename_i xs i
    have e : (atI xs i).map R.v = some r := e
    cases z : atI xs i with
    | none => rw [z] at e; cases e
    | some d =>
      rw [z] at e; cases e
      obtain ⟨a, vs, rfl, m, r1⟩ := h1.lst sf
      obtain ⟨w, m1, m2⟩ := atI_rep r1 z
      exact .inl ⟨_, _, _, _, rfl, rfl, .of m, m1, q.val sf m2⟩
  · have := h2.int; subst this
    rename_i ns i
    have e : ((atI ns i).map D.int).map R.v = some r := e
    cases z : atI ns i with
    | none => rw [z] at e; cases e
    | some n =>
      rw [z] at e; cases e
      obtain ⟨a, rfl, m⟩ := h1.scr sf
      refine .inl ⟨_, _, _, .int n, rfl, rfl, m, ?_, q.val sf rfl⟩
      unfold atI at z ⊢
      rw [List.length_map]
      cases y : ixN ns.length i with
      | none => rw [y] at z; cases z
      | some j =>
        rw [y] at z
        have z : ns[j]? = some n := z
        show (ns.map V.int)[j]? = some (.int n)
        rw [List.getElem?_map, z]
        rfl
/-- slices -/
theorem cut_rep {K : PySem.W.Frag} {F : Hp} {ds : List D} {vs : List V} (lo hi : Option Int) (h : RepL K adr F ds vs) : RepL K adr F (cutD ds lo hi) (cutV vs lo hi) := by
  unfold cutD cutV
  rw [h.length]
  exact (h.drop _).take _
/-- what a step picks -/
def picks (xs : Array Value) (a st : Int) (n : Nat) : Array Value := ((List.range n).filterMap fun (k : Nat) => xs[(a + (k : Int) * st).toNat]?).toArray
theorem applied_ {prog : Program} {w : World} {A : Around} {E : Value → Shared → Prop} {s : Shared} {sl : Addr} {vl vu vs : Value} {lo hi st : Option Int} {n : Nat} {Q : Int × Int × Nat → Shared → Prop} (hs : s.heap.IsSliceOf sl vl vu vs) (p1 : IsPart vl lo) (p2 : IsPart vu hi) (p3 : IsPart vs st) (h0 : (st.getD 1 == 0) = false)
    (h : Q ((Builtin.Slice.sliceAdjust lo hi (st.getD 1) (n : Int)).1, st.getD 1, Builtin.Slice.slicePlaces (Builtin.Slice.sliceAdjust lo hi (st.getD 1) (n : Int)).1 (Builtin.Slice.sliceAdjust lo hi (st.getD 1) (n : Int)).2 (st.getD 1)) s) :
    wpAny (model prog w) A (Builtin.Slice.sliceApplied (.ref sl) (pure (n : Int))) Q E s := by
  obtain ⟨ob, e1, _, e3⟩ := hs
  unfold Builtin.Slice.sliceApplied Builtin.Slice.sliceFields
  refine wpAny_bind (wpAny_bind (wpAny_field e1 e3 (x := vl) rfl ?_))
  refine wpAny_bind (wpAny_field e1 e3 (x := vu) rfl ?_)
  refine wpAny_bind (wpAny_field e1 e3 (x := vs) rfl (wpAny_pure ?_))
  refine wpAny_bind (HT.slicePart_ p3 ?_)
  show wpAny _ _ (if (st.getD 1 == 0) = true then _ else _) _ _ s
  rw [if_neg (by rw [h0]; exact Bool.false_ne_true)]
  exact wpAny_bind (HT.slicePart_ p1 (wpAny_bind (HT.slicePart_ p2 (wpAny_bind (wpAny_pure (wpAny_pure h))))))
theorem tupItem {prog : Program} {w : World} {A : Around} {E : Value → Shared → Prop} {s : Shared} {t sl : Addr} {items : Array Value} {vl vu vs : Value} {lo hi st : Option Int} {a b step : Int} {n : Nat} {Q : Value → Shared → Prop} (ht : IsTup s.heap t items) (hs : s.heap.IsSliceOf sl vl vu vs)
    (p1 : IsPart vl lo) (p2 : IsPart vu hi) (p3 : IsPart vs st) (h0 : (st.getD 1 == 0) = false) (e1 : Builtin.Slice.sliceAdjust lo hi (st.getD 1) (items.size : Int) = (a, b)) (e2 : st.getD 1 = step) (e3 : Builtin.Slice.slicePlaces a b step = n) (hz : (picks items a step n).size ≤ sizeLine)
    (hw : (a == 0 && step == 1 && n == items.size) = true → Q (.ref t) s) (hn : (a == 0 && step == 1 && n == items.size) = false → Q (.ref s.heap.objs.size) { s with heap := s.heap.push { cls := .type "tuple", data := .seq (picks items a step n) } }) :
    wpAny (model prog w) A (getItem (.ref t) (.ref sl)) Q E s := by
  have tS : s.TypeIs (.ref sl) "slice" := let ⟨ob, x1, x2, _⟩ := hs; ⟨ob, x1, x2⟩
  have tT := ht.typeIs
  have ap : ∀ {A : Around} {E : Value → Shared → Prop} {R : Int × Int × Nat → Shared → Prop}, R (a, step, n) s → wpAny (model prog w) A (Builtin.Slice.sliceApplied (.ref sl) (pure (items.size : Int))) R E s := fun {A E R} h => by
    refine applied_ hs p1 p2 p3 h0 ?_
    rw [e1, e2]
    show R (a, step, Builtin.Slice.slicePlaces a b step) s
    rw [e3]
    exact h
  unfold getItem
  try with_reducible refine wpAny_holding ?_
  first | refine wpAny_bind (wpAny_pure ?_) | skip
  refine wpAny_bind (wpAny_sequenceKey tT (by decide) (wpAny_bind (wpAny_callSpecial?_slot (name := Str.ofString "__getitem__") tT PyProof.Rows.slot_tuple_getitem ?_)))
  refine wpAny_call_entry PyProof.Rows.slot_tuple_getitem tT entry_tuple_getitem ?_ (args_tuple_getitem _ _)
  show wpAny _ _ (Builtin.Tuple.tupleItemsOf (.ref t) >>= _) _ _ s
  refine wpAny_bind (tupleItemsOf_ ht (wpAny_bind (wpAny_typeOf tS ?_)))
  rw [if_pos (by decide)]
  refine wpAny_bind (ap ?_)
  show wpAny _ _ (if (a == 0 && step == 1 && n == items.size) = true then _ else _) _ _ s
  cases hb : (a == 0 && step == 1 && n == items.size) with
  | false =>
    rw [if_neg Bool.false_ne_true]
    have q := hn hb
    first
      | exact wpAny_bind (m := Builtin.Tuple.tupleExact _) (wpAny_newObj_type (wpAny_pure ⟨_, rfl, wpAny_pure q⟩) hz)
      | exact wpAny_bind (m := Builtin.Tuple.tupleExact _) (wpAny_newObj_type (wpAny_bind (wpAny_pure (wpAny_pure ⟨_, rfl, wpAny_pure q⟩))) hz)
      | exact wpAny_bind (wpAny_bind (m := Builtin.Tuple.tupleExact _) (wpAny_newObj_type (wpAny_pure (wpAny_pure ⟨_, rfl, wpAny_pure q⟩)) hz))
      | exact wpAny_bind (wpAny_bind (m := Builtin.Tuple.tupleExact _) (wpAny_newObj_type (wpAny_pure ⟨_, rfl, wpAny_pure q⟩) hz))
  | true =>
    rw [if_pos rfl]
    have q := hw hb
    unfold Builtin.Tuple.tupleIsExact
    refine wpAny_bind (wpAny_bind (wpAny_typeOf tT (wpAny_pure ?_)))
    rw [if_pos (by decide)]
    exact wpAny_bind (wpAny_rule (wpAny_pure ⟨_, rfl, wpAny_pure q⟩))
theorem picks_run (xs : Array Value) (i k : Nat) : picks xs (i : Int) 1 k = ((xs.toList.drop i).take k).toArray := HT.pick_gen xs i k
theorem View.tupRep {K : PySem.W.Frag} {F H : Hp} {xs : List D} {v : V} (h : View K adr F H (.tup xs) v) : Rep K adr F (.tup xs) v := by
  rcases h with h | ⟨o, a, e, _⟩
  · exact h
  · cases o <;> cases e
theorem slcR : SlR X (fun x lo hi H Q => ∃ F d r, Same F H ∧ View X.K adr F H d x ∧ slcD d lo hi = some r ∧ Fin X.K adr F H r Q) := by
  intro pins s σ H x v vl vu lo hi sl Q
  intro I rx p1 p2 p3 h
  obtain ⟨F, d, r, sf, h1, e, q⟩ := h
  cases d <;> try (cases e; done)
  · cases e
    rename_i xs
    have rep := h1.tupRep
    obtain ⟨a, vs, rfl, m, r1⟩ := h1.tup sf
    cases rx
    obtain ⟨its, rr, ht, hz⟩ := I.tuple m
    have hlen : its.toArray.size = vs.length := by rw [List.size_toArray]; exact rr.length.symm
    have hxl : xs.length = vs.length := r1.length.symm
    have hcut : (cutV vs lo hi).length ≤ sizeLine := Nat.le_trans (cutV_length vs lo hi) hz
    refine ⟨"tuple", _, PyProof.Rows.slot_tuple_getitem.lookup, ht.typeIs, ?_⟩
    refine tupItem (step := 1) ht p1 p2 p3 .none rfl (HT.adjust_gen lo hi _) rfl (HT.places_gen _ _) ?_ (fun hb => ?_) (fun hb => ?_)
    · rw [picks_run, List.size_toArray, List.length_take, List.length_drop, Array.length_toList, hlen]
      omega
    · rw [Bool.and_eq_true, Bool.and_eq_true] at hb
      have q1 : ((HT.sIx its.toArray.size 0 lo : Nat) : Int) = 0 := eq_of_beq hb.1.1
      have q2 : HT.sIx its.toArray.size its.toArray.size hi - HT.sIx its.toArray.size 0 lo = its.toArray.size := eq_of_beq hb.2
      rw [hlen, ← hxl] at q1 q2
      have e1 : cutD xs lo hi = xs := by
        have q3 : HT.sIx xs.length 0 lo = 0 := by omega
        unfold cutD
        rw [q2, q3, List.drop_zero]
        exact List.take_length
      rw [e1] at q
      exact ⟨.ref a, H, I, rfl, q _ _ _ (New.val sf rep)⟩
    · rw [picks_run, hlen]
      have rc : RepL X.K adr F (cutD xs lo hi) (cutV vs lo hi) := cut_rep lo hi r1
      have hp := I.hok.fresh (Nat.le_refl _)
      refine ⟨.ref s.heap.objs.size, _, I.laid (t' := s.toks) (o := .tup (cutV vs lo hi)) (fun b ob z => Heap.get?_push_of_some _ z) (Nat.le_refl _) ?_, rfl, q _ _ _ (New.tup sf hp rc)⟩
      exact ⟨hcut, _, (rr.drop _).take _, IsTup.new _ _⟩
  all_goals refine sl_list pins s σ H x v vl vu lo hi sl Q I rx p1 p2 p3 ?_
  · cases e
    obtain ⟨a, vs, rfl, m, r1⟩ := h1.lst sf
    exact ⟨a, vs, rfl, .of m, pushL q sf (cut_rep lo hi r1)⟩
  · cases e
    rename_i ns
    obtain ⟨a, rfl, m⟩ := h1.scr sf
    refine ⟨a, _, rfl, m, pushL q sf ?_⟩
    have : cutV (ns.map V.int) lo hi = (cutD ns lo hi).map V.int := by
      unfold cutD cutV
      rw [List.length_map, List.map_take, List.map_drop]
    rw [this]
    exact RepL.ints _
theorem revSlc (n : Nat) : Builtin.Slice.sliceAdjust none none (-1) (n : Int) = ((n : Int) - 1, -1) := rfl
theorem revCnt (n : Nat) : Builtin.Slice.slicePlaces ((n : Int) - 1) (-1) (-1) = n := by
  unfold Builtin.Slice.slicePlaces
  simp
  split <;> omega
theorem picks_rev (xs : Array Value) : picks xs ((xs.size : Int) - 1) (-1) xs.size = xs.toList.reverse.toArray := by
  obtain ⟨l⟩ := xs
  have h : ∀ m, m ≤ l.length → (List.range m).filterMap (fun (k : Nat) => l.toArray[(((l.length : Int) - 1) + (k : Int) * (-1)).toNat]?) = l.reverse.take m := by
    intro m hm
    induction m with
    | zero => simp
    | succ m ih =>
      rw [List.range_succ, List.filterMap_append, ih (by omega), List.take_succ]
      congr 1
      have e : (((l.length : Int) - 1) + (m : Int) * (-1)).toNat = l.length - 1 - m := by omega
      have e2 : l.toArray[l.length - 1 - m]? = l[l.length - 1 - m]? := by simp
      rw [List.getElem?_reverse (by omega), List.filterMap_cons, e, e2]
      cases hq : l[l.length - 1 - m]? <;> rfl
  have h2 := h l.length (Nat.le_refl _)
  unfold picks
  show (List.filterMap (fun (k : Nat) => l.toArray[(((l.length : Int) - 1) + (k : Int) * (-1)).toNat]?) (List.range l.length)).toArray = l.reverse.toArray
  rw [h2, List.take_of_length_le (by rw [List.length_reverse]; exact Nat.le_refl _)]
/-- e[::-1], a tuple or a list -/
def tRevA (K : PySem.W.Frag) (te : TE) : TE := fun σ H Q => te σ H fun x H1 => ∃ a xs, x = .ref a ∧ ((SqL K H1 a xs ∧ ∀ p, H1 p = none → Q (.ref p) (upd H1 p (.lst xs.reverse))) ∨ (SqT K H1 a xs ∧ ∀ p, H1 p = none → Q (.ref p) (upd H1 p (.tup xs.reverse))))
theorem pe_revA {e : Expr} {te : TE} {k : Nat} {p1 p2 p3 pos : Pos} (he : PE X e te) : PE X (.Subscript e (.Slice none none (some (.UnaryOp .USub (.Constant (.int 1) k p1) p2)) p3) pos) (tRevA X.K te) := by
  refine ⟨fun pins s σ H Q I h => Subscript_ (thn (he.run pins s σ H _ I h) fun v s1 ⟨x, H1, I1, r1, a, xs, ex, qq⟩ => ?_)⟩
  subst ex
  cases r1
  have pm : PO X (some (.UnaryOp .USub (.Constant (.int 1) k p1) p2)) (tPart (tUn (rU fun i => .int (-i)) (tC (.int 1)))) := po_some (pe_un un_neg pe_int)
  have stay : ∀ {s : Shared} {o : Option Expr} {t : TO} {r : Option Int} {σ : St} {H1 : Hp} {Q : Value → Shared → Prop}, PO X o t → Inv X pins σ H1 s → t σ H1 (fun z H2 => z = r ∧ H2 = H1) → (∀ u s', Inv X pins σ H1 s' → IsPart u r → Q u s') → wpAny (model X.prog X.w) X.A (evalPart o X.env) Q X.xe s := fun {s o t r σ H1 Q} po J ht k =>
    thn (po.run pins s σ H1 _ J ht) fun u s' ⟨z, H2, J2, pz, ez, e2⟩ => by subst ez e2; exact k u s' J2 pz
  refine wpAny_Slice (stay (r := none) po_none I1 ⟨rfl, rfl⟩ fun vl s2 I2 pl => stay (r := none) po_none I2 ⟨rfl, rfl⟩ fun vu s3 I3 pu => stay (r := some (-1)) pm I3 ⟨1, rfl, -1, rfl, rfl, rfl⟩ fun vs s4 I4 ps => ?_)
  have I5 : Inv X pins σ H1 { s4 with heap := s4.heap.push { cls := .type "slice", data := .fields #[vl, vu, vs] } } := I4.kept (t' := s4.toks) fun b ob q => Heap.get?_push_of_some _ q
  show wpAny (model X.prog X.w) X.A (subscriptTail e (.Slice none none (some (.UnaryOp .USub (.Constant (.int 1) k p1) p2)) p3) (.ref a) (.ref s4.heap.objs.size)) (EP X pins σ Q) X.xe { s4 with heap := s4.heap.push { cls := .type "slice", data := .fields #[vl, vu, vs] } }
  rcases qq with ⟨hx, q⟩ | ⟨hx, q⟩
  · obtain ⟨its, r, ht, hz⟩ := I5.list hx
    refine tail_any (ops := [.ref a, .ref s4.heap.objs.size]) ht.isList.typeIs (PySem.slot_list_getitem.lookup) ?_ (by with_unfolding_all rfl)
    refine wpAny_getItem_list_slice ht.isList (Heap.IsSliceOf.new _ vl vu vs) pl pu ps (by decide) ?_ (by rw [List.size_toArray]; have := r.length; omega)
    rw [PySem.W.krv_pick]
    refine ⟨.ref _, _, I5.laid (t' := s4.toks) (o := .lst xs.reverse) (fun b ob q => Heap.get?_push_of_some _ q) (Nat.le_refl _) ?_, rfl, q _ (I5.hok.fresh (Nat.le_refl _))⟩
    exact ⟨by rw [List.length_reverse]; exact hz, _, 0, r.reverse, Heap.get?_push_size _ rfl⟩
  · obtain ⟨its, r, ht, hz⟩ := I5.tuple hx
    have hlen := r.length
    refine tail_any (ops := [.ref a, .ref s4.heap.objs.size]) ht.typeIs (PyProof.Rows.slot_tuple_getitem.lookup) ?_ (by with_unfolding_all rfl)
    refine tupItem (step := -1) ht (Heap.IsSliceOf.new _ vl vu vs) pl pu ps rfl (revSlc _) rfl (revCnt _) ?_ (fun hb => ?_) (fun _ => ?_)
    · rw [picks_rev, List.size_toArray, List.length_reverse]
      show its.length ≤ sizeLine
      omega
    · rw [Bool.and_eq_true, Bool.and_eq_true] at hb
      exact absurd hb.1.2 (by decide)
    · rw [picks_rev]
      refine ⟨.ref _, _, I5.laid (t' := s4.toks) (o := .tup xs.reverse) (fun b ob q => Heap.get?_push_of_some _ q) (Nat.le_refl _) ?_, rfl, q _ (I5.hok.fresh (Nat.le_refl _))⟩
      exact ⟨by rw [List.length_reverse]; exact hz, _, r.reverse, IsTup.new _ _⟩
end
end Ky
end
section
set_option Elab.async false
set_option linter.all false
set_option maxRecDepth 100000
set_option maxHeartbeats 1000000
/-! Ky, part G: lending objects to a call, and getting them back. -/
namespace Ky
open PySem PySem.Spec PyProof.Rows L2
abbrev PN0 : Addr → Addr → Option Addr → Prop := fun _ _ _ => False
theorem fm_inj {α β : Type} {f : α → Option β} : ∀ {l : List α} {i j : Nat} {x y : α} {a : β}, (l.filterMap f).Nodup → l[i]? = some x → l[j]? = some y → f x = some a → f y = some a → i = j
  | [], i, j, x, y, a, _, h, _, _, _ => by simp at h
  | z :: l, i, j, x, y, a, nd, h1, h2, e1, e2 => by
    have tail : ∀ {k : Nat} {w : α}, l[k]? = some w → f w = some a → a ∈ l.filterMap f := fun {k w} q e => List.mem_filterMap.mpr ⟨w, List.mem_of_getElem? q, e⟩
    rw [List.filterMap_cons] at nd
    cases i with
    | zero =>
      cases j with
      | zero => rfl
      | succ j =>
        simp at h1 h2
        subst h1
        rw [e1] at nd
        exact absurd (tail h2 e2) (List.nodup_cons.mp nd).1
    | succ i =>
      cases j with
      | zero =>
        simp at h1 h2
        subst h2
        rw [e2] at nd
        exact absurd (tail h1 e1) (List.nodup_cons.mp nd).1
      | succ j =>
        simp at h1 h2
        have nd' : (l.filterMap f).Nodup := by
          split at nd
          · exact nd
          · exact (List.nodup_cons.mp nd).2
        rw [fm_inj nd' h1 h2 e1 e2]
theorem ndN_iff : ∀ {l : List Nat}, ndN l = true → l.Nodup
  | [], _ => .nil
  | i :: l, h => by
    unfold ndN at h
    rw [Bool.and_eq_true] at h
    refine List.nodup_cons.mpr ⟨fun z => ?_, ndN_iff h.2⟩
    have := List.contains_iff_mem.mpr z
    rw [this] at h
    exact absurd h.1 (by decide)
theorem lends_get : ∀ {rs : List R} {env : Env} {ss : List S} {i : Nat} {s : S}, lends rs env = some ss → ss[i]? = some s → ∃ r, rs[i]? = some r ∧ lend r env = some s
  | [], env, ss, i, s, h, e => by cases h; simp at e
  | r :: rs, env, ss, i, s, h, e => by
    unfold lends at h
    cases q1 : lend r env with
    | none => rw [q1] at h; cases h
    | some s1 =>
      cases q2 : lends rs env with
      | none => rw [q1, q2] at h; cases h
      | some ss1 =>
        rw [q1, q2] at h; cases h
        cases i with
        | zero => simp at e; subst e; exact ⟨r, rfl, q1⟩
        | succ i => simp at e; obtain ⟨r', h1, h2⟩ := lends_get q2 e; exact ⟨r', by simpa using h1, h2⟩
theorem lends_len : ∀ {rs : List R} {env : Env} {ss : List S}, lends rs env = some ss → ss.length = rs.length
  | [], env, ss, h => by cases h; rfl
  | r :: rs, env, ss, h => by
    unfold lends at h
    cases q1 : lend r env with
    | none => rw [q1] at h; cases h
    | some s1 =>
      cases q2 : lends rs env with
      | none => rw [q1, q2] at h; cases h
      | some ss1 => rw [q1, q2] at h; cases h; simp [lends_len q2]
theorem back_get : ∀ {rs : List R} {as env : Env} {i : Nat}, (rs.filterMap slOf).Nodup →
    (∀ (j : Nat) (o : O) (s : S), rs[j]? = some (R.sl i) → as[j]? = some (some (S.bor o)) → env[i]? = some (some s) → (back rs as env)[i]? = some (some (kindS s o))) ∧
    ((∀ (j : Nat) (o : O), rs[j]? = some (R.sl i) → as[j]? ≠ some (some (S.bor o))) → (back rs as env)[i]? = env[i]?)
  | [], as, env, i, _ => ⟨fun j o s h _ _ => by simp at h, fun _ => by cases as <;> rfl⟩
  | r :: rs, [], env, i, _ => ⟨fun j o s _ h _ => by simp at h, fun _ => by cases r <;> rfl⟩
  | r :: rs, a :: as, env, i, nd => by
    have nd' : (rs.filterMap slOf).Nodup := by
      rw [List.filterMap_cons] at nd
      split at nd
      · exact nd
      · exact (List.nodup_cons.mp nd).2
    have step : (∃ (k : Nat) (o : O), r = .sl k ∧ a = some (.bor o) ∧ back (r :: rs) (a :: as) env = back rs as (setK k o env)) ∨ ((∀ (k : Nat) (o : O), r = .sl k → a ≠ some (.bor o)) ∧ back (r :: rs) (a :: as) env = back rs as env) := by
      cases r with
      | sl k =>
        cases a with
        | none => exact .inr ⟨fun _ _ _ z => (by cases z), rfl⟩
        | some s =>
          cases s with
          | bor o => exact .inl ⟨k, o, rfl, rfl, rfl⟩
          | _ => exact .inr ⟨fun _ _ _ z => (by cases z), rfl⟩
      | v d => exact .inr ⟨fun _ _ z => (by cases z), by cases a <;> rfl⟩
      | own o => exact .inr ⟨fun _ _ z => (by cases z), by cases a <;> rfl⟩
    rcases step with ⟨k, o, rfl, rfl, e⟩ | ⟨no, e⟩
    · have notin : ∀ (j : Nat), rs[j]? ≠ some (R.sl k) := fun j q => by
        rw [List.filterMap_cons, show slOf (.sl k) = some k from rfl] at nd
        exact (List.nodup_cons.mp nd).1 (List.mem_filterMap.mpr ⟨_, List.mem_of_getElem? q, rfl⟩)
      have setk : ∀ i, i ≠ k → (setK k o env)[i]? = env[i]? := fun i hi => by
        unfold setK
        split
        · rw [List.getElem?_set_ne (Ne.symm hi)]
        · rfl
      obtain ⟨ih1, ih2⟩ := back_get (as := as) (env := setK k o env) (i := i) nd'
      rw [e]
      refine ⟨fun j o' s h1 h2 h3 => ?_, fun h => ?_⟩
      · cases j with
        | zero =>
          simp at h1 h2
          subst h1 h2
          rw [ih2 fun j o z => absurd z (notin j)]
          unfold setK
          rw [h3]
          exact List.getElem?_set_self (List.getElem?_eq_some_iff.mp h3).1
        | succ j =>
          simp at h1 h2
          have hi : i ≠ k := fun z => by subst z; exact notin j h1
          exact ih1 j o' s h1 h2 (by rw [setk i hi]; exact h3)
      · have hi : i ≠ k := fun z => by subst z; exact h 0 o rfl rfl
        rw [ih2 fun j o' z => by have := h (j + 1) o' (by simpa using z); simpa using this]
        exact setk i hi
    · obtain ⟨ih1, ih2⟩ := back_get (as := as) (env := env) (i := i) nd'
      rw [e]
      refine ⟨fun j o' s h1 h2 h3 => ?_, fun h => ih2 fun j o' z => by have := h (j + 1) o' (by simpa using z); simpa using this⟩
      cases j with
      | zero => simp at h1 h2; exact absurd h2 (no i o' h1)
      | succ j => simp at h1 h2; exact ih1 j o' s h1 h2 h3
theorem lose_get : ∀ {rs : List R} {ss : List S} {env : Env} {i : Nat} {s : S}, (lose rs ss env)[i]? = some (some s) → env[i]? = some (some s) ∧ ∀ (j : Nat) (o : O), rs[j]? = some (R.sl i) → ss[j]? ≠ some (S.bor o)
  | [], ss, env, i, s, h => ⟨by cases ss <;> exact h, fun j o z => by simp at z⟩
  | r :: rs, [], env, i, s, h => ⟨by cases r <;> exact h, fun j o _ z => by simp at z⟩
  | r :: rs, a :: ss, env, i, s, h => by
    have step : (∃ k o, r = .sl k ∧ a = .bor o ∧ lose (r :: rs) (a :: ss) env = lose rs ss (env.set k none)) ∨ ((∀ k o, r = .sl k → a ≠ .bor o) ∧ lose (r :: rs) (a :: ss) env = lose rs ss env) := by
      cases r with
      | sl k =>
        cases a with
        | bor o => exact .inl ⟨k, o, rfl, rfl, rfl⟩
        | _ => exact .inr ⟨fun _ _ _ z => (by cases z), rfl⟩
      | _ => exact .inr ⟨fun _ _ z => (by cases z), rfl⟩
    rcases step with ⟨k, o, rfl, rfl, e⟩ | ⟨no, e⟩
    · rw [e] at h
      obtain ⟨h1, h2⟩ := lose_get h
      by_cases hk : i = k
      · subst hk
        by_cases hl : i < env.length
        · rw [List.getElem?_set_self hl] at h1; cases h1
        · rw [List.getElem?_eq_none (by simpa using hl)] at h1; cases h1
      · rw [List.getElem?_set_ne (Ne.symm hk)] at h1
        refine ⟨h1, fun j o' q z => ?_⟩
        cases j with
        | zero => simp at q; exact hk q.symm
        | succ j => exact h2 j o' (by simpa using q) (by simpa using z)
    · rw [e] at h
      obtain ⟨h1, h2⟩ := lose_get h
      refine ⟨h1, fun j o' q z => ?_⟩
      cases j with
      | zero => simp at q z; exact no i o' q z
      | succ j => exact h2 j o' (by simpa using q) (by simpa using z)
theorem argsE_bor : ∀ {ss : List S} {os : List O} {j : Nat} {s : S}, (argsE ss os)[j]? = some (some s) → ∃ o o', s = .bor o ∧ ss[j]? = some (.bor o')
  | [], os, j, s, h => by simp [argsE] at h
  | a :: ss, os, j, s, h => by
    have step : (∃ o' o r, a = .bor o' ∧ os = o :: r ∧ argsE (a :: ss) os = some (.bor o) :: argsE ss r) ∨ argsE (a :: ss) os = none :: argsE ss os := by
      cases a with
      | bor o' =>
        cases os with
        | nil => exact .inr rfl
        | cons o r => exact .inl ⟨o', o, r, rfl, rfl, rfl⟩
      | _ => exact .inr rfl
    rcases step with ⟨o', o, r, rfl, rfl, e⟩ | e
    · rw [e] at h
      cases j with
      | zero => simp at h; subst h; exact ⟨o, o', rfl, rfl⟩
      | succ j => simp at h; obtain ⟨p, p', h1, h2⟩ := argsE_bor h; exact ⟨p, p', h1, by simpa using h2⟩
    · rw [e] at h
      cases j with
      | zero => simp at h
      | succ j => simp at h; obtain ⟨p, p', h1, h2⟩ := argsE_bor h; exact ⟨p, p', h1, by simpa using h2⟩
theorem argsE_all : ∀ {ss : List S} {os : List O} {j : Nat} {o' : O}, os.length = borN ss → ss[j]? = some (.bor o') → ∃ o, (argsE ss os)[j]? = some (some (.bor o))
  | [], os, j, o', _, h => by simp at h
  | a :: ss, os, j, o', l, h => by
    have step : (∃ q o r, a = .bor q ∧ os = o :: r ∧ argsE (a :: ss) os = some (.bor o) :: argsE ss r ∧ r.length = borN ss) ∨ ((∀ q, a ≠ .bor q) ∧ argsE (a :: ss) os = none :: argsE ss os ∧ os.length = borN ss) := by
      cases a with
      | bor q =>
        cases os with
        | nil => simp [borN] at l
        | cons o r => exact .inl ⟨q, o, r, rfl, rfl, rfl, by simpa [borN] using l⟩
      | _ => exact .inr ⟨fun _ z => (by cases z), rfl, l⟩
    rcases step with ⟨q, o, r, rfl, rfl, e, l'⟩ | ⟨no, e, l'⟩
    · rw [e]
      cases j with
      | zero => exact ⟨o, rfl⟩
      | succ j => simp at h; obtain ⟨p, hp⟩ := argsE_all l' h; exact ⟨p, by simpa using hp⟩
    · rw [e]
      cases j with
      | zero => simp at h; exact absurd h (no o')
      | succ j => simp at h; obtain ⟨p, hp⟩ := argsE_all l' h; exact ⟨p, by simpa using hp⟩
end Ky
end
section
set_option Elab.async false
set_option linter.all false
set_option maxRecDepth 100000
set_option maxHeartbeats 1000000
/-! Ky, part H: the state within a call, and behind it. -/
namespace Ky
open PySem PySem.Spec PyProof.Rows L2
/-- the places of the objects that are handed in -/
def paF (p : S × V) : Option Addr := match p.1.isO, p.2 with
  | true, .ref a => some a
  | _, _ => none
/-- what the callee may not touch -/
def prB (H F : Hp) (pa : List Addr) : Hp := fun a => if (F a).isSome || pa.contains a then none else H a
section
variable {K : PySem.W.Frag} {adr : Str → Addr} {PN : Addr → Addr → Option Addr → Prop} {B F H F' H' : Hp} {env : Env} {σ : St} {ts : List (R × V)} {rs : List R} {vs : List V} {ss : List S}
theorem prB_some {pa : List Addr} {a : Addr} {u : HO} (h : prB H F pa a = some u) : H a = some u ∧ F a = none ∧ a ∉ pa := by
  unfold prB at h
  split at h
  · cases h
  · rename_i z
    rw [Bool.or_eq_true, not_or] at z
    refine ⟨h, ?_, fun m => z.2 (List.contains_iff_mem.mpr m)⟩
    cases q : F a with
    | none => rfl
    | some w => rw [q] at z; exact absurd rfl z.1
theorem prB_of {pa : List Addr} {a : Addr} {u : HO} (h : H a = some u) (hF : F a = none) (n : a ∉ pa) : prB H F pa a = some u := by
  unfold prB
  rw [if_neg]
  · exact h
  · rw [Bool.or_eq_true, not_or]
    exact ⟨by rw [hF]; exact fun z => Bool.noConfusion z, fun z => n (List.contains_iff_mem.mp z)⟩
theorem prB_none {pa : List Addr} {a : Addr} (n : a ∈ pa) : prB H F pa a = none := by
  unfold prB
  rw [if_pos]
  rw [Bool.or_eq_true]
  exact .inr (List.contains_iff_mem.mpr n)
/-- what is known of the i-th argument -/
structure Arg (env : Env) (σ : St) (r : R) (s : S) (v : V) : Prop where
  lend : lend r env = some s
theorem arg_at (hl : rs.length = vs.length) (l : lends rs env = some ss) {i : Nat} {s : S} (e : ss[i]? = some s) : ∃ r v, rs[i]? = some r ∧ vs[i]? = some v ∧ (rs.zip vs)[i]? = some (r, v) ∧ lend r env = some s := by
  obtain ⟨r, h1, h2⟩ := lends_get l e
  have hi : i < vs.length := by rw [← hl]; exact (List.getElem?_eq_some_iff.mp h1).1
  refine ⟨r, vs[i], h1, List.getElem?_eq_getElem hi, ?_, h2⟩
  rw [List.getElem?_zip_eq_some]
  exact ⟨h1, List.getElem?_eq_getElem hi⟩
theorem lend_cases {r : R} {s : S} (e : lend r env = some s) : (∃ d, r = .v d ∧ s = .v d) ∨ (∃ o, r = .own o ∧ s = .own o) ∨ ∃ k s0, r = .sl k ∧ env[k]? = some (some s0) ∧
    ((∃ o, (s0 = .own o ∨ s0 = .bor o) ∧ s = .bor o) ∨ (∃ o, (s0 = .lk o ∨ s0 = .ro o) ∧ s = .ro o) ∨ ∃ d, s0 = .v d ∧ s = .v d) := by
  cases r with
  | v d => cases e; exact .inl ⟨d, rfl, rfl⟩
  | own o => cases e; exact .inr (.inl ⟨o, rfl, rfl⟩)
  | sl k =>
    have e : (match env[k]? with
      | some (some (.own o)) => some (.bor o)
      | some (some (.bor o)) => some (.bor o)
      | some (some (.lk o)) => some (.ro o)
      | some (some (.ro o)) => some (.ro o)
      | some (some (.v d)) => some (S.v d)
      | _ => none) = some s := e
    refine .inr (.inr ?_)
    cases q : env[k]? with
    | none => rw [q] at e; cases e
    | some x =>
      cases x with
      | none => rw [q] at e; cases e
      | some s0 =>
        rw [q] at e
        refine ⟨k, s0, rfl, q, ?_⟩
        cases s0 with
        | own o => cases e; exact .inl ⟨o, .inl rfl, rfl⟩
        | bor o => cases e; exact .inl ⟨o, .inr rfl, rfl⟩
        | lk o => cases e; exact .inr (.inl ⟨o, .inl rfl, rfl⟩)
        | ro o => cases e; exact .inr (.inl ⟨o, .inr rfl, rfl⟩)
        | v d => cases e; exact .inr (.inr ⟨d, rfl, rfl⟩)
        | x c fs => cases e
/-- an own temporary's place is its own -/
theorem temp_ne (h : StT K adr PN B F env σ H ts) {i j : Nat} {o o' : O} {a : Addr} (e1 : ts[i]? = some (R.own o, V.ref a)) (e2 : ts[j]? = some (R.own o', V.ref a)) : i = j :=
  fm_inj h.d3 e1 e2 rfl rfl
theorem pa_cases (hs : StT K adr PN B F env σ H (rs.zip vs ++ ts)) (hl : rs.length = vs.length) (l : lends rs env = some ss) {a : Addr} (m : a ∈ (ss.zip vs).filterMap paF) :
    ∃ i : Nat, vs[i]? = some (V.ref a) ∧ ((∃ o, (rs.zip vs)[i]? = some (R.own o, V.ref a) ∧ ss[i]? = some (S.own o)) ∨ ∃ (k : Nat) (s0 : S) (o : O), rs[i]? = some (R.sl k) ∧ env[k]? = some (some s0) ∧ (s0 = .own o ∨ s0 = .bor o) ∧ σ[k]? = some (some (V.ref a)) ∧ ss[i]? = some (S.bor o)) := by
  obtain ⟨⟨s, v⟩, hm, e⟩ := List.mem_filterMap.mp m
  obtain ⟨i, hi⟩ := List.getElem?_of_mem hm
  rw [List.getElem?_zip_eq_some] at hi
  obtain ⟨h1, h2⟩ := hi
  obtain ⟨r, v', g1, g2, g3, g4⟩ := arg_at hl l h1
  have h2 : vs[i]? = some v := h2
  rw [h2] at g2; cases g2
  have iso : s.isO = true ∧ v = .ref a := by
    cases q1 : s.isO with
    | false => simp only [paF, q1] at e; cases e
    | true =>
      cases v with
      | ref b => simp only [paF, q1] at e; cases e; exact ⟨rfl, rfl⟩
      | _ => simp only [paF, q1] at e; cases e
  obtain ⟨q1, rfl⟩ := iso
  refine ⟨i, h2, ?_⟩
  have ht := hs.tm _ (List.mem_append_left _ (List.mem_of_getElem? g3))
  rcases lend_cases g4 with ⟨d, rfl, rfl⟩ | ⟨o, rfl, rfl⟩ | ⟨k, s0, rfl, q2, ⟨o, q3, rfl⟩ | ⟨o, q3, rfl⟩ | ⟨d, q3, rfl⟩⟩
  · cases q1
  · exact .inl ⟨o, g3, h1⟩
  · exact .inr ⟨k, s0, o, g1, q2, q3, ht.1, h1⟩
  · cases q1
  · cases q1
theorem obs_of (hs : StT K adr PN B F env σ H ts) {k : Nat} {s0 : S} {o : O} {a : Addr} (q : env[k]? = some (some s0)) (z : s0 = .own o ∨ s0 = .bor o) (e : σ[k]? = some (some (V.ref a))) : ObS env σ k a :=
  ⟨⟨s0, q, by rcases z with rfl | rfl <;> rfl⟩, e⟩
theorem obj_of (hs : StT K adr PN B F env σ H ts) {k : Nat} {s0 : S} {o : O} {a : Addr} (q : env[k]? = some (some s0)) (z : s0 = .own o ∨ s0 = .bor o) (e : σ[k]? = some (some (V.ref a))) : B a = none ∧ F a = none ∧ OAt K adr F H o a := by
  obtain ⟨v, h1, h2⟩ := hs.sl k s0 q
  rw [e] at h1; cases h1
  rcases z with rfl | rfl
  · obtain ⟨b, e, h3, h4, h5⟩ := h2; cases e; exact ⟨h3, h4, h5⟩
  · obtain ⟨b, e, h3, h4, h5⟩ := h2; cases e; exact ⟨h3, h4, h5⟩
theorem slots_inj (nd : (rs.filterMap slOf).Nodup) {i j k : Nat} (h1 : rs[i]? = some (R.sl k)) (h2 : rs[j]? = some (R.sl k)) : i = j := fm_inj nd h1 h2 rfl rfl
/-- within the callee -/
theorem StT.lent (hs : StT K adr PN B F env σ H (rs.zip vs ++ ts)) (hl : rs.length = vs.length) (l : lends rs env = some ss) (nd : (rs.filterMap slOf).Nodup) :
    StT K adr PN0 (prB H F ((ss.zip vs).filterMap paF)) F (ss.map some) (vs.map some) H [] := by
  have inPa : ∀ {i : Nat} {s : S} {a : Addr}, ss[i]? = some s → s.isO = true → vs[i]? = some (V.ref a) → a ∈ (ss.zip vs).filterMap paF := fun {i s a} h1 h2 h3 => by
    refine List.mem_filterMap.mpr ⟨(s, .ref a), List.mem_of_getElem? (i := i) ?_, by unfold paF; simp only [h2]⟩
    rw [List.getElem?_zip_eq_some]
    exact ⟨h1, h3⟩
  have zAt : ∀ {i : Nat} {t : R × V}, (rs.zip vs)[i]? = some t → (rs.zip vs ++ ts)[i]? = some t := fun {i t} e => by
    rw [List.getElem?_append_left (List.getElem?_eq_some_iff.mp e).1]; exact e
  refine ⟨fun b u q => (prB_some q).1, hs.sf, fun b u q => (prB_some q).2.1, fun i s q => ?_, fun t ht => (by cases ht), fun i j a n q1 q2 => ?_, fun i a _ => (by simp), (by simp)⟩
  · rw [List.getElem?_map] at q
    cases q0 : ss[i]? with
    | none => rw [q0] at q; cases q
    | some s' =>
      rw [q0] at q; cases q
      obtain ⟨r, v, g1, g2, g3, g4⟩ := arg_at hl l q0
      refine ⟨v, by rw [List.getElem?_map, g2] <;> rfl, ?_⟩
      have ht := hs.tm _ (List.mem_append_left _ (List.mem_of_getElem? g3))
      rcases lend_cases g4 with ⟨d, rfl, rfl⟩ | ⟨o, rfl, rfl⟩ | ⟨k, s0, rfl, q2, ⟨o, q3, rfl⟩ | ⟨o, q3, rfl⟩ | ⟨d, q3, rfl⟩⟩
      · exact ht
      · obtain ⟨a, e, h1, h2, h3⟩ := ht
        have e : v = .ref a := e
        subst e
        exact ⟨a, rfl, prB_none (inPa q0 rfl g2), h2, h3⟩
      · obtain ⟨w, h1, h2⟩ := hs.sl k s0 q2
        have z : σ[k]? = some (some v) := ht.1
        rw [z] at h1; cases h1
        obtain ⟨o', a, e, h3, h4, h5, h6⟩ := h2.obj (by rcases q3 with rfl | rfl <;> rfl)
        subst e
        obtain ⟨_, _, h7⟩ := obj_of hs q2 q3 z
        exact ⟨a, rfl, prB_none (inPa q0 rfl g2), h4, h7⟩
      · obtain ⟨w, h1, h2⟩ := hs.sl k s0 q2
        have z : σ[k]? = some (some v) := ht.1
        rw [z] at h1; cases h1
        rcases q3 with rfl | rfl
        · obtain ⟨a, e, h3, h4, h5⟩ := h2
          subst e
          obtain ⟨u, hu⟩ := h5.some'
          refine ⟨a, u, rfl, prB_of hu h4 fun m => ?_, h5⟩
          have me : ObS env σ k a := ⟨⟨_, q2, rfl⟩, z⟩
          obtain ⟨j, e1, ⟨o2, e2, _⟩ | ⟨k2, s2, o2, e2, e3, e4, e5, _⟩⟩ := pa_cases hs hl l m
          · exact hs.d2 k a me (List.mem_filterMap.mpr ⟨_, List.mem_append_left _ (List.mem_of_getElem? e2), rfl⟩)
          · by_cases hk : k = k2
            · subst hk; rw [q2] at e3; cases e3; rcases e4 with e4 | e4 <;> cases e4
            · exact hs.d1 k k2 a hk me (obs_of hs e3 e4 e5)
        · obtain ⟨a, u, e, h3, h5⟩ := h2
          subst e
          refine ⟨a, u, rfl, prB_of (hs.sb a u h3) (hs.dj a u h3) fun m => ?_, h5⟩
          obtain ⟨j, e1, ⟨o2, e2, _⟩ | ⟨k2, s2, o2, e2, e3, e4, e5, _⟩⟩ := pa_cases hs hl l m
          · obtain ⟨b, e6, e7, _⟩ := hs.tm _ (List.mem_append_left _ (List.mem_of_getElem? e2))
            cases e6; rw [h3] at e7; cases e7
          · obtain ⟨e7, _⟩ := obj_of hs e3 e4 e5
            rw [h3] at e7; cases e7
      · obtain ⟨w, h1, h2⟩ := hs.sl k s0 q2
        have z : σ[k]? = some (some v) := ht.1
        rw [z] at h1; cases h1
        subst q3
        exact h2
  · obtain ⟨⟨s1, a1, a2⟩, a3⟩ := q1
    obtain ⟨⟨s2, b1, b2⟩, b3⟩ := q2
    have un : ∀ {i : Nat} {s : S}, (ss.map some)[i]? = some (some s) → ss[i]? = some s := fun {i s} e => by
      rw [List.getElem?_map] at e
      cases q : ss[i]? with
      | none => rw [q] at e; cases e
      | some x => rw [q] at e; cases e; rfl
    have unv : ∀ {i : Nat} {v : V}, (vs.map some)[i]? = some (some v) → vs[i]? = some v := fun {i v} e => by
      rw [List.getElem?_map] at e
      cases q : vs[i]? with
      | none => rw [q] at e; cases e
      | some x => rw [q] at e; cases e; rfl
    have a1 := un a1; have b1 := un b1; have a3 := unv a3; have b3 := unv b3
    obtain ⟨r1, v1, g1, g2, g3, g4⟩ := arg_at hl l a1
    obtain ⟨r2, v2, f1, f2, f3, f4⟩ := arg_at hl l b1
    rw [a3] at g2; cases g2
    rw [b3] at f2; cases f2
    have t1 := hs.tm _ (List.mem_append_left _ (List.mem_of_getElem? g3))
    have t2 := hs.tm _ (List.mem_append_left _ (List.mem_of_getElem? f3))
    have tmem : ∀ {o : O} {i : Nat}, (rs.zip vs)[i]? = some (R.own o, V.ref a) → a ∈ (rs.zip vs ++ ts).filterMap tAdr := fun {o i} e => List.mem_filterMap.mpr ⟨_, List.mem_append_left _ (List.mem_of_getElem? e), rfl⟩
    rcases lend_cases g4 with ⟨d, rfl, rfl⟩ | ⟨o, rfl, rfl⟩ | ⟨k, s0, rfl, p2, ⟨o, p3, rfl⟩ | ⟨o, p3, rfl⟩ | ⟨d, p3, rfl⟩⟩
    · cases a2
    · rcases lend_cases f4 with ⟨d, rfl, rfl⟩ | ⟨o', rfl, rfl⟩ | ⟨k', s0', rfl, r2, ⟨o', r3, rfl⟩ | ⟨o', r3, rfl⟩ | ⟨d, r3, rfl⟩⟩
      · cases b2
      · exact n (temp_ne hs (zAt g3) (zAt f3))
      · exact hs.d2 k' a (obs_of hs r2 r3 t2.1) (tmem g3)
      · cases b2
      · cases b2
    · rcases lend_cases f4 with ⟨d, rfl, rfl⟩ | ⟨o', rfl, rfl⟩ | ⟨k', s0', rfl, r2, ⟨o', r3, rfl⟩ | ⟨o', r3, rfl⟩ | ⟨d, r3, rfl⟩⟩
      · cases b2
      · exact hs.d2 k a (obs_of hs p2 p3 t1.1) (tmem f3)
      · by_cases hk : k = k'
        · subst hk; exact n (slots_inj nd g1 f1)
        · exact hs.d1 k k' a hk (obs_of hs p2 p3 t1.1) (obs_of hs r2 r3 t2.1)
      · cases b2
      · cases b2
    · cases a2
    · cases a2
theorem slot_free (hs : StT K adr PN B F env σ H (rs.zip vs ++ ts)) (hl : rs.length = vs.length) (l : lends rs env = some ss) {i : Nat} {a : Addr} (me : ObS env σ i a) (no : ∀ (j : Nat) (o : O), rs[j]? = some (R.sl i) → ss[j]? ≠ some (S.bor o)) :
    a ∉ (ss.zip vs).filterMap paF := fun m => by
  obtain ⟨j, e1, ⟨o2, e2, _⟩ | ⟨k2, s2, o2, e2, e3, e4, e5, e6⟩⟩ := pa_cases hs hl l m
  · exact hs.d2 i a me (List.mem_filterMap.mpr ⟨_, List.mem_append_left _ (List.mem_of_getElem? e2), rfl⟩)
  · by_cases hk : i = k2
    · subst hk; exact no j o2 e2 e6
    · exact hs.d1 i k2 a hk me (obs_of hs e3 e4 e5)
theorem temp_free (hs : StT K adr PN B F env σ H (rs.zip vs ++ ts)) (hl : rs.length = vs.length) (l : lends rs env = some ss) {o : O} {a : Addr} (ht : (R.own o, V.ref a) ∈ ts) :
    a ∉ (ss.zip vs).filterMap paF := fun m => by
  obtain ⟨j, e1, ⟨o2, e2, _⟩ | ⟨k2, s2, o2, e2, e3, e4, e5, e6⟩⟩ := pa_cases hs hl l m
  · obtain ⟨i, hi⟩ := List.getElem?_of_mem ht
    have h1 : (rs.zip vs ++ ts)[(rs.zip vs).length + i]? = some (R.own o, V.ref a) := by rw [List.getElem?_append_right (Nat.le_add_right _ _)]; simpa using hi
    have h2 : (rs.zip vs ++ ts)[j]? = some (R.own o2, V.ref a) := by rw [List.getElem?_append_left (List.getElem?_eq_some_iff.mp e2).1]; exact e2
    have := temp_ne hs h1 h2
    have := (List.getElem?_eq_some_iff.mp e2).1
    omega
  · exact hs.d2 k2 a (obs_of hs e3 e4 e5) (List.mem_filterMap.mpr ⟨_, List.mem_append_right _ ht, rfl⟩)
theorem priv_free (hs : StT K adr PN B F env σ H (rs.zip vs ++ ts)) (hl : rs.length = vs.length) (l : lends rs env = some ss) {b : Addr} {u : HO} (q : B b = some u) :
    b ∉ (ss.zip vs).filterMap paF := fun m => by
  obtain ⟨j, e1, ⟨o2, e2, _⟩ | ⟨k2, s2, o2, e2, e3, e4, e5, e6⟩⟩ := pa_cases hs hl l m
  · obtain ⟨c, e6, e7, _⟩ := hs.tm _ (List.mem_append_left _ (List.mem_of_getElem? e2))
    cases e6; rw [q] at e7; cases e7
  · obtain ⟨e7, _⟩ := obj_of hs e3 e4 e5
    rw [q] at e7; cases e7
/-- behind the call: the state but for the lent objects -/
theorem StT.kept (hs : StT K adr PN B F env σ H (rs.zip vs ++ ts)) (hl : rs.length = vs.length) (l : lends rs env = some ss) (nd : (rs.filterMap slOf).Nodup)
    (sf : Same F F') (sb : Same (prB H F ((ss.zip vs).filterMap paF)) H') (sf' : Same F' H') (dj : ∀ a o, prB H F ((ss.zip vs).filterMap paF) a = some o → F' a = none)
    {env2 : Env} (old : ∀ (i : Nat) (s : S), env2[i]? = some (some s) → (∃ (j : Nat) (o o' : O), rs[j]? = some (R.sl i) ∧ ss[j]? = some (S.bor o) ∧ (s = .own o' ∨ s = .bor o') ∧ ∃ a, vs[j]? = some (V.ref a) ∧ B a = none ∧ F' a = none ∧ OAt K adr F' H' o' a) ∨
      (env[i]? = some (some s) ∧ ∀ (j : Nat) (o : O), rs[j]? = some (R.sl i) → ss[j]? ≠ some (S.bor o)))
    (hts : ∀ t ∈ ts, ∀ i, t.1 = .sl i → ∃ s, env2[i]? = some (some s)) : StT K adr PN B F' env2 σ H' ts := by
  -- an object that was not handed in stands
  have pub : ∀ {a : Addr} {u : HO}, H a = some u → F a = none → a ∉ (ss.zip vs).filterMap paF → H' a = some u ∧ F' a = none := fun {a u} h1 h2 h3 => ⟨sb a u (prB_of h1 h2 h3), dj a u (prB_of h1 h2 h3)⟩
  have slotFree : ∀ {i : Nat} {a : Addr}, ObS env σ i a → (∀ (j : Nat) (o : O), rs[j]? = some (R.sl i) → ss[j]? ≠ some (S.bor o)) → a ∉ (ss.zip vs).filterMap paF := fun {i a} me no => slot_free hs hl l me no
  have tempFree : ∀ {o : O} {a : Addr}, (R.own o, V.ref a) ∈ ts → a ∉ (ss.zip vs).filterMap paF := fun {o a} ht => temp_free hs hl l ht
  have isPa : ∀ {i j : Nat} {o : O}, rs[j]? = some (R.sl i) → ss[j]? = some (S.bor o) → ∃ (s0 : S) (o0 : O) (a : Addr), env[i]? = some (some s0) ∧ (s0 = .own o0 ∨ s0 = .bor o0) ∧ σ[i]? = some (some (V.ref a)) ∧ vs[j]? = some (V.ref a) := fun {i j o} e1 e2 => by
    obtain ⟨r, v, g1, g2, g3, g4⟩ := arg_at hl l e2
    rw [e1] at g1; cases g1
    have ht := hs.tm _ (List.mem_append_left _ (List.mem_of_getElem? g3))
    rcases lend_cases g4 with ⟨d, q, _⟩ | ⟨o, q, _⟩ | ⟨k, s0, q, p2, ⟨o', p3, _⟩ | ⟨o', p3, z⟩ | ⟨d, p3, z⟩⟩
    · cases q
    · cases q
    · cases q
      obtain ⟨w, h1, h2⟩ := hs.sl i s0 p2
      have z : σ[i]? = some (some v) := ht.1
      rw [z] at h1; cases h1
      obtain ⟨o2, a, e, _⟩ := h2.obj (by rcases p3 with rfl | rfl <;> rfl)
      subst e
      exact ⟨s0, o', a, p2, p3, z, g2⟩
    · cases z
    · cases z
  have obs2 : ∀ {i : Nat} {a : Addr}, ObS env2 σ i a → ObS env σ i a := fun {i a} ⟨⟨s, q1, q2⟩, q3⟩ => by
    rcases old i s q1 with ⟨j, o, o', e1, e2, _⟩ | ⟨e1, _⟩
    · obtain ⟨s0, o0, a', h1, h2, h3, _⟩ := isPa e1 e2
      exact ⟨⟨s0, h1, by rcases h2 with rfl | rfl <;> rfl⟩, q3⟩
    · exact ⟨⟨s, e1, q2⟩, q3⟩
  have Bh : ∀ b u, B b = some u → b ∉ (ss.zip vs).filterMap paF := fun b u q => priv_free hs hl l q
  refine ⟨fun b u q => (pub (hs.sb b u q) (hs.dj b u q) (Bh b u q)).1, sf', fun b u q => (pub (hs.sb b u q) (hs.dj b u q) (Bh b u q)).2, fun i s q => ?_, fun t ht => ?_, fun i j a n q1 q2 => hs.d1 i j a n (obs2 q1) (obs2 q2),
    fun i a q z => hs.d2 i a (obs2 q) ?_, ?_⟩
  · rcases old i s q with ⟨j, o, o', e1, e2, e3, a, e4, e5, e6, e7⟩ | ⟨e1, no⟩
    · obtain ⟨s0, o0, a', h1, h2, h3, h4⟩ := isPa e1 e2
      rw [e4] at h4; cases h4
      refine ⟨_, h3, ?_⟩
      rcases e3 with rfl | rfl
      · exact ⟨a, rfl, e5, e6, e7⟩
      · exact ⟨a, rfl, e5, e6, e7⟩
    · obtain ⟨v, h1, h2⟩ := hs.sl i s e1
      refine ⟨v, h1, h2.mono sf (fun _ z _ => z) (fun b u z => ⟨⟨u, z⟩, fun w y => (pub y (hs.dj b u z) (Bh b u z)).1⟩) (fun b e so nF => ?_) (fun b u e so z => ?_)⟩
      · subst e
        obtain ⟨o', a', h3, _, _, h4, _⟩ := h2.obj so
        cases h3
        obtain ⟨u, hu⟩ := h4.some'
        exact (pub hu nF (slotFree ⟨⟨s, e1, so⟩, h1⟩ no)).2
      · subst e
        obtain ⟨o', a', h3, _, h5, h4, _⟩ := h2.obj so
        cases h3
        exact (pub z h5 (slotFree ⟨⟨s, e1, so⟩, h1⟩ no)).1
  · obtain ⟨r, v⟩ := t
    have h1 := hs.tm _ (List.mem_append_right _ ht)
    cases r with
    | v d => exact Rep.mono sf _ _ h1
    | sl i => exact ⟨h1.1, hts _ ht i rfl⟩
    | own o =>
      obtain ⟨a, h2, h3, h4, h5⟩ := h1
      have h2 : v = .ref a := h2
      subst h2
      obtain ⟨u, hu⟩ := h5.some'
      have p := pub hu h4 (tempFree ht)
      refine ⟨a, rfl, h3, p.2, h5.mono sf fun w z => ?_⟩
      rw [hu] at z; cases z
      exact p.1
  · rw [List.filterMap_append]
    exact List.mem_append_right _ z
  · have := hs.d3
    rw [List.filterMap_append] at this
    exact (List.nodup_append.mp this).2.1
end
end Ky
end
section
set_option Elab.async false
set_option linter.all false
set_option maxRecDepth 100000
set_option maxHeartbeats 1000000
/-! Ky, part I: the program's facts, the context of a body, the readings of expressions; each construct's rule. -/
namespace Ky
open PySem PySem.Spec PyProof.Rows L2

/-- the defaults that fill up from the n-th parameter on -/
def fillD (f : Fn) (n : Nat) : List D := f.dfl.drop (f.dfl.length - (f.ps.length - n))
abbrev H0 : Hp := fun _ => none
/-- what a call comes to -/
def Ends' (K : PySem.W.Frag) (adr : Str → Addr) (cr : CR) (ss : List S) (vs : List V) (B F : Hp) (Q : VK) (E : XK) : Prop := match cr with
  | .ok r os => os.length = borN ss → ∀ v H' F', Same F F' → StT K adr PN0 B F' (argsE ss os) (vs.map some) H' [(r, v)] → Q v H'
  | .exc c fs => ∀ cls d H' F', Same F F' → StT K adr PN0 B F' [] (vs.map some) H' [] → excAt K adr F' c fs cls d → E cls d H'
  | .bad => False
/-- the deep promise of a def: what call gives of the arguments is what comes -/
def spC (K : PySem.W.Frag) (adr : Str → Addr) (call : Str → List S → CR) (q : Str) (f : Fn) : Sp := fun vs H Q E =>
  vs.length = f.ps.length ∧ ∃ (ss : List S) (vs1 dvs : List V) (B F : Hp), vs = vs1 ++ dvs ∧ ss.length = vs1.length ∧ RepL K adr H0 (fillD f ss.length) dvs ∧
    StT K adr PN0 B F (ss.map some) (vs1.map some) H [] ∧ Ends' K adr (call q ss) ss vs1 B F Q E
/-- a def's promise, in calm or within an except suite -/
structure FnQ (P : Program) (w : World) (K : PySem.W.Frag) (mg : Str → Option Value) (base : Heap) (hot : Bool) (k : Nat) (f : Addr) (fd : FuncData) (ps : List Str) (sp : Sp) : Prop where
  ok : hot = false → FnOk P w K mg base (L2N.CX P w) k f fd ps sp
  ho : hot = true → L2H.FnH P w K mg base (L2N.CX P w) k f fd ps sp
/-- how a call with keywords binds -/
def KwOk (K : PySem.W.Frag) (adr : Str → Addr) (f : Fn) (fd : FuncData) (n : Nat) (ks : List Str) (ar : List Nat) (ds : List D) : Prop := ∃ g gV dvs, KBn K fd f.ps n ks g gV ∧ RepL K adr H0 ds dvs ∧ ar.Nodup ∧ ar.length = f.ps.length ∧
  ∀ vs zs : List V, vs.length = n → zs.length = ks.length → ar.mapM (fun i => (vs ++ zs ++ dvs)[i]?) = some (gV vs zs)
structure Facts (P : Program) (w : World) (K : PySem.W.Frag) (mg : Str → Option Value) (base : Heap) (adr : Str → Addr) (G : GT) (fn : Str → Option Fn) (call : Str → List S → CR) (lv : Nat) : Prop where
  cl : ClFact K adr G
  fnk : ∀ q f, fn q = some f → ∃ fd, FnQ P w K mg base G.hot lv (adr q) fd f.ps (spC K adr call q f) ∧
    ∀ n, n ≤ f.ps.length → f.ps.length ≤ n + f.dfl.length → (∃ ds dvs, Binds K fd f.ps ds ∧ Vals dvs ds ∧ RepL K adr H0 (fillD f n) dvs)
  kw : ∀ e ∈ G.kws, ∃ f fd, fn e.1 = some f ∧ FnQ P w K mg base G.hot lv (adr e.1) fd f.ps (spC K adr call e.1 f) ∧ KwOk K adr f fd e.2.1 e.2.2.1 e.2.2.2.1 e.2.2.2.2
  glf : ∀ q ∈ G.gl, mg q = some (.ref (adr q)) ∧ PySem.W.keepIn K (.ref (adr q)) = true
  blf : ∀ x ∈ G.bl, mg x = none
  cst : ∀ x d, G.cst x = some d → ∃ v u, mg x = some u ∧ RelV v u ∧ Rep K adr H0 d v
  mkf : ∀ c ∈ G.cl, mg c = some (.ref (adr c)) ∧ Mk K (adr c) (adr (c ++ ".__init__"))
  meth : ∀ c m q, G.meth c m = some q → c ∈ G.cl ∧ Meth K (adr c) m (adr q)
  prop : ∀ c f q, G.prop c f = some q → c ∈ G.cl ∧ ∃ p, PropOf K (adr c) f p (adr q)
  ccon : ∀ c f d, G.ccon c f = some d → mg c = some (.ref (adr c)) ∧ ∃ mc v u, ClX.CRead K (adr c) mc ∧ ClX.CVal K (adr c) mc f v u ∧ Rep K adr H0 d v
  flds : ∀ c f, f ∈ G.flds c → c ∈ G.cl ∧ NoAttr K (adr c) f
  exk : ∀ c fs, G.exc c = some fs → XfC K (adr c) ∧ (∀ f ∈ fs, PySem.W.findIn K (.ref (adr c)) f = some none) ∧ (PySem.W.clsIn K (adr c)).isSome = true ∧ PySem.W.findIn K (.ref (adr c)) "__class__" = some (some (.builtin "object.__class__")) ∧
    PySem.W.specialIn K (.builtin "object.__class__") "__get__" = some (some (.builtin "getset_descriptor.__get__")) ∧ PySem.W.takesIn K (.builtin "object.__class__") = some true ∧ PySem.W.mroIn K (adr c) (.type "object") = some true
  exo : ∀ c fs c', G.exc c = some fs → c' ∈ G.xcl → PySem.W.kitOne K (.ref (adr c)) (.ref (adr c')) = some (G.sub c c')
  xcm : ∀ c ∈ G.xcl, mg c = some (.ref (adr c))
  exm : ∀ c fs c', G.exc c = some fs → c' ∈ G.xcl → PySem.W.exmOne K (.ref (adr c)) (.ref (adr c')) = some (G.sub c c')
  ar : ∀ q ss, call q ss ≠ .bad → ∃ f, fn q = some f ∧ ss.length ≤ f.ps.length ∧ f.ps.length ≤ ss.length + f.dfl.length
  dct : ∀ x kvs, G.dct x = some kvs → ∃ a, mg x = some (.ref a) ∧ ∀ z d, kvs.lookup z = some d → ∃ v, KDct K w a z v ∧ Rep K adr H0 d v
  kept : ∀ q f, fn q = some f → PySem.W.keepIn K (.ref (adr q)) = true
  eqm : ∀ c q, G.eqm c = some q → c ∈ G.cl ∧ (∃ f, fn q = some f ∧ f.ps.length = 2) ∧ PySem.W.findIn K (.ref (adr c)) "__eq__" = some (some (.ref (adr q))) ∧ PySem.W.isFn K (.ref (adr q)) = true
/-- the static side of a body or a block -/
structure Cf where
  N : List Str
  sc : Scope
  fn : Str → Bool
/-- a name that the body itself sets -/
def SetOk (c : Cf) (x : Str) : Prop := c.sc.names.lookup x = some .local ∨ (c.sc.names.lookup x = some .cell ∧ c.fn x = true)
section
variable (P : Program) (w : World) (K : PySem.W.Frag) (mg : Str → Option Value) (base : Heap) (adr : Str → Addr) (G : GT) (call : Str → List S → CR) (lv : Nat)
structure XOk (c : Cf) (PN : Addr → Addr → Option Addr → Prop) (W : WX) (X : Cx) : Prop where
  hP : X.prog = P
  hw : X.w = w
  hK : X.K = K
  hm : X.mg = mg
  hb : X.base = base
  hN : X.N = c.N
  hs : X.env.scope = c.sc
  nd : c.N.Nodup
  calm : G.hot = false → X.calm = true
  roomC : G.hot = false → Room (lv + 1) X.A
  hotc : G.hot = true → L2H.HotC X
  rooms : L2H.RoomH (lv + 1) X.A
  un : X.A.units + 64 < cLine
  tk : L2N.Takes X W
  fnc : X.fn = c.fn
  pn0 : G.hot = false → ∀ a C d, ¬ PN a C d
  pnk : ∀ a C d, PN a C d → ∃ oe, (a, oe) ∈ X.pn ∧ L2N.Zn (.ref C) d oe ∧ ∃ vs, oe.data = .fields vs
variable (PN : Addr → Addr → Option Addr → Prop) (W : WX)
def RE (e : Ex) : TE := fun σ H Q => ∃ B F env ts, StT K adr PN B F env σ H ts ∧ Out K adr PN W B F σ ts (ev G call e env) fun r e' => ∀ v H' F', Same F F' → StT K adr PN B F' e' σ H' ((r, v) :: ts) → Q v H'
def RA (es : Exs) : TA := fun σ H Q => ∃ B F env ts, StT K adr PN B F env σ H ts ∧ Out K adr PN W B F σ ts (evs G call es env) fun rs e' => ∀ vs H' F', Same F F' → rs.length = vs.length → StT K adr PN B F' e' σ H' (rs.zip vs ++ ts) → Q vs H'
def RT (t : Tx) : TT := fun σ H Q => ∃ B F env ts, StT K adr PN B F env σ H ts ∧ Out K adr PN W B F σ ts (evT G call t env) fun b e' => ∀ H' F', Same F F' → StT K adr PN B F' e' σ H' ts → Q b H'
def RO (o : Ox) : TO := fun σ H Q => ∃ B F env ts, StT K adr PN B F env σ H ts ∧ Out K adr PN W B F σ ts (evO G call o env) fun b e' => ∀ H' F', Same F F' → StT K adr PN B F' e' σ H' ts → Q b H'
end
theorem PE.im {X : Cx} {p : Expr} {t t' : TE} (h : PE X p t) (k : ∀ σ H Q, t' σ H Q → t σ H Q) : PE X p t' := ⟨fun pins s σ H Q I q => h.run pins s σ H Q I (k σ H Q q)⟩
theorem PT.im {X : Cx} {p : Expr} {t t' : TT} (h : PT X p t) (k : ∀ σ H Q, t' σ H Q → t σ H Q) : PT X p t' := ⟨fun pins s σ H Q I q => h.run pins s σ H Q I (k σ H Q q)⟩
theorem PW.im {X : Cx} {p : Expr} {t t' : TT} (h : PW X p t) (k : ∀ σ H Q, t' σ H Q → t σ H Q) : PW X p t' := ⟨fun wh pins s σ H Q I q => h.run wh pins s σ H Q I (k σ H Q q)⟩
theorem PA.im {X : Cx} {p : List Expr} {t t' : TA} (h : PA X p t) (k : ∀ σ H Q, t' σ H Q → t σ H Q) : PA X p t' := ⟨fun po pins s σ H Q I q => h.run po pins s σ H Q I (k σ H Q q)⟩
theorem PO.im {X : Cx} {p : Option Expr} {t t' : TO} (h : PO X p t) (k : ∀ σ H Q, t' σ H Q → t σ H Q) : PO X p t' := ⟨fun pins s σ H Q I q => h.run pins s σ H Q I (k σ H Q q)⟩

/-! ### a call -/
section
variable {K : PySem.W.Frag} {adr : Str → Addr} {PN : Addr → Addr → Option Addr → Prop} {W : WX} {B F H : Hp} {env : Env} {σ : St} {ts : List (R × V)} {rs : List R} {vs : List V}
theorem un_some {α : Type} {l : List α} {i : Nat} {x : α} (h : (l.map some)[i]? = some (some x)) : l[i]? = some x := by
  rw [List.getElem?_map] at h
  cases q : l[i]? with
  | none => rw [q] at h; cases h
  | some y => rw [q] at h; cases h; rfl
theorem call_sp {c : List S → CR} {k : R → Env → Prop} {Q : VK} (hs : StT K adr PN B F env σ H (rs.zip vs ++ ts)) (hl : rs.length = vs.length) (ho : Out K adr PN W B F σ ts (callR c rs env) k)
    (hk : ∀ r e, k r e → ∀ v H' F', Same F F' → StT K adr PN B F' e σ H' ((r, v) :: ts) → Q v H') :
    ∃ ss, ss.length = vs.length ∧ StT K adr PN0 (prB H F ((ss.zip vs).filterMap paF)) F (ss.map some) (vs.map some) H [] ∧ (∀ i os, c ss ≠ .ok (.sl i) os) ∧ Ends' K adr (c ss) ss vs (prB H F ((ss.zip vs).filterMap paF)) F Q (fun cls d H' => W cls d σ H') := by
  unfold callR at ho
  cases l : lends rs env with
  | none => rw [l] at ho; exact ho.elim
  | some ss =>
    rw [l] at ho
    simp only at ho
    split at ho
    · rename_i nd
      have nd := ndN_iff nd
      refine ⟨ss, by rw [lends_len l, hl], hs.lent hl l nd, fun i os z => by rw [z] at ho; exact ho.elim, ?_⟩
      cases q : c ss with
      | bad => rw [q] at ho; exact ho.elim
      | exc x fs =>
        rw [q] at ho
        intro cls d H' F' sf g ex
        refine ho cls d H' F' sf ?_ ex
        have hs' : StT K adr PN B F env σ H (rs.zip vs ++ []) := by
          rw [List.append_nil]
          exact (hs.perm List.perm_append_comm).popN
        refine hs'.kept hl l nd sf g.sb g.sf g.dj (fun i s z => .inr (lose_get z)) fun t ht => (by cases ht)
      | ok r os =>
        rw [q] at ho
        intro hlen v H' F' sf g
        have hb : (match r with | .sl _ => False | _ => k r (back rs (argsE ss os) env)) := by
          cases r with
          | sl i => exact ho.elim
          | v d => simp only at ho; rw [if_pos hlen] at ho; exact ho
          | own o => simp only at ho; rw [if_pos hlen] at ho; exact ho
        have old : ∀ (i : Nat) (s : S), (back rs (argsE ss os) env)[i]? = some (some s) → (∃ (j : Nat) (o o' : O), rs[j]? = some (R.sl i) ∧ ss[j]? = some (S.bor o) ∧ (s = .own o' ∨ s = .bor o') ∧ ∃ a, vs[j]? = some (V.ref a) ∧ B a = none ∧ F' a = none ∧ OAt K adr F' H' o' a) ∨
            (env[i]? = some (some s) ∧ ∀ (j : Nat) (o : O), rs[j]? = some (R.sl i) → ss[j]? ≠ some (S.bor o)) := fun i s z => by
          by_cases h : ∃ (j : Nat) (o : O), rs[j]? = some (R.sl i) ∧ ss[j]? = some (S.bor o)
          · obtain ⟨j, o, h1, h2⟩ := h
            obtain ⟨o', h3⟩ := argsE_all hlen h2
            obtain ⟨r', v', g1, g2, g3, g4⟩ := arg_at hl l h2
            rw [h1] at g1; cases g1
            have ht := hs.tm _ (List.mem_append_left _ (List.mem_of_getElem? g3))
            obtain ⟨hσ, s0, hs0⟩ := ht
            have hσ : σ[i]? = some (some v') := hσ
            have h4 := (back_get (as := argsE ss os) (env := env) (i := i) nd).1 j o' s0 h1 h3 hs0
            rw [h4] at z; cases z
            obtain ⟨w', h5, h6⟩ := g.sl j _ h3
            rw [un_some h5] at g2; cases g2
            obtain ⟨a, e5, e6, e7, e8⟩ := h6
            subst e5
            refine .inl ⟨j, o, o', h1, h2, ?_, a, un_some h5, ?_, e7, e8⟩
            · cases s0 <;> first | exact .inl rfl | exact .inr rfl
            · rcases lend_cases g4 with ⟨d, e, _⟩ | ⟨o, e, _⟩ | ⟨k', s1, e, p2, ⟨o1, p3, _⟩ | ⟨o1, p3, z⟩ | ⟨d, p3, z⟩⟩
              · cases e
              · cases e
              · cases e
                exact (obj_of hs p2 p3 hσ).1
              · cases z
              · cases z
          · refine .inr ⟨?_, fun j o h1 h2 => h ⟨j, o, h1, h2⟩⟩
            rw [← (back_get (as := argsE ss os) (env := env) (i := i) nd).2 fun j o h1 h2 => ?_]
            · exact z
            · obtain ⟨o1, o2, e1, e2⟩ := argsE_bor h2
              exact h ⟨j, o2, h1, e2⟩
        have hts : ∀ t ∈ ts, ∀ i, t.1 = .sl i → ∃ s, (back rs (argsE ss os) env)[i]? = some (some s) := fun t ht i e => by
          obtain ⟨r, v⟩ := t
          have e : r = .sl i := e
          subst e
          obtain ⟨_, s, q⟩ := hs.tm _ (List.mem_append_right _ ht)
          by_cases h : ∃ (j : Nat) (o : O), rs[j]? = some (R.sl i) ∧ (argsE ss os)[j]? = some (some (S.bor o))
          · obtain ⟨j, o, h1, h2⟩ := h
            exact ⟨_, (back_get nd).1 j o s h1 h2 q⟩
          · exact ⟨s, by rw [(back_get nd).2 fun j o h1 h2 => h ⟨j, o, h1, h2⟩]; exact q⟩
        have base := hs.kept hl l nd sf g.sb g.sf g.dj old hts
        cases r with
        | sl i => exact hb.elim
        | v d => exact hk _ _ hb v H' F' sf (base.data (g.tm _ List.mem_cons_self))
        | own o =>
          obtain ⟨p, ev, hp, hFp, ho'⟩ := g.tm _ List.mem_cons_self
          have ev : v = .ref p := ev
          subst ev
          have far : ∀ {a : Addr} {u : HO}, H a = some u → F a = none → a ∉ (ss.zip vs).filterMap paF → a ≠ p := fun {a u} h1 h2 h3 e => by
            subst e
            have h4 := prB_of h1 h2 h3
            have hp : prB H F ((ss.zip vs).filterMap paF) a = none := hp
            rw [hp] at h4; cases h4
          refine hk _ _ hb _ H' F' sf ⟨base.sb, base.sf, base.dj, base.sl, fun t ht => ?_, base.d1, fun i a me z => ?_, ?_⟩
          · rcases List.mem_cons.mp ht with rfl | ht
            · refine ⟨p, rfl, ?_, hFp, ho'⟩
              cases q : B p with
              | none => rfl
              | some u => exact absurd rfl (far (hs.sb p u q) (hs.dj p u q) (priv_free hs hl l q))
            · exact base.tm t ht
          · rw [List.filterMap_cons, show tAdr (R.own o, V.ref p) = some p from rfl] at z
            rcases List.mem_cons.mp z with e | z
            · subst e
              obtain ⟨⟨s, q1, q2⟩, q3⟩ := me
              rcases old i s q1 with ⟨j, o1, o2, e1, e2, e3, a', e4, e5, e6, e7⟩ | ⟨e1, no⟩
              · obtain ⟨w, h1, h2⟩ := base.sl i s q1
                rw [q3] at h1; cases h1
                obtain ⟨o3, h3⟩ := argsE_all hlen e2
                obtain ⟨w', h5, h6⟩ := g.sl j _ h3
                obtain ⟨a2, e8, _⟩ := h6
                have h5 := un_some h5
                rw [e4] at h5; cases h5
                cases e8
                obtain ⟨r', v', g1, g2, g3, g4⟩ := arg_at hl l e2
                rw [e1] at g1; cases g1
                have ht := (hs.tm _ (List.mem_append_left _ (List.mem_of_getElem? g3))).1
                have ht : σ[i]? = some (some v') := ht
                rw [q3] at ht; cases ht
                rw [e4] at g2; cases g2
                exact g.d2 j _ ⟨⟨_, h3, rfl⟩, by rw [List.getElem?_map, e4] <;> rfl⟩ (List.mem_filterMap.mpr ⟨_, List.mem_cons_self, rfl⟩)
              · obtain ⟨w, h1, h2⟩ := hs.sl i s e1
                rw [q3] at h1; cases h1
                obtain ⟨o3, a3, e8, _, e9, e10, _⟩ := h2.obj q2
                cases e8
                obtain ⟨u, hu⟩ := e10.some'
                exact far hu e9 (slot_free hs hl l ⟨⟨s, e1, q2⟩, q3⟩ no) rfl
            · exact base.d2 i a me z
          · rw [List.filterMap_cons, show tAdr (R.own o, V.ref p) = some p from rfl]
            refine List.nodup_cons.mpr ⟨fun z => ?_, base.d3⟩
            obtain ⟨⟨r', v'⟩, ht, e⟩ := List.mem_filterMap.mp z
            cases r' with
            | v d => cases e
            | sl i => cases e
            | own o1 =>
              obtain ⟨a, h1, _, h3, h4⟩ := hs.tm _ (List.mem_append_right _ ht)
              have h1 : v' = .ref a := h1
              subst h1
              cases e
              obtain ⟨u, hu⟩ := h4.some'
              exact far hu h3 (temp_free hs hl l ht) rfl
    · exact ho.elim
end

/-! ### side conditions, by the syntax -/
def notStar : Expr → Bool | .Starred .. => false | _ => true
theorem star_ok {e : Expr} {es : List Expr} {env : PySem.Env} (h : notStar e = true) : starEach (e :: es) env = (false, eval e env) :: starEach es env := by cases e <;> first | rfl | (cases h)
theorem star_any {pos : Pos} {env : PySem.Env} : ∀ {es : List Expr}, es.all notStar = true → (backTo pos (starEach es env)).any (·.1) = false
  | [], _ => rfl
  | e :: es, h => by
    rw [List.all_cons, Bool.and_eq_true] at h
    rw [star_ok h.1]
    show (false || (backTo pos (starEach es env)).any (·.1)) = false
    rw [star_any h.2] <;> rfl
def ixPlain : Expr → Bool | .Slice .. => false | _ => true
theorem plainIx_ok {b : Expr} (h : ixPlain b = true) : PlainIx b := by
  intro o i
  cases b <;> first | rfl | (cases h)
def attrPlain : Expr → Bool | .Call .. => false | _ => true
theorem attrB_ok {o : Expr} {f : Str} {env : PySem.Env} {w : Sem Value} (h : attrPlain o = true) : attributeBase o f env w = w := by
  cases o <;> first | rfl | (cases h)
def testPlain : Expr → Bool | .UnaryOp .Not _ _ => false | .BoolOp .. => false | .IfExp .. => false | .Compare .. => false | _ => true
theorem plainT_ok {a : Expr} {env : PySem.Env} (h : testPlain a = true) (w : Sem Value) : isTrue a env w = (do let v ← w; standAt a.pos; holding [v] (truthy v)) := by
  cases a <;> first | rfl | (cases h; done) | (rename_i op _ _; cases op <;> first | rfl | cases h)
theorem boot_bi (b : Bi) : bootBuiltins (biN b) = some (biV b) := by cases b <;> decide +kernel
end Ky
end
section
set_option Elab.async false
set_option linter.all false
set_option maxRecDepth 100000
set_option maxHeartbeats 1000000
/-! Ky, part J: expressions, construct by construct. -/
namespace Ky
open PySem PySem.Spec PyProof.Rows L2
section
variable {P : Program} {w : World} {K : PySem.W.Frag} {mg : Str → Option Value} {base : Heap} {adr : Str → Addr} {G : GT} {fn : Str → Option Fn} {call : Str → List S → CR} {lv : Nat} {c : Cf} {PN : Addr → Addr → Option Addr → Prop} {W : WX} {X : Cx}
variable {a b d : Ex} {p q r : Expr} {pos : Pos}
variable {B F F' H H' : Hp} {env e1 : Env} {σ : St} {ts : List (R × V)}

/-- the step behind one part -/
theorem seq1 {α : Type} {x : Rs R} {f : R → Env → Rs α} {k : α → Env → Prop} {Q : VK} (ho : Out K adr PN W B F σ ts (x.bind f) k)
    (h : ∀ r e v H' F', Same F F' → StT K adr PN B F' e σ H' ((r, v) :: ts) → Out K adr PN W B F' σ ((r, v) :: ts) (f r e) k → Q v H') :
    Out K adr PN W B F σ ts x fun r e => ∀ v H' F', Same F F' → StT K adr PN B F' e σ H' ((r, v) :: ts) → Q v H' :=
  (Out.bind ho).imp fun r e _ h1 v H' F' s g => h r e v H' F' s g (Out.later (us := [(r, v)]) h1 s)
/-- data come -/
theorem endV {r : R} {Q : VK} {ts' : List (R × V)} (g : StT K adr PN B F env σ H ts') (pop : StT K adr PN B F env σ H ts' → StT K adr PN B F env σ H ts)
    (h : ∀ v H' F', Same F F' → StT K adr PN B F' env σ H' ((r, v) :: ts) → Q v H') : Fin K adr F H r Q :=
  fun v H' F' n => h v H' F' n.sf ((pop g).push n)
theorem of_some {α : Type} {o : Option α} {e : Env} {k : α → Env → Prop} (h : Out K adr PN W B F σ ts (Rs.of o e) k) : ∃ a, o = some a ∧ k a e := Out.of h

theorem re_var {i : Nat} {x : Str} (hX : XOk P w K mg base G lv c PN W X) (hN : c.N[i]? = some x) (hv : Vis c.sc x) (h1 : (x == ("__debug__" : Str)) = false) (h2 : (x == ("__classdict__" : Str)) = false) :
    PE X (.Name x pos) (RE K adr G call PN W (.var i)) := by
  refine PE.im (pe_var (i := i) (by rw [hX.hN]; exact hN) (by rw [hX.hs]; exact hv) h1 h2) ?_
  rintro σ H Q ⟨B, F, env, ts, hs, ho⟩
  rw [ev] at ho
  cases q1 : env[i]? with
  | none => rw [q1] at ho; exact ho.elim
  | some o =>
    cases o with
    | none => rw [q1] at ho; exact ho.elim
    | some s =>
      rw [q1] at ho
      obtain ⟨v, h3, h4⟩ := hs.sl i s q1
      refine ⟨v, h3, ?_⟩
      have slot : (∀ v H' F', Same F F' → StT K adr PN B F' env σ H' ((R.sl i, v) :: ts) → Q v H') → Q v H := fun z =>
        z v H F Same.rfl' ⟨hs.sb, hs.sf, hs.dj, hs.sl, fun t ht => by
          rcases List.mem_cons.mp ht with rfl | ht
          · exact ⟨h3, s, q1⟩
          · exact hs.tm t ht, hs.d1, hs.d2, hs.d3⟩
      cases s with
      | v d => exact ho v H F Same.rfl' (hs.data h4)
      | _ => exact slot ho
theorem re_lit {d : D} {v : V} (h : PE X p (tC v)) (hd : ∀ F, Rep K adr F d v) : PE X p (RE K adr G call PN W (.cst d)) := by
  refine PE.im h ?_
  rintro σ H Q ⟨B, F, env, ts, hs, ho⟩
  rw [ev] at ho
  exact ho v H F Same.rfl' (hs.data (hd F))
theorem same0 {F : Hp} : Same H0 F := fun _ _ h => by cases h
theorem re_glb {x : Str} (hf : Facts P w K mg base adr G fn call lv) (hX : XOk P w K mg base G lv c PN W X) (hg : Gl X x) (h1 : (x == ("__debug__" : Str)) = false) (hc : (G.cst x).isSome = true) :
    PE X (.Name x pos) (RE K adr G call PN W (.glb x)) := by
  obtain ⟨d, hd⟩ := Option.isSome_iff_exists.mp hc
  obtain ⟨v, u, m1, m2, m3⟩ := hf.cst x d hd
  refine PE.im (pe_glob hg (by rw [hX.hm]; exact m1) m2 h1) ?_
  rintro σ H Q ⟨B, F, env, ts, hs, ho⟩
  rw [ev, hd] at ho
  exact ho v H F Same.rfl' (hs.data (Rep.mono same0 _ _ m3))
theorem re_bin {o : Operator} (hX : XOk P w K mg base G lv c PN W X) (ha : PE X p (RE K adr G call PN W a)) (hb : PE X q (RE K adr G call PN W b)) : PE X (.BinOp p o q pos) (RE K adr G call PN W (.bin o a b)) := by
  refine PE.im (pe_op (binR (adr := adr) o) ha hb) ?_
  rintro σ H Q ⟨B, F, env, ts, hs, ho⟩
  rw [ev] at ho
  refine ⟨B, F, env, ts, hs, seq1 ho fun r1 e1 v1 H1 F1 s1 g1 ho => ⟨B, F1, e1, _, g1, seq1 ho fun r2 e2 v2 H2 F2 s2 g2 ho => ?_⟩⟩
  cases q1 : r1.dat e2 with
  | none => rw [q1] at ho; exact ho.elim
  | some d1 =>
    cases q2 : r2.dat e2 with
    | none => rw [q1, q2] at ho; exact ho.elim
    | some d2 =>
      rw [q1, q2] at ho
      obtain ⟨r, e, hk⟩ := of_some ho
      rw [hX.hK]
      exact ⟨F2, d1, d2, r, g2.sf, TAt.view g2 (g2.tm _ (List.mem_cons_of_mem _ List.mem_cons_self)) q1, TAt.view g2 (g2.tm _ List.mem_cons_self) q2, e,
        endV (ts := ts) g2 (fun g => g.pop.pop) fun v H' F' s g => hk v H' F' (s1.trans (s2.trans s)) g⟩
theorem TAt.viewH {d : D} {t : R × V} (h : StT K adr PN B F env σ H ts) (m : t ∈ ts) (e : t.1.dat env = some d) : View K adr F H d t.2 := TAt.view h (h.tm t m) e
theorem dat_some {r : R} {e : Env} {α : Type} {f : D → Rs α} {k : α → Env → Prop} (h : Out K adr PN W B F σ ts (match r.dat e with | some d => f d | none => .bad) k) : ∃ d, r.dat e = some d ∧ Out K adr PN W B F σ ts (f d) k := by
  cases q : r.dat e with
  | none => rw [q] at h; exact h.elim
  | some d => rw [q] at h; exact ⟨d, rfl, h⟩
theorem dat_some2 {r1 r2 : R} {e : Env} {α : Type} {f : D → D → Rs α} {k : α → Env → Prop} (h : Out K adr PN W B F σ ts (match r1.dat e, r2.dat e with | some d1, some d2 => f d1 d2 | _, _ => .bad) k) :
    ∃ d1 d2, r1.dat e = some d1 ∧ r2.dat e = some d2 ∧ Out K adr PN W B F σ ts (f d1 d2) k := by
  cases q : r1.dat e with
  | none => rw [q] at h; exact h.elim
  | some d1 =>
    cases q2 : r2.dat e with
    | none => rw [q, q2] at h; exact h.elim
    | some d2 => rw [q, q2] at h; exact ⟨d1, d2, rfl, rfl, h⟩
/-- on to another expression -/
theorem again {x : Rs R} {us : List (R × V)} {Q : VK} (ho : Out K adr PN W B F' σ us x fun r e' => ∀ v H' F2, Same F F2 → StT K adr PN B F2 e' σ H' ((r, v) :: ts) → Q v H') (s : Same F F') :
    Out K adr PN W B F' σ ts x fun r e' => ∀ v H' F2, Same F' F2 → StT K adr PN B F2 e' σ H' ((r, v) :: ts) → Q v H' :=
  (Out.of_ts ho).imp fun _ _ _ hk v H' F2 s2 g => hk v H' F2 (s.trans s2) g
theorem re_neg (ha : PE X p (RE K adr G call PN W a)) : PE X (.UnaryOp .USub p pos) (RE K adr G call PN W (.neg a)) := by
  refine PE.im (pe_un un_neg ha) ?_
  rintro σ H Q ⟨B, F, env, ts, hs, ho⟩
  rw [ev] at ho
  refine ⟨B, F, env, ts, hs, seq1 ho fun r e v H1 F1 s1 g ho => ?_⟩
  obtain ⟨d, q, ho⟩ := dat_some ho
  obtain ⟨r', e', hk⟩ := of_some ho
  have vw := TAt.viewH g List.mem_cons_self q
  cases d <;> try (cases e'; done)
  have := vw.int; subst this
  cases e'
  exact ⟨_, rfl, hk _ H1 F1 s1 (g.pop.data rfl)⟩
theorem re_nt (ha : PE X p (RE K adr G call PN W a)) : PE X (.UnaryOp .Not p pos) (RE K adr G call PN W (.nt a)) := by
  refine PE.im (pe_not ha) ?_
  rintro σ H Q ⟨B, F, env, ts, hs, ho⟩
  rw [ev] at ho
  refine ⟨B, F, env, ts, hs, seq1 ho fun r e v H1 F1 s1 g ho => ?_⟩
  cases q : r.dat e with
  | none => rw [q] at ho; exact ho.elim
  | some d =>
    rw [q] at ho
    cases d <;> try exact ho.elim
    have := (TAt.viewH g List.mem_cons_self q).bl
    have this : v = _ := this
    subst this
    exact ⟨_, rfl, ho _ H1 F1 s1 (g.pop.data rfl)⟩
theorem re_idx (hX : XOk P w K mg base G lv c PN W X) (ha : PE X p (RE K adr G call PN W a)) (hb : PE X q (RE K adr G call PN W b)) (hi : ixPlain q = true) : PE X (.Subscript p q pos) (RE K adr G call PN W (.idx a b)) := by
  refine PE.im (pe_ix (ixR (adr := adr)) ha hb (plainIx_ok hi)) ?_
  rintro σ H Q ⟨B, F, env, ts, hs, ho⟩
  rw [ev] at ho
  refine ⟨B, F, env, ts, hs, seq1 ho fun r1 e1 v1 H1 F1 s1 g1 ho => ⟨B, F1, e1, _, g1, seq1 ho fun r2 e2 v2 H2 F2 s2 g2 ho => ?_⟩⟩
  obtain ⟨d1, d2, q1, q2, ho⟩ := dat_some2 ho
  obtain ⟨r, e, hk⟩ := of_some ho
  rw [hX.hK]
  exact ⟨F2, d1, d2, r, g2.sf, TAt.viewH g2 (List.mem_cons_of_mem _ List.mem_cons_self) q1, TAt.viewH g2 List.mem_cons_self q2, e,
    endV (ts := ts) g2 (fun g => g.pop.pop) fun v H' F' s g => hk v H' F' (s1.trans (s2.trans s)) g⟩
theorem re_an (ha : PE X p (RE K adr G call PN W a)) {rest : List Expr} (hb : PE X (.BoolOp .And (q :: rest) pos) (RE K adr G call PN W b)) : PE X (.BoolOp .And (p :: q :: rest) pos) (RE K adr G call PN W (.an a b)) := by
  refine PE.im (pe_and ha hb) ?_
  rintro σ H Q ⟨B, F, env, ts, hs, ho⟩
  rw [ev] at ho
  refine ⟨B, F, env, ts, hs, seq1 ho fun r e v H1 F1 s1 g ho => ?_⟩
  cases q : r.dat e with
  | none => rw [q] at ho; exact ho.elim
  | some d =>
    rw [q] at ho
    cases d <;> try exact ho.elim
    rename_i t
    have := (TAt.viewH g List.mem_cons_self q).bl
    have this : v = _ := this
    subst this
    refine ⟨t, rfl, ?_⟩
    cases t with
    | true => exact ⟨B, F1, e, _, g.pop, again ho s1⟩
    | false => exact ho _ H1 F1 s1 (g.pop.data rfl)
theorem re_or (ha : PE X p (RE K adr G call PN W a)) {rest : List Expr} (hb : PE X (.BoolOp .Or (q :: rest) pos) (RE K adr G call PN W b)) : PE X (.BoolOp .Or (p :: q :: rest) pos) (RE K adr G call PN W (.or a b)) := by
  refine PE.im (pe_or ha hb) ?_
  rintro σ H Q ⟨B, F, env, ts, hs, ho⟩
  rw [ev] at ho
  refine ⟨B, F, env, ts, hs, seq1 ho fun r e v H1 F1 s1 g ho => ?_⟩
  cases q : r.dat e with
  | none => rw [q] at ho; exact ho.elim
  | some d =>
    rw [q] at ho
    cases d <;> try exact ho.elim
    rename_i t
    have := (TAt.viewH g List.mem_cons_self q).bl
    have this : v = _ := this
    subst this
    refine ⟨t, rfl, ?_⟩
    cases t with
    | true => exact ho _ H1 F1 s1 (g.pop.data rfl)
    | false => exact ⟨B, F1, e, _, g.pop, again ho s1⟩
/-- the step behind a test -/
theorem seqT {α : Type} {x : Rs Bool} {f : Bool → Env → Rs α} {k : α → Env → Prop} {Q : Bool → Hp → Prop} (ho : Out K adr PN W B F σ ts (x.bind f) k)
    (h : ∀ t e H' F', Same F F' → StT K adr PN B F' e σ H' ts → Out K adr PN W B F' σ ts (f t e) k → Q t H') :
    Out K adr PN W B F σ ts x fun t e => ∀ H' F', Same F F' → StT K adr PN B F' e σ H' ts → Q t H' :=
  (Out.bind ho).imp fun r e _ h1 H' F' s g => h r e H' F' s g (Out.later (us := []) h1 s)
theorem re_ite {t : Tx} (hc : PT X p (RT K adr G call PN W t)) (ha : PE X q (RE K adr G call PN W a)) (hb : PE X r (RE K adr G call PN W b)) : PE X (.IfExp p q r pos) (RE K adr G call PN W (.ite t a b)) := by
  refine PE.im (pe_ifExp hc ha hb) ?_
  rintro σ H Q ⟨B, F, env, ts, hs, ho⟩
  rw [ev] at ho
  refine ⟨B, F, env, ts, hs, seqT ho fun t e H1 F1 s1 g ho => ?_⟩
  cases t with
  | true => exact ⟨B, F1, e, _, g, again ho s1⟩
  | false => exact ⟨B, F1, e, _, g, again ho s1⟩
/-! tests -/
theorem rt_an {t u : Tx} (ha : PT X p (RT K adr G call PN W t)) {rest : List Expr} (hb : PW X (.BoolOp .And (q :: rest) pos) (RT K adr G call PN W u)) : PW X (.BoolOp .And (p :: q :: rest) pos) (RT K adr G call PN W (.an t u)) := by
  refine PW.im (pw_and ha hb) ?_
  rintro σ H Q ⟨B, F, env, ts, hs, ho⟩
  rw [evT] at ho
  refine ⟨B, F, env, ts, hs, seqT ho fun t e H1 F1 s1 g ho => ?_⟩
  cases t with
  | true => exact ⟨B, F1, e, _, g, (Out.of_ts ho).imp fun _ _ _ hk H' F2 s2 g => hk H' F2 (s1.trans s2) g⟩
  | false => exact ho H1 F1 s1 g
theorem rt_or {t u : Tx} (ha : PT X p (RT K adr G call PN W t)) {rest : List Expr} (hb : PW X (.BoolOp .Or (q :: rest) pos) (RT K adr G call PN W u)) : PW X (.BoolOp .Or (p :: q :: rest) pos) (RT K adr G call PN W (.or t u)) := by
  refine PW.im (pw_or ha hb) ?_
  rintro σ H Q ⟨B, F, env, ts, hs, ho⟩
  rw [evT] at ho
  refine ⟨B, F, env, ts, hs, seqT ho fun t e H1 F1 s1 g ho => ?_⟩
  cases t with
  | true => exact ho H1 F1 s1 g
  | false => exact ⟨B, F1, e, _, g, (Out.of_ts ho).imp fun _ _ _ hk H' F2 s2 g => hk H' F2 (s1.trans s2) g⟩
theorem rt_nt {t : Tx} (ha : PT X p (RT K adr G call PN W t)) : PT X (.UnaryOp .Not p pos) (RT K adr G call PN W (.nt t)) := by
  refine PT.im (pt_not ha) ?_
  rintro σ H Q ⟨B, F, env, ts, hs, ho⟩
  rw [evT] at ho
  exact ⟨B, F, env, ts, hs, seqT ho fun t e H1 F1 s1 g ho => ho H1 F1 s1 g⟩
theorem truV {k : Bool} {v : V} {d : D} (s : Same F H) (h : View K adr F H d v) (e : truD d = some k) : TruV K v H k := by
  cases d <;> try (cases e; done)
  · have := h.non; subst this; cases e; rfl
  · have := h.bl; subst this; cases e; rfl
  · have := h.int; subst this; cases e; rfl
  · cases e; obtain ⟨a, vs, rfl, h2, h3⟩ := h.tup s
    refine .inr (.inl ⟨vs, h2, ?_⟩)
    rename_i xs
    cases xs <;> cases vs <;> first | rfl | (have := h3.length; simp at this)
  · cases e; obtain ⟨a, vs, rfl, h2, h3⟩ := h.lst s
    refine .inl ⟨vs, .of h2, ?_⟩
    rename_i xs
    cases xs <;> cases vs <;> first | rfl | (have := h3.length; simp at this)
theorem rt_val (hX : XOk P w K mg base G lv c PN W X) (ha : PE X p (RE K adr G call PN W a)) (hp : testPlain p = true) : PT X p (RT K adr G call PN W (.val a)) := by
  refine PT.im (pt_truth ha (plainT_ok hp)) ?_
  rintro σ H Q ⟨B, F, env, ts, hs, ho⟩
  rw [evT] at ho
  refine ⟨B, F, env, ts, hs, seq1 ho fun r e v H1 F1 s1 g ho => ?_⟩
  obtain ⟨d, q, ho⟩ := dat_some ho
  obtain ⟨k, e', hk⟩ := of_some ho
  rw [hX.hK]
  exact ⟨k, truV g.sf (TAt.viewH g List.mem_cons_self q) e', hk H1 F1 s1 g.pop⟩
end
end Ky
end
section
set_option Elab.async false
set_option linter.all false
set_option maxRecDepth 100000
set_option maxHeartbeats 1000000
/-! Ky, part K: comparisons; argument lists, displays; calls. -/
namespace Ky
open PySem PySem.Spec PyProof.Rows L2
section
variable {P : Program} {w : World} {K : PySem.W.Frag} {mg : Str → Option Value} {base : Heap} {adr : Str → Addr} {G : GT} {fn : Str → Option Fn} {call : Str → List S → CR} {lv : Nat} {c : Cf} {PN : Addr → Addr → Option Addr → Prop} {W : WX} {X : Cx}
variable {a b d : Ex} {p q r : Expr} {pos : Pos}
variable {B F F' H H' : Hp} {env e1 : Env} {σ : St} {ts : List (R × V)}

/-- the promise at some arguments is the promise with the defaults behind -/
theorem sp_fill {q : Str} {f : Fn} {ss : List S} {vs dvs : List V} {Q : VK} {E : XK} (hn : vs.length + dvs.length = f.ps.length) (hl : ss.length = vs.length) (hd : RepL K adr H0 (fillD f ss.length) dvs)
    (hs : StT K adr PN0 B F (ss.map some) (vs.map some) H []) (he : Ends' K adr (call q ss) ss vs B F Q E) : spC K adr call q f (vs ++ dvs) H Q E :=
  ⟨by rw [List.length_append]; exact hn, ss, vs, dvs, B, F, rfl, hl, hd, hs, he⟩
theorem fill_full {f : Fn} : fillD f f.ps.length = [] := by
  unfold fillD
  rw [Nat.sub_self, Nat.sub_zero]
  exact List.drop_length
/-- a def runs -/
theorem run_q {f : Addr} {fd : FuncData} {ps : List Str} {sp : Sp} {dvs : List V} {ds : List Value} {E : XK} {pins : List (Addr × Obj)} {s : Shared} {Q : VK} {us : List Value} {vs : List V} (hX : XOk P w K mg base G lv c PN W X) (FQ : FnQ P w K mg base G.hot lv f fd ps sp)
    (hb : Binds K fd ps ds) (hd : Vals dvs ds) (hx : PassesAt (L2N.CX X.prog X.w) X σ E) (I : Inv X pins σ H s) (r : Vals vs us) (h : sp (vs ++ dvs) H Q E) : wpAny (model X.prog X.w) X.A (PySem.call (.ref f) us) (EP X pins σ Q) X.xe s := by
  have r2 : Vals (vs ++ dvs) (us ++ ds) := r.append hd
  have FQ : FnQ X.prog X.w X.K X.mg X.base G.hot lv f fd ps sp := by rw [hX.hP, hX.hw, hX.hK, hX.hm, hX.hb]; exact FQ
  have hb : Binds X.K fd ps ds := by rw [hX.hK]; exact hb
  have fin : ∀ (r : Except Value Flow) (s' : Shared), L2.CR (L2N.CX X.prog X.w) X.stack X.prog X.w H s Q E r s' → (match r with | .ok (.ret u) => EP X pins σ Q u s' | .ok _ => False | .error e => X.xe e s') := fun r s' hq => by
    cases r with
    | error e => exact hx pins H s e s' I hq
    | ok fl =>
      cases fl with
      | ret u => exact I.after hq
      | next => exact False.elim hq
      | brk => exact False.elim hq
      | cont => exact False.elim hq
  cases hh : G.hot with
  | false =>
    have F := FQ.ok hh
    have hl : (us ++ ds).length = ps.length := by rw [← r2.length]; exact F.len _ _ _ _ h
    refine wpAny_call (codeAny_mono (F.run X.A X.stack s H ⟨us, []⟩ (us ++ ds) (vs ++ dvs) Q E ((hX.roomC hh).mono (Nat.le_succ _)) I.env0 (hb s us I.kIn hl) r2 h) fun r s' hq => ?_)
    have := fin r s' hq
    cases r with
    | error e => exact this
    | ok fl => cases fl <;> first | exact this | exact False.elim this
  | true =>
    have F := FQ.ho hh
    have hl : (us ++ ds).length = ps.length := by rw [← r2.length]; exact F.len _ _ _ _ h
    obtain ⟨p, hot, hp⟩ := hX.hotc hh
    have P1 := I.pin p (List.mem_append_left _ hp)
    have hpin : L2H.PinOk X.stack H s p := ⟨P1.1, P1.2.1, fun hm => (List.mem_cons.mp (I.stkSub p.1 hm)).elim P1.2.2.1 P1.2.2.2.1, P1.2.2.2.2⟩
    refine wpAny_call (codeAny_mono (F.run X.A X.stack s H ⟨us, []⟩ (us ++ ds) (vs ++ dvs) Q E p (hX.rooms.mono (Nat.le_succ _)) hot hpin I.env0 (hb s us I.kIn hl) r2 h) fun r s' hq => ?_)
    have := fin r s' hq
    cases r with
    | error e => exact this
    | ok fl => cases fl <;> first | exact this | exact False.elim this
theorem passNo {X : Cx} : Passes (L2N.CX X.prog X.w) X (fun _ _ _ => False) := fun _ _ _ _ _ _ _ h => by
  obtain ⟨_, _, _, _, _, _, _, _, _, _, _, _, z⟩ := h
  exact z.elim
theorem passF {X : Cx} {σ : St} : PassesAt (L2N.CX X.prog X.w) X σ (fun _ _ _ => False) := fun pins H s e s' I h => passNo pins σ H s e s' I h
/-- comparisons, with the temporaries kept -/
def rCmp (K : PySem.W.Frag) (adr : Str → Addr) (G : GT) (call : Str → List S → CR) (PN : Addr → Addr → Option Addr → Prop) (o : CmpOp) : R2 := fun x y H Q => ∃ B F env σ ts r1 r2 q e, StT K adr PN B F env σ H ((r2, y) :: (r1, x) :: ts) ∧ cmpR G call o r1 r2 env = .ok q e ∧
  ∀ v H' F', Same F F' → StT K adr PN B F' e σ H' ((q, v) :: (r2, y) :: (r1, x) :: ts) → Q v H'
theorem op_cmp (hf : Facts P w K mg base adr G fn call lv) (hX : XOk P w K mg base G lv c PN W X) (o : CmpOp) : OpR X (compareOp o) (rCmp K adr G call PN o) := by
  intro pins s σ H x y v u Q I rx ry h
  obtain ⟨B, F, env, σ', ts, r1, r2, q, e, g, ho, hk⟩ := h
  unfold cmpR at ho
  cases q1 : r1.dat env with
  | none => rw [q1] at ho; cases ho
  | some d1 =>
    cases q2 : r2.dat env with
    | none => rw [q1, q2] at ho; cases ho
    | some d2 =>
      rw [q1, q2] at ho
      simp only at ho
      cases q3 : cmpD o d1 d2 with
      | some t =>
        rw [q3] at ho
        cases ho
        refine cmpR' (adr := adr) o hX.un pins s σ H x y v u Q I rx ry ⟨F, d1, d2, t, g.sf, ?_, ?_, q3, hk _ H F Same.rfl' (g.data rfl)⟩
        · rw [hX.hK]; exact TAt.viewH g (List.mem_cons_of_mem _ List.mem_cons_self) q1
        · rw [hX.hK]; exact TAt.viewH g List.mem_cons_self q2
      | none =>
        rw [q3] at ho
        simp only at ho
        split at ho
        · rename_i c1 fs1 c2 fs2
          split at ho
          · rename_i hc
            subst hc
            split at ho
            · rename_i qq hq
              obtain ⟨hcl, ⟨f, hfn, hlen⟩, hat, hisf⟩ := hf.eqm _ _ hq
              cases hr : callR (call qq) [R.v (.ins c2 fs1), R.v (.ins c2 fs2)] env with
              | bad => rw [hr] at ho; cases ho
              | exc _ _ _ => rw [hr] at ho; cases ho
              | ok r e' =>
                rw [hr] at ho
                cases r with
                | own _ => cases ho
                | sl _ => cases ho
                | v d =>
                  cases d <;> try (cases ho; done)
                  rename_i t
                  cases ho
                  have rep1 : Rep K adr F (.ins c2 fs1) x := g.tm (R.v _, x) (List.mem_cons_of_mem _ List.mem_cons_self)
                  have rep2 : Rep K adr F (.ins c2 fs2) y := g.tm (R.v _, y) List.mem_cons_self
                  have g2 : StT K adr PN B F env σ' H ([R.v (.ins c2 fs1), R.v (.ins c2 fs2)].zip [x, y] ++ ((R.v (.ins c2 fs2), y) :: (R.v (.ins c2 fs1), x) :: ts)) := (g.data rep2).data rep1
                  have ho : Out K adr PN (fun _ _ _ _ => False) B F σ' ((R.v (.ins c2 fs2), y) :: (R.v (.ins c2 fs1), x) :: ts) (callR (call qq) [R.v (.ins c2 fs1), R.v (.ins c2 fs2)] env) (fun r e0 => r = .v (.bl t) ∧ e0 = e) := by
                    rw [hr]; exact ⟨rfl, rfl⟩
                  obtain ⟨ss, hl, hst, _, hend⟩ := call_sp (Q := fun v H' => ∃ k, v = .bl k ∧ Q v H') g2 rfl ho (fun r e0 z v H' F' sf gg => by
                    obtain ⟨rfl, rfl⟩ := z
                    have hv : v = .bl t := gg.tm _ List.mem_cons_self
                    exact ⟨t, hv, hk v H' F' sf gg⟩)
                  obtain ⟨fd, FO, FB⟩ := hf.fnk qq f hfn
                  obtain ⟨ds, dvs, hb, hd, hdr⟩ := FB 2 (by omega) (by omega)
                  have hl2 : ss.length = 2 := hl
                  have hdr' := hdr
                  rw [← hlen, fill_full] at hdr'
                  have dn : dvs = [] := hdr'
                  subst dn
                  have dn : ds = [] := by cases hd; rfl
                  subst dn
                  have sp := sp_fill (K := K) (adr := adr) (call := call) (q := qq) (f := f) (vs := [x, y]) (dvs := []) (by simp [hlen]) hl (by rw [hl2]; exact hdr) hst hend
                  obtain ⟨ax, dx, vx, e1, h1, _⟩ := (View.ins (adr := adr) g.sf (.inl rep1))
                  obtain ⟨ay, dy, vy, e2, h2, _⟩ := (View.ins (adr := adr) g.sf (.inl rep2))
                  subst e1; subst e2
                  cases rx
                  cases ry
                  obtain ⟨mA, J, _⟩ := ins_get I.hok h1
                  obtain ⟨mB, J', _⟩ := ins_get I.hok h2
                  obtain ⟨od, J, _⟩ := J.look
                  obtain ⟨od', J', _⟩ := J'.look
                  obtain ⟨m, hF⟩ := I.fr
                  show wpAny (model X.prog X.w) X.A (richCompare .Eq _ _) (EP X pins σ Q) X.xe s
                  refine PySem.W.cmp_K (op := .Eq) (tb := .ref (adr c2)) (by have := hX.un; omega) hF I.ok.mod.kin J J'.type (by simp [PySem.W.notFirst]) (by rw [hX.hK]; exact hat) (by rw [hX.hK]; exact hisf) ?_
                  refine wpAny_mono (run_q (dvs := []) (ds := []) (E := fun _ _ _ => False) hX FO hb .nil passF I (vs := [V.ref ax, V.ref ay]) (.cons rfl (.cons rfl .nil)) sp) (fun v' s' z => ?_) fun _ _ z => z
                  obtain ⟨v0, H1, I1, r0, k, ek, qk⟩ := z
                  subst ek
                  cases r0
                  exact ⟨.bl k, H1, I1, rfl, qk⟩
            · cases ho
          · cases ho
        · cases ho
end
end Ky
end
section
set_option Elab.async false
set_option linter.all false
set_option maxRecDepth 100000
set_option maxHeartbeats 1000000
/-! Ky, part L: argument lists, displays; calls of defs, of classes, of methods; properties. -/
namespace Ky
open PySem PySem.Spec PyProof.Rows L2
section
variable {P : Program} {w : World} {K : PySem.W.Frag} {mg : Str → Option Value} {base : Heap} {adr : Str → Addr} {G : GT} {fn : Str → Option Fn} {call : Str → List S → CR} {lv : Nat} {c : Cf} {PN : Addr → Addr → Option Addr → Prop} {W : WX} {X : Cx}
variable {a b d : Ex} {es : Exs} {p q r : Expr} {ps : List Expr} {pos : Pos}
variable {B F F' H H' : Hp} {env e1 : Env} {σ : St} {ts : List (R × V)}

theorem StT.mid {t u v : R × V} (h : StT K adr PN B F env σ H (t :: u :: v :: ts)) : StT K adr PN B F env σ H (t :: ts) :=
  (h.perm (List.perm_middle (l₁ := [u, v]) (l₂ := ts) (a := t)).symm).pop.pop
theorem cmp_noexc {o : CmpOp} {r1 r2 : R} {e e' : Env} {x : Str} {fs : List (Str × D)} (q : cmpR G call o r1 r2 e = .exc x fs e') : False := by
  unfold cmpR at q
  repeat' first | (cases q; done) | split at q
theorem re_cmp {o : CmpOp} (hf : Facts P w K mg base adr G fn call lv) (hX : XOk P w K mg base G lv c PN W X) (ha : PE X p (RE K adr G call PN W a)) (hb : PE X q (RE K adr G call PN W b)) (hm : behindInMarks o q = false) :
    PE X (.Compare p [o] [q] pos) (RE K adr G call PN W (.cmp o a b)) := by
  refine PE.im (pe_cmpR (op_cmp (PN := PN) hf hX o) ha hb hm) ?_
  rintro σ H Q ⟨B, F, env, ts, hs, ho⟩
  rw [ev] at ho
  refine ⟨B, F, env, ts, hs, seq1 ho fun r1 e1 v1 H1 F1 s1 g1 ho => ⟨B, F1, e1, _, g1, seq1 ho fun r2 e2 v2 H2 F2 s2 g2 ho => ?_⟩⟩
  cases q1 : cmpR G call o r1 r2 e2 with
  | bad => rw [q1] at ho; exact ho.elim
  | exc _ _ _ => exact (cmp_noexc q1).elim
  | ok x e3 =>
    rw [q1] at ho
    exact ⟨B, F2, e2, σ, ts, r1, r2, x, e3, g2, q1, fun v H' F' s g => ho v H' F' (s1.trans (s2.trans s)) g.mid⟩
theorem rt_cmp {o : CmpOp} (hf : Facts P w K mg base adr G fn call lv) (hX : XOk P w K mg base G lv c PN W X) (ha : PE X p (RE K adr G call PN W a)) (hb : PE X q (RE K adr G call PN W b)) (hm : behindInMarks o q = false) :
    PT X (.Compare p [o] [q] pos) (RT K adr G call PN W (.cmp o a b)) := by
  refine PT.im (pt_cmpR (op_cmp (PN := PN) hf hX o) ha hb hm) ?_
  rintro σ H Q ⟨B, F, env, ts, hs, ho⟩
  rw [evT] at ho
  refine ⟨B, F, env, ts, hs, seq1 ho fun r1 e1 v1 H1 F1 s1 g1 ho => ⟨B, F1, e1, _, g1, seq1 ho fun r2 e2 v2 H2 F2 s2 g2 ho => ?_⟩⟩
  cases q1 : cmpR G call o r1 r2 e2 with
  | bad => rw [q1] at ho; exact ho.elim
  | exc _ _ _ => exact (cmp_noexc q1).elim
  | ok x e3 =>
    rw [q1] at ho
    refine ⟨B, F2, e2, σ, ts, r1, r2, x, e3, g2, q1, fun v H' F' s g => ?_⟩
    have ho : Out K adr PN W B F2 σ _ (match x.dat e3 with | some (.bl t) => .ok t e3 | _ => .bad) _ := ho
    cases q2 : x.dat e3 with
    | none => rw [q2] at ho; exact ho.elim
    | some d =>
      rw [q2] at ho
      cases d <;> try exact ho.elim
      have hv := (TAt.viewH g List.mem_cons_self q2).bl
      have hv : v = _ := hv
      exact ⟨_, hv, ho H' F' (s1.trans (s2.trans s)) g.pop.pop.pop⟩
theorem re_cm2 {o o' : CmpOp} (hf : Facts P w K mg base adr G fn call lv) (hX : XOk P w K mg base G lv c PN W X) (ha : PE X p (RE K adr G call PN W a)) (hb : PE X q (RE K adr G call PN W b)) (hd : PE X r (RE K adr G call PN W d)) (hm : lastMarks [o, o'] [q, r] = false) :
    PE X (.Compare p [o, o'] [q, r] pos) (RE K adr G call PN W (.cm2 o o' a b d)) := by
  refine PE.im (pe_chain (op_cmp (PN := PN) hf hX o) (op_cmp (PN := PN) hf hX o') ha hb hd hm) ?_
  rintro σ H Q ⟨B, F, env, ts, hs, ho⟩
  rw [ev] at ho
  refine ⟨B, F, env, ts, hs, seq1 ho fun r1 e1 v1 H1 F1 s1 g1 ho => ⟨B, F1, e1, _, g1, seq1 ho fun r2 e2 v2 H2 F2 s2 g2 ho => ?_⟩⟩
  cases q1 : cmpR G call o r1 r2 e2 with
  | bad => rw [q1] at ho; exact ho.elim
  | exc _ _ _ => exact (cmp_noexc q1).elim
  | ok x e3 =>
    rw [q1] at ho
    refine ⟨B, F2, e2, σ, ts, r1, r2, x, e3, g2, q1, fun v H' F' s g => ?_⟩
    have ho : Out K adr PN W B F2 σ _ (match x.dat e3 with | some (.bl true) => (ev G call d e3).bind fun r3 e4 => cmpR G call o' r2 r3 e4 | some (.bl false) => .ok (.v (.bl false)) e3 | _ => .bad) _ := ho
    cases q2 : x.dat e3 with
    | none => rw [q2] at ho; exact ho.elim
    | some dd =>
      rw [q2] at ho
      cases dd <;> try exact ho.elim
      rename_i t
      have hv := (TAt.viewH g List.mem_cons_self q2).bl
      have hv : v = .bl t := hv
      refine ⟨t, hv, ?_⟩
      cases t with
      | false => exact ho _ H' F' (s1.trans (s2.trans s)) (g.pop.pop.pop.data rfl)
      | true =>
        refine ⟨B, F', e3, _, g.pop, ?_⟩
        have ho := Out.bind (Out.later (us := []) ho s)
        refine (Out.of_ts ho).imp fun r3 e4 _ ho v3 H3 F3 s3 g3 => ?_
        cases q4 : cmpR G call o' r2 r3 e4 with
        | bad => rw [q4] at ho; exact ho.elim
        | exc _ _ _ => exact (cmp_noexc q4).elim
        | ok y e5 =>
          rw [q4] at ho
          have g4 : StT K adr PN B F3 e4 σ H3 ((r3, v3) :: (r2, v2) :: ts) := by
            have := g3.perm (((List.Perm.refl _).cons (r3, v3)) : List.Perm ((r3, v3) :: (r2, v2) :: (r1, v1) :: ts) _)
            exact (this.perm ((List.Perm.swap (r1, v1) (r2, v2) ts).cons (r3, v3))).perm (List.Perm.swap _ _ _) |>.pop
          exact ⟨B, F3, e4, σ, ts, r2, r3, y, e5, g4, q4, fun v5 H5 F5 s5 g5 => ho v5 H5 F5 (s1.trans (s2.trans (s.trans (s3.trans s5)))) g5.mid⟩
theorem rt_cm2 {o o' : CmpOp} (hf : Facts P w K mg base adr G fn call lv) (hX : XOk P w K mg base G lv c PN W X) (ha : PE X p (RE K adr G call PN W a)) (hb : PE X q (RE K adr G call PN W b)) (hd : PE X r (RE K adr G call PN W d)) (hm : lastMarks [o, o'] [q, r] = false) :
    PT X (.Compare p [o, o'] [q, r] pos) (RT K adr G call PN W (.cm2 o o' a b d)) := by
  refine PT.im (pt_chain (op_cmp (PN := PN) hf hX o) (op_cmp (PN := PN) hf hX o') ha hb hd hm) ?_
  rintro σ H Q ⟨B, F, env, ts, hs, ho⟩
  rw [evT] at ho
  refine ⟨B, F, env, ts, hs, seq1 ho fun r1 e1 v1 H1 F1 s1 g1 ho => ⟨B, F1, e1, _, g1, seq1 ho fun r2 e2 v2 H2 F2 s2 g2 ho => ?_⟩⟩
  cases q1 : cmpR G call o r1 r2 e2 with
  | bad => rw [q1] at ho; exact ho.elim
  | exc _ _ _ => exact (cmp_noexc q1).elim
  | ok x e3 =>
    rw [q1] at ho
    refine ⟨B, F2, e2, σ, ts, r1, r2, x, e3, g2, q1, fun v H' F' s g => ?_⟩
    have ho : Out K adr PN W B F2 σ ((r2, v2) :: (r1, v1) :: ts) (match x.dat e3 with
      | some (.bl true) => ((ev G call d e3).bind fun r3 e4 => ((cmpR G call o' r2 r3 e4).bind (fun q e5 => (match q.dat e5 with
        | some (.bl t) => (Rs.ok t e5)
        | _ => Rs.bad))))
      | some (.bl false) => (Rs.ok false e3)
      | _ => Rs.bad) _ := ho
    cases q2 : x.dat e3 with
    | none => rw [q2] at ho; exact ho.elim
    | some dd =>
      rw [q2] at ho
      cases dd <;> try exact ho.elim
      rename_i t
      have hv := (TAt.viewH g List.mem_cons_self q2).bl
      have hv : v = .bl t := hv
      refine ⟨t, hv, ?_⟩
      cases t with
      | false => exact ⟨false, rfl, ho H' F' (s1.trans (s2.trans s)) g.pop.pop.pop⟩
      | true =>
        refine ⟨B, F', e3, _, g.pop, ?_⟩
        have ho := Out.bind (Out.later (us := []) ho s)
        refine (Out.of_ts ho).imp fun r3 e4 _ ho v3 H3 F3 s3 g3 => ?_
        cases q4 : cmpR G call o' r2 r3 e4 with
        | bad => rw [q4] at ho; exact ho.elim
        | exc _ _ _ => exact (cmp_noexc q4).elim
        | ok y e5 =>
          rw [q4] at ho
          have g4 : StT K adr PN B F3 e4 σ H3 ((r3, v3) :: (r2, v2) :: ts) :=
            (g3.perm ((List.Perm.swap (r1, v1) (r2, v2) ts).cons (r3, v3))).perm (List.Perm.swap _ _ _) |>.pop
          refine ⟨B, F3, e4, σ, ts, r2, r3, y, e5, g4, q4, fun v5 H5 F5 s5 g5 => ?_⟩
          have ho : Out K adr PN W B F' σ _ (match y.dat e5 with | some (.bl t) => .ok t e5 | _ => .bad) _ := ho
          cases q5 : y.dat e5 with
          | none => rw [q5] at ho; exact ho.elim
          | some dd =>
            rw [q5] at ho
            cases dd <;> try exact ho.elim
            have hv := (TAt.viewH g5 List.mem_cons_self q5).bl
            have hv : v5 = _ := hv
            exact ⟨_, hv, ho H5 F5 (s1.trans (s2.trans (s.trans (s3.trans s5)))) g5.pop.pop.pop⟩
/-! argument lists -/
theorem ra_nil : PA X [] (RA K adr G call PN W .nil) := by
  refine PA.im pa_nil ?_
  rintro σ H Q ⟨B, F, env, ts, hs, ho⟩
  rw [evs] at ho
  exact ho [] H F Same.rfl' rfl hs
theorem ra_cons (ha : PE X p (RE K adr G call PN W a)) (hr : PA X ps (RA K adr G call PN W es)) (hn : notStar p = true) : PA X (p :: ps) (RA K adr G call PN W (.cons a es)) := by
  refine PA.im (pa_cons ha hr (star_ok hn)) ?_
  rintro σ H Q ⟨B, F, env, ts, hs, ho⟩
  rw [evs] at ho
  refine ⟨B, F, env, ts, hs, seq1 ho fun r e1 v H1 F1 s1 g ho => ⟨B, F1, e1, _, g, ?_⟩⟩
  refine (Out.bind ho).imp fun rs e2 _ hk vs H2 F2 s2 hl g2 => ?_
  exact hk (v :: vs) H2 F2 (s1.trans s2) (by simp [hl]) (g2.perm List.perm_middle)
/-- the step behind an argument list -/
theorem seqA {α : Type} {x : Rs (List R)} {f : List R → Env → Rs α} {k : α → Env → Prop} {Q : List V → Hp → Prop} (ho : Out K adr PN W B F σ ts (x.bind f) k)
    (h : ∀ rs e vs H' F', Same F F' → rs.length = vs.length → StT K adr PN B F' e σ H' (rs.zip vs ++ ts) → Out K adr PN W B F' σ ts (f rs e) k → Q vs H') :
    Out K adr PN W B F σ ts x fun rs e => ∀ vs H' F', Same F F' → rs.length = vs.length → StT K adr PN B F' e σ H' (rs.zip vs ++ ts) → Q vs H' :=
  (Out.bind ho).imp fun rs e _ h1 vs H' F' s l g => h rs e vs H' F' s l g (Out.later (us := []) h1 s)
theorem re_tup {n : Nat} (ha : PA X ps (RA K adr G call PN W es)) : PE X (.Tuple ps n pos) (RE K adr G call PN W (.tup es)) := by
  refine PE.im (pe_tup ha) ?_
  rintro σ H Q ⟨B, F, env, ts, hs, ho⟩
  rw [ev] at ho
  refine ⟨B, F, env, ts, hs, seqA ho fun rs e vs H1 F1 s1 l g ho => ?_⟩
  cases q1 : frzs rs e with
  | none => rw [q1] at ho; exact ho.elim
  | some x =>
    obtain ⟨ds, e'⟩ := x
    rw [q1] at ho
    obtain ⟨F2, s2, g2, r2⟩ := g.frzN l q1
    simp only at ho
    split at ho
    · rename_i hz
      exact ⟨by rw [r2.length, ← lim_eq]; exact hz, fun p hp => ho _ _ _ (s1.trans (s2.trans (New.tup g2.sf hp r2).sf)) (g2.push (New.tup g2.sf hp r2))⟩
    · exact ho.elim
theorem re_lst (ha : PA X ps (RA K adr G call PN W es)) : PE X (.List ps pos) (RE K adr G call PN W (.lst es)) := by
  refine PE.im (pe_lst ha) ?_
  rintro σ H Q ⟨B, F, env, ts, hs, ho⟩
  rw [ev] at ho
  refine ⟨B, F, env, ts, hs, seqA ho fun rs e vs H1 F1 s1 l g ho => ?_⟩
  cases q1 : frzs rs e with
  | none => rw [q1] at ho; exact ho.elim
  | some x =>
    obtain ⟨ds, e'⟩ := x
    rw [q1] at ho
    obtain ⟨F2, s2, g2, r2⟩ := g.frzN l q1
    simp only at ho
    split at ho
    · rename_i hz
      exact ⟨by rw [r2.length, ← lim_eq]; exact hz, fun p hp => ho _ _ _ (s1.trans s2) (g2.push (New.lst g2.sf hp r2))⟩
    · exact ho.elim
end
end Ky
end
section
set_option Elab.async false
set_option linter.all false
set_option maxRecDepth 100000
set_option maxHeartbeats 1000000
/-! Ky, part M: slices; calls of defs, of classes, of methods; fields, built-ins. -/
namespace Ky
open PySem PySem.Spec PyProof.Rows L2
section
variable {P : Program} {w : World} {K : PySem.W.Frag} {mg : Str → Option Value} {base : Heap} {adr : Str → Addr} {G : GT} {fn : Str → Option Fn} {call : Str → List S → CR} {lv : Nat} {c : Cf} {PN : Addr → Addr → Option Addr → Prop} {W : WX} {X : Cx}
variable {a b d : Ex} {es : Exs} {p q r : Expr} {ps : List Expr} {pos pos2 pos3 pos4 : Pos}
variable {B F F' H H' : Hp} {env e1 : Env} {σ : St} {ts : List (R × V)}

/-! slices -/
theorem ro_no : PO X none (RO K adr G call PN W .no) := by
  refine PO.im po_none ?_
  rintro σ H Q ⟨B, F, env, ts, hs, ho⟩
  rw [evO] at ho
  exact ho H F Same.rfl' hs
theorem ro_so (ha : PE X p (RE K adr G call PN W a)) : PO X (some p) (RO K adr G call PN W (.so a)) := by
  refine PO.im (po_some ha) ?_
  rintro σ H Q ⟨B, F, env, ts, hs, ho⟩
  rw [evO] at ho
  refine ⟨B, F, env, ts, hs, seq1 ho fun r e v H1 F1 s1 g ho => ?_⟩
  cases q1 : r.dat e with
  | none => rw [q1] at ho; exact ho.elim
  | some d =>
    rw [q1] at ho
    cases d <;> try exact ho.elim
    have hv := (TAt.viewH g List.mem_cons_self q1).int
    have hv : v = _ := hv
    exact ⟨_, hv, ho H1 F1 s1 g.pop⟩
/-- the step behind a slice's end -/
theorem seqO {α : Type} {x : Rs (Option Int)} {f : Option Int → Env → Rs α} {k : α → Env → Prop} {Q : Option Int → Hp → Prop} (ho : Out K adr PN W B F σ ts (x.bind f) k)
    (h : ∀ t e H' F', Same F F' → StT K adr PN B F' e σ H' ts → Out K adr PN W B F' σ ts (f t e) k → Q t H') :
    Out K adr PN W B F σ ts x fun t e => ∀ H' F', Same F F' → StT K adr PN B F' e σ H' ts → Q t H' :=
  (Out.bind ho).imp fun r e _ h1 H' F' s g => h r e H' F' s g (Out.later (us := []) h1 s)
theorem re_slc {l h : Ox} {lo hi : Option Expr} (hX : XOk P w K mg base G lv c PN W X) (ha : PE X p (RE K adr G call PN W a)) (hl : PO X lo (RO K adr G call PN W l)) (hh : PO X hi (RO K adr G call PN W h)) :
    PE X (.Subscript p (.Slice lo hi none pos2) pos) (RE K adr G call PN W (.slc a l h)) := by
  refine PE.im (pe_slice (slcR (adr := adr)) ha hl hh) ?_
  rintro σ H Q ⟨B, F, env, ts, hs, ho⟩
  rw [ev] at ho
  refine ⟨B, F, env, ts, hs, seq1 ho fun r1 e1 v1 H1 F1 s1 g1 ho => ⟨B, F1, e1, _, g1, seqO ho fun l2 e2 H2 F2 s2 g2 ho => ⟨B, F2, e2, _, g2, seqO ho fun h3 e3 H3 F3 s3 g3 ho => ?_⟩⟩⟩
  obtain ⟨d, q, ho⟩ := dat_some ho
  obtain ⟨r, e, hk⟩ := of_some ho
  rw [hX.hK]
  exact ⟨F3, d, r, g3.sf, TAt.viewH g3 List.mem_cons_self q, e, endV (ts := ts) g3 (fun g => g.pop) fun v H' F' s g => hk v H' F' (s1.trans (s2.trans (s3.trans s))) g⟩
/-! calls -/
theorem get0 {α : Type} {x : α} {l : List α} {i : Nat} {y : α} (h : (x :: l)[i]? = some y) : (i = 0 ∧ y = x) ∨ ∃ j, i = j + 1 ∧ l[j]? = some y := by
  cases i with
  | zero => exact .inl ⟨rfl, by rw [List.getElem?_cons_zero] at h; exact (Option.some.inj h).symm⟩
  | succ j => exact .inr ⟨j, rfl, by rw [List.getElem?_cons_succ] at h; exact h⟩
theorem RepF.none : ∀ {fs : List (Str × D)} {vs : List (Str × V)} {f : Str}, RepF K adr F fs vs → fs.lookup f = .none → vs.lookup f = .none
  | [], vs, f, h, _ => by have h : vs = [] := h; subst h; rfl
  | (y, d) :: fs, vs, f, h, e => by
    obtain ⟨v, r, rfl, h1, h2⟩ := h
    rw [List.lookup_cons] at e ⊢
    cases hb : f == y with
    | true => rw [hb] at e; cases e
    | false => rw [hb] at e; exact RepF.none h2 e
/-- data ahead of the slots -/
theorem StT.consV {v : V} {d : D} (h : StT K adr PN B F env σ H []) (q : Rep K adr F d v) : StT K adr PN B F (some (.v d) :: env) (some v :: σ) H [] := by
  have ob : ∀ i a, ObS (some (.v d) :: env) (some v :: σ) i a → ∃ j, i = j + 1 ∧ ObS env σ j a := fun i a ⟨⟨s, q1, q2⟩, q3⟩ => by
    rcases get0 q1 with ⟨rfl, e⟩ | ⟨j, rfl, e⟩
    · cases e; cases q2
    · exact ⟨j, rfl, ⟨s, e, q2⟩, by rw [List.getElem?_cons_succ] at q3; exact q3⟩
  refine ⟨h.sb, h.sf, h.dj, fun i s z => ?_, fun t ht => (by cases ht), fun i j a n q1 q2 => ?_, fun i a q1 z => (by cases z), List.Pairwise.nil⟩
  · rcases get0 z with ⟨rfl, e⟩ | ⟨j, rfl, e⟩
    · cases e; exact ⟨v, rfl, q⟩
    · obtain ⟨u, h1, h2⟩ := h.sl j s e
      exact ⟨u, by rw [List.getElem?_cons_succ]; exact h1, h2⟩
  · obtain ⟨i', rfl, o1⟩ := ob i a q1
    obtain ⟨j', rfl, o2⟩ := ob j a q2
    exact h.d1 i' j' a (fun e => n (by rw [e])) o1 o2
/-- the slot ahead is let go -/
theorem StT.uncons {x : Option S} {y : Option V} {t : R × V} (h : StT K adr PN B F (x :: env) (y :: σ) H [t]) (q : ∀ i, t.1 ≠ .sl i) : StT K adr PN B F env σ H [t] := by
  have ob : ∀ i a, ObS env σ i a → ObS (x :: env) (y :: σ) (i + 1) a := fun i a ⟨⟨s, q1, q2⟩, q3⟩ => ⟨⟨s, by rw [List.getElem?_cons_succ]; exact q1, q2⟩, by rw [List.getElem?_cons_succ]; exact q3⟩
  refine ⟨h.sb, h.sf, h.dj, fun i s z => ?_, fun u hu => ?_, fun i j a n q1 q2 => h.d1 (i + 1) (j + 1) a (by omega) (ob i a q1) (ob j a q2), fun i a q1 => h.d2 (i + 1) a (ob i a q1), h.d3⟩
  · obtain ⟨u, h1, h2⟩ := h.sl (i + 1) s (by rw [List.getElem?_cons_succ]; exact z)
    exact ⟨u, by rw [List.getElem?_cons_succ] at h1; exact h1, h2⟩
  · have e : u = t := by simpa using hu
    subst e
    have h1 := h.tm u List.mem_cons_self
    obtain ⟨r, v⟩ := u
    cases r with
    | v d => exact h1
    | own o => exact h1
    | sl i => exact absurd rfl (q i)
theorem StT.nil_env {x : Option V} (h : StT K adr PN B F [] (x :: σ) H []) : StT K adr PN B F [] σ H [] :=
  ⟨h.sb, h.sf, h.dj, fun i s z => (by cases z), fun t ht => (by cases ht), fun i j a n q1 q2 => (by obtain ⟨⟨s, e, _⟩, _⟩ := q1; cases e), fun i a q1 z => (by cases z), List.Pairwise.nil⟩
/-- a new object ahead of the slots -/
theorem StT.consB {a : Addr} {o : O} (h : StT K adr PN B F env σ H []) (sh : Same H H') (ha : H a = none) (ho : OAt K adr F H' o a) : StT K adr PN B F (some (.bor o) :: env) (some (.ref a) :: σ) H' [] := by
  have g := h.grow sh Same.rfl' (fun b o q => sh b o (h.sf b o q)) (fun _ _ q => .inl q)
  have old : ∀ j b, ObS env σ j b → b ≠ a := fun j b ⟨⟨s, q1, q2⟩, q3⟩ e => by
    subst e
    obtain ⟨v, h1, h2⟩ := h.sl j s q1
    obtain ⟨o', a', h3, _, _, h4, _⟩ := h2.obj q2
    rw [q3] at h1; cases h1; cases h3
    obtain ⟨u, hu⟩ := h4.some'
    rw [ha] at hu; cases hu
  have hB : B a = none := by
    cases z : B a with
    | none => rfl
    | some u => rw [h.sb a u z] at ha; cases ha
  refine ⟨g.sb, g.sf, g.dj, fun i s z => ?_, fun t ht => (by cases ht), fun i j b n q1 q2 => ?_, fun i a q1 z => (by cases z), List.Pairwise.nil⟩
  · rcases get0 z with ⟨rfl, e⟩ | ⟨j, rfl, e⟩
    · cases e; exact ⟨_, rfl, a, rfl, hB, free_F h.sf ha, ho⟩
    · obtain ⟨u, h1, h2⟩ := g.sl j s e
      exact ⟨u, by rw [List.getElem?_cons_succ]; exact h1, h2⟩
  · have sp : ∀ i, ObS (some (.bor o) :: env) (some (.ref a) :: σ) i b → (i = 0 ∧ b = a) ∨ ∃ j, i = j + 1 ∧ ObS env σ j b := fun i ⟨⟨s, q1, q2⟩, q3⟩ => by
      rcases get0 q1 with ⟨rfl, e⟩ | ⟨j, rfl, e⟩
      · rw [List.getElem?_cons_zero] at q3; cases q3; exact .inl ⟨rfl, rfl⟩
      · exact .inr ⟨j, rfl, ⟨s, e, q2⟩, by rw [List.getElem?_cons_succ] at q3; exact q3⟩
    rcases sp i q1 with ⟨rfl, rfl⟩ | ⟨i', rfl, o1⟩
    · rcases sp j q2 with ⟨rfl, _⟩ | ⟨j', rfl, o2⟩
      · exact n rfl
      · exact old _ _ o2 rfl
    · rcases sp j q2 with ⟨rfl, rfl⟩ | ⟨j', rfl, o2⟩
      · exact old _ _ o1 rfl
      · exact g.d1 i' j' b (fun e => n (by rw [e])) o1 o2
/-- the lent object ahead of the slots, frozen: what is left -/
theorem StT.unconsB {a : Addr} {o : O} {t : R × V} (h : StT K adr PN B F (some (.bor o) :: env) (some (.ref a) :: σ) H [t]) : ∃ F', Same F F' ∧ StT K adr PN B F' env σ H [(.v o.dat, .ref a)] := by
  obtain ⟨v, hσ, a', hv, hB, hF, ho⟩ := h.sl 0 _ rfl
  cases hσ; cases hv
  have ob : ∀ i b, ObS env σ i b → ObS (some (.bor o) :: env) (some (.ref a) :: σ) (i + 1) b := fun i b ⟨⟨s, q1, q2⟩, q3⟩ => ⟨⟨s, by rw [List.getElem?_cons_succ]; exact q1, q2⟩, by rw [List.getElem?_cons_succ]; exact q3⟩
  have st : StT K adr PN B F env σ H [(.own o, .ref a)] := by
    refine ⟨h.sb, h.sf, h.dj, fun i s z => ?_, fun u hu => ?_, fun i j b n q1 q2 => h.d1 (i + 1) (j + 1) b (by omega) (ob i b q1) (ob j b q2), fun i b q1 z => ?_, by simp [tAdr]⟩
    · obtain ⟨u, h1, h2⟩ := h.sl (i + 1) s (by rw [List.getElem?_cons_succ]; exact z)
      exact ⟨u, by rw [List.getElem?_cons_succ] at h1; exact h1, h2⟩
    · have e : u = (.own o, .ref a) := by simpa using hu
      subst e
      exact ⟨a, rfl, hB, hF, ho⟩
    · have e : b = a := by simpa [tAdr] using z
      subst e
      exact h.d1 0 (i + 1) b (by omega) ⟨⟨_, rfl, rfl⟩, rfl⟩ (ob i b q1)
  exact st.frzOwn
/-- a def is called -/
theorem run_callR {q : Str} {rs : List R} {vs : List V} {us : List Value} {pins : List (Addr × Obj)} {s : Shared} {Q : VK} {k : R → Env → Prop} (hf : Facts P w K mg base adr G fn call lv) (hX : XOk P w K mg base G lv c PN W X) (I : Inv X pins σ H s) (r : Vals vs us)
    (hs : StT K adr PN B F env σ H (rs.zip vs ++ ts)) (hl : rs.length = vs.length) (ho : Out K adr PN W B F σ ts (callR (call q) rs env) k) (hk : ∀ r e, k r e → ∀ v H' F', Same F F' → StT K adr PN B F' e σ H' ((r, v) :: ts) → Q v H') :
    wpAny (model X.prog X.w) X.A (PySem.call (.ref (adr q)) us) (EP X pins σ Q) X.xe s := by
  obtain ⟨ss, hl2, hst, _, hend⟩ := call_sp hs hl ho hk
  have nb : call q ss ≠ .bad := fun z => by rw [z] at hend; exact hend
  obtain ⟨f, hfn, h1, h2⟩ := hf.ar q ss nb
  obtain ⟨fd, FQ, FB⟩ := hf.fnk q f hfn
  obtain ⟨ds, dvs, hb, hd, hdr⟩ := FB ss.length h1 h2
  have h3 := hdr.length
  unfold fillD at h3
  rw [List.length_drop] at h3
  exact run_q hX FQ hb hd (L2N.passAt hX.tk σ) I r (sp_fill (by omega) hl2 hdr hst hend)
/-- the same with the receiver ahead -/
theorem run_methR {q : Str} {d : D} {x : V} {u : Value} {rs : List R} {vs : List V} {us : List Value} {pins : List (Addr × Obj)} {s : Shared} {Q : VK} {k : R → Env → Prop} (hf : Facts P w K mg base adr G fn call lv) (hX : XOk P w K mg base G lv c PN W X) (I : Inv X pins σ H s) (r : Vals vs us)
    (rx : RelV x u) (hx : Rep K adr F d x) (hs : StT K adr PN B F env σ H (rs.zip vs ++ ts)) (hl : rs.length = vs.length) (ho : Out K adr PN W B F σ ts (callR (fun ss => call q (.v d :: ss)) rs env) k) (hk : ∀ r e, k r e → ∀ v H' F', Same F F' → StT K adr PN B F' e σ H' ((r, v) :: ts) → Q v H') :
    wpAny (model X.prog X.w) X.A (PySem.call (.ref (adr q)) (u :: us)) (EP X pins σ Q) X.xe s := by
  obtain ⟨ss, hl2, hst, nsl, hend⟩ := call_sp hs hl ho hk
  have nb : call q (.v d :: ss) ≠ .bad := fun z => by
    have hend : Ends' K adr (call q (.v d :: ss)) ss vs _ F Q _ := hend
    rw [z] at hend; exact hend
  obtain ⟨f, hfn, h1, h2⟩ := hf.ar q _ nb
  obtain ⟨fd, FQ, FB⟩ := hf.fnk q f hfn
  obtain ⟨ds, dvs, hb, hd, hdr⟩ := FB _ h1 h2
  have h3 := hdr.length
  unfold fillD at h3
  rw [List.length_drop] at h3
  simp only [List.length_cons] at h1 h2 h3
  refine run_q hX FQ hb hd (L2N.passAt hX.tk σ) I (.cons rx r) (sp_fill (vs := x :: vs) (ss := .v d :: ss) (B := prB H F ((ss.zip vs).filterMap paF)) (F := F) (by simp only [List.length_cons]; omega) (by simp [hl2]) hdr (hst.consV hx) ?_)
  have hend : Ends' K adr (call q (.v d :: ss)) ss vs (prB H F ((ss.zip vs).filterMap paF)) F Q (fun cls d H' => W cls d σ H') := hend
  have nsl : ∀ i os, call q (.v d :: ss) ≠ .ok (.sl i) os := nsl
  revert hend nsl
  cases call q (.v d :: ss) with
  | bad => exact fun h _ => h
  | exc y fs => exact fun h _ cls d' H' F' sf g ex => h cls d' H' F' sf g.nil_env ex
  | ok r os =>
    intro h nsl hlen v H' F' sf g
    exact h hlen v H' F' sf (g.uncons fun i e => nsl i os (by rw [show r = .sl i from e]))
end
end Ky
end
section
set_option Elab.async false
set_option linter.all false
set_option maxRecDepth 100000
set_option maxHeartbeats 1000000
/-! Ky, part N: calls, methods, making; fields, built-ins. -/
namespace Ky
open PySem PySem.Spec PyProof.Rows L2

theorem methForm {ps : List Expr} {env : PySem.Env} {pos : Pos} (hn : ps.all notStar = true) (hl : ps.length < 30) :
    methodCallForm (ps.length + ([] : List Keyword).length) (backTo pos (starEach ps env)) (backToKw pos (keywordEach [] env)) = true := by
  have h := star_any (pos := pos) (env := env) hn
  have h2 : (backTo pos (starEach ps env)).all (fun x => !x.1) = true := by
    rw [List.all_eq_true]
    intro x hx
    rw [List.any_eq_false] at h
    simpa using h x hx
  unfold methodCallForm
  rw [h2]
  show (true && true && decide _) = true
  simp
  show ps.length < 30
  exact hl
theorem methCall_ok {prog : Program} {w : World} {A : Around} {o : Expr} {m : Str} {apos pos : Pos} {ps : List Expr} {env : PySem.Env} {Q : Value → Shared → Prop} {E : Value → Shared → Prop} {s : Shared} (ha : attrPlain o = true) (hn : ps.all notStar = true) (hl : ps.length < 30) (hline : (apos.endLine == pos.line) = true)
    (h : wpAny (model prog w) A (eval o env) (fun ov s1 => wpAny (model prog w) A (getMethod ov m (do return (← importBound o env).getD true)) (fun fx s2 => wpAny (model prog w) A (callWith pos fx.1 fx.2 (backTo pos (starEach ps env)) []) Q E s2) E s1) E s) :
    wpAny (model prog w) A (eval (.Call (.Attribute o m apos) ps [] pos) env) Q E s := by
  rw [arm_eval_Call, attrB_ok ha]
  refine wpAny_bind (wpAny_mono h (fun ov s1 h1 => wpAny_bind (wpAny_standAt ?_)) fun _ _ e => e)
  have hpos : methodCallPos true o env apos pos = pure pos := by unfold methodCallPos; simp [hline]
  unfold methodCall
  rw [methForm hn hl, hpos]
  refine wpAny_bind (wpAny_holding (wpAny_mono h1 (fun fx s2 h2 => ?_) fun _ _ x => x))
  exact wpAny_bind (wpAny_pure h2)

theorem evalArgs_pl {M : Model} {A : Around} {E : Value → Shared → Prop} {s : Shared} {f : Value} {args : List (Bool × Sem Value)} {Q : Args → Shared → Prop} (hp : args.any (·.1) = false) (h : wpAny M A (spliced args) (fun vs s' => Q ⟨vs, []⟩ s') E s) : wpAny M A (evalArgs f true args []) Q E s := by
  cases args with
  | nil =>
    unfold evalArgs
    show wpAny M A (spliced [] >>= _) Q E s
    refine wpAny_bind (wpAny_mono h (fun vs s' h' => wpAny_bind (wpAny_pure ?_)) fun _ _ x => x)
    refine wpAny_holding ?_
    exact wpAny_bind (wpAny_pure (wpAny_bind (wpAny_pure (wpAny_pure h'))))
  | cons x rest =>
    obtain ⟨b, x⟩ := x
    rw [List.any_cons, Bool.or_eq_false_iff] at hp
    obtain ⟨rfl, _⟩ : b = false ∧ _ := hp
    exact Calls.evalArgs_plain h
section
variable {P : Program} {w : World} {K : PySem.W.Frag} {mg : Str → Option Value} {base : Heap} {adr : Str → Addr} {G : GT} {fn : Str → Option Fn} {call : Str → List S → CR} {lv : Nat} {c : Cf} {PN : Addr → Addr → Option Addr → Prop} {W : WX} {X : Cx}
variable {a b d : Ex} {es : Exs} {p q r : Expr} {ps : List Expr} {pos pos2 pos3 pos4 : Pos}
variable {B F F' H H' : Hp} {env e1 : Env} {σ : St} {ts : List (R × V)}

/-- the arguments of a call, then what is called -/
theorem args_then {f : Value} {first : List Value} {pins : List (Addr × Obj)} {s : Shared} {Q : VK} (hX : XOk P w K mg base G lv c PN W X) (ha : PA X ps (RA K adr G call PN W es)) (hn : ps.all notStar = true) (hk : PySem.W.keepIn K f = true) (I : Inv X pins σ H s)
    {Q' : List V → Hp → Prop} (h : RA K adr G call PN W es σ H Q')
    (hq : ∀ us vs s1 H1, Inv X pins σ H1 s1 → Vals vs us → Q' vs H1 → wpAny (model X.prog X.w) X.A (PySem.call f (first ++ us)) (EP X pins σ Q) X.xe s1) :
    wpAny (model X.prog X.w) X.A (callWith pos f first (backTo pos (starEach ps X.env)) []) (EP X pins σ Q) X.xe s := by
  have hk : PySem.W.keepIn X.K f = true := by rw [hX.hK]; exact hk
  refine PySem.W.callWith_of (P := fun h => X.K.In h) ?_ (PySem.W.keeps_K hk) (evalArgs_pl (star_any hn) (thn (ha.run pos pins s σ H Q' I h) fun us s1 ⟨vs, H1, I1, r, q⟩ => ⟨I1.kIn, hq us vs s1 H1 I1 r q⟩))
  rw [star_any hn]
  rfl
/-- behind the arguments -/
def AfterA (K : PySem.W.Frag) (adr : Str → Addr) (PN : Addr → Addr → Option Addr → Prop) (W : WX) (B F : Hp) (σ : St) (ts : List (R × V)) (c : List S → CR) (Q : VK) : List V → Hp → Prop := fun vs H1 =>
  ∃ rs e F1 k, rs.length = vs.length ∧ StT K adr PN B F1 e σ H1 (rs.zip vs ++ ts) ∧ Out K adr PN W B F1 σ ts (callR c rs e) k ∧ ∀ r e', k r e' → ∀ v H' F', Same F1 F' → StT K adr PN B F' e' σ H' ((r, v) :: ts) → Q v H'
theorem afterA {cc : List S → CR} {Q : VK} {es : Exs} (hs : StT K adr PN B F env σ H ts) (ho : Out K adr PN W B F σ ts ((evs G call es env).bind fun rs e => callR cc rs e) fun r e' => ∀ v H' F', Same F F' → StT K adr PN B F' e' σ H' ((r, v) :: ts) → Q v H') :
    RA K adr G call PN W es σ H (AfterA K adr PN W B F σ ts cc Q) :=
  ⟨B, F, env, ts, hs, seqA ho fun rs e vs H1 F1 s1 l g ho => ⟨rs, e, F1, _, l, g, ho, fun r e' hk v H' F' s g => hk v H' F' (s1.trans s) g⟩⟩
theorem re_call {x : Str} (hf : Facts P w K mg base adr G fn call lv) (hX : XOk P w K mg base G lv c PN W X) (hg : Gl X x) (hx : x ∈ G.gl) (h1 : (x == ("__debug__" : Str)) = false) (ha : PA X ps (RA K adr G call PN W es)) (hn : ps.all notStar = true) :
    PE X (.Call (.Name x pos2) ps [] pos) (RE K adr G call PN W (.call x es)) := by
  obtain ⟨m1, m2⟩ := hf.glf x hx
  refine ⟨fun pins s σ H Q I h => ?_⟩
  obtain ⟨B, F, env, ts, hs, ho⟩ := h
  rw [ev] at ho
  refine wpAny_Call_Name_kw (ld_glob I hg (by rw [hX.hm]; exact m1) ?_ h1)
  exact args_then hX ha hn m2 I (afterA hs ho) fun us vs s1 H1 I1 r ⟨rs, e, F1, k, l, g, ho, hk⟩ => run_callR hf hX I1 r g l ho hk
theorem re_calv {i : Nat} {x : Str} (hf : Facts P w K mg base adr G fn call lv) (hX : XOk P w K mg base G lv c PN W X) (hN : c.N[i]? = some x) (hv : Vis c.sc x) (h1 : (x == ("__debug__" : Str)) = false) (h2 : (x == ("__classdict__" : Str)) = false)
    (ha : PA X ps (RA K adr G call PN W es)) (hn : ps.all notStar = true) : PE X (.Call (.Name x pos2) ps [] pos) (RE K adr G call PN W (.calv i es)) := by
  refine ⟨fun pins s σ H Q I h => ?_⟩
  obtain ⟨B, F, env, ts, hs, ho⟩ := h
  rw [ev] at ho
  split at ho
  · rename_i q e0
    split at ho
    · rename_i hgl
      obtain ⟨m1, m2⟩ := hf.glf q (by simpa using hgl)
      obtain ⟨v, hσ, hr⟩ := hs.sl i _ e0
      have hr : v = .ref (adr q) := hr
      subst hr
      refine wpAny_Call_Name_kw (thn ((pe_var (pos := pos2) (by rw [hX.hN]; exact hN) (by rw [hX.hs]; exact hv) h1 h2).run pins s σ H (fun v H1 => v = .ref (adr q) ∧ H1 = H) I ⟨.ref (adr q), hσ, rfl, rfl⟩) fun u s1 ⟨v, H1, I1, r1, q1⟩ => ?_)
      obtain ⟨rfl, rfl⟩ := q1
      cases r1
      exact args_then hX ha hn m2 I1 (afterA hs ho) fun us vs s1 H1 I1 r ⟨rs, e, F1, k, l, g, ho, hk⟩ => run_callR hf hX I1 r g l ho hk
    · exact ho.elim
  · exact ho.elim
theorem re_meth {o : Ex} {q : Expr} {m : Str} {apos : Pos} (hf : Facts P w K mg base adr G fn call lv) (hX : XOk P w K mg base G lv c PN W X) (hq : PE X q (RE K adr G call PN W o)) (hp : attrPlain q = true) (hl : ps.length < 30) (hline : (apos.endLine == pos.line) = true)
    (ha : PA X ps (RA K adr G call PN W es)) (hn : ps.all notStar = true) : PE X (.Call (.Attribute q m apos) ps [] pos) (RE K adr G call PN W (.meth m o es)) := by
  refine ⟨fun pins s σ H Q I h => ?_⟩
  obtain ⟨B, F, env, ts, hs, ho⟩ := h
  rw [ev] at ho
  refine methCall_ok hp hn hl hline ?_
  refine thn (hq.run pins s σ H (fun v H1 => ∃ r e F1 k, StT K adr PN B F1 e σ H1 ((r, v) :: ts) ∧ Out K adr PN W B F1 σ ((r, v) :: ts) (match r with
      | .v (.ins c fs) => (match G.meth c m with
        | some q => if (fs.lookup m).isNone then (evs G call es e).bind fun rs e' => callR (fun ss => call q (.v (.ins c fs) :: ss)) rs e' else .bad
        | none => .bad)
      | _ => .bad) k ∧ ∀ r e', k r e' → ∀ v H' F', Same F1 F' → StT K adr PN B F' e' σ H' ((r, v) :: ts) → Q v H') I
    ⟨B, F, env, ts, hs, seq1 ho fun r e v H1 F1 s1 g ho => ⟨r, e, F1, _, g, ho, fun r e' hk v H' F' s g => hk v H' F' (s1.trans s) g⟩⟩) fun u s1 ⟨x, H1, I1, rx, r, e, F1, k, g, ho, hk⟩ => ?_
  split at ho
  · rename_i cc fs
    split at ho
    · rename_i qq hmq
      split at ho
      · rename_i hno
        obtain ⟨hcl, hM⟩ := hf.meth _ _ _ hmq
        have hM : Meth X.K (adr cc) m (adr qq) := by rw [hX.hK]; exact hM
        have hC : Cls X.K (adr cc) := by rw [hX.hK]; exact (hf.cl.own cc hcl).cls
        have rep : Rep K adr F1 (.ins cc fs) x := g.tm _ List.mem_cons_self
        obtain ⟨a, dx, vs0, ex, ha0, hr0⟩ := rep
        have rep : Rep K adr F1 (.ins cc fs) x := g.tm _ List.mem_cons_self
        subst ex
        obtain rfl : u = Value.ref a := rx
        have hnone : vs0.lookup m = none := RepF.none hr0 (by simpa using hno)
        refine getmeth_ok I1 (g.sf _ _ ha0) hC hM hnone ?_
        refine args_then (first := [.ref a]) hX ha hn (by have := hM.kp; rw [hX.hK] at this; exact this) I1 (Q' := fun vs H2 => ∃ rs e' F2 k, rs.length = vs.length ∧ Rep K adr F2 (.ins cc fs) (.ref a) ∧ StT K adr PN B F2 e' σ H2 (rs.zip vs ++ ((R.v (.ins cc fs), V.ref a) :: ts)) ∧ Out K adr PN W B F2 σ ((R.v (.ins cc fs), V.ref a) :: ts) (callR (fun ss => call qq (.v (.ins cc fs) :: ss)) rs e') k ∧
          ∀ r e', k r e' → ∀ v H' F', Same F2 F' → StT K adr PN B F' e' σ H' ((r, v) :: ts) → Q v H') ?_ fun us vs s2 H2 I2 r ⟨rs, e', F2, k2, l, rep, g, ho, hk⟩ => ?_
        · exact ⟨B, F1, e, _, g, seqA ho fun rs e' vs H2 F2 s2 l g ho => ⟨rs, e', F2, _, l, Rep.mono s2 _ _ rep, g, ho, fun r e' hk' v H' F' s g => hk r e' hk' v H' F' (s2.trans s) g⟩⟩
        · refine run_methR (x := V.ref a) (u := Value.ref a) hf hX I2 r rfl rep g l ho fun r e' hk' v H' F' s g => hk r e' hk' v H' F' s ?_
          exact ((g.perm (List.Perm.swap _ _ _)).pop)
      · exact ho.elim
    · exact ho.elim
  · exact ho.elim
end
end Ky
end
section
set_option Elab.async false
set_option linter.all false
set_option maxRecDepth 100000
set_option maxHeartbeats 1000000
/-! Ky, part O: making; fields, constants, built-ins, isinstance. -/
namespace Ky
open PySem PySem.Spec PyProof.Rows L2
section
variable {P : Program} {w : World} {K : PySem.W.Frag} {mg : Str → Option Value} {base : Heap} {adr : Str → Addr} {G : GT} {fn : Str → Option Fn} {call : Str → List S → CR} {lv : Nat} {c : Cf} {PN : Addr → Addr → Option Addr → Prop} {W : WX} {X : Cx}
variable {a b d : Ex} {es : Exs} {p q r : Expr} {ps : List Expr} {pos pos2 pos3 pos4 : Pos}
variable {B F F' H H' : Hp} {env e1 : Env} {σ : St} {ts : List (R × V)}

theorem run_mkR {cN : Str} {rs : List R} {vs : List V} {us : List Value} {pins : List (Addr × Obj)} {s : Shared} {Q : VK} {k : R → Env → Prop} (hf : Facts P w K mg base adr G fn call lv) (hX : XOk P w K mg base G lv c PN W X) (hh : G.hot = false) (hc : cN ∈ G.cl) (I : Inv X pins σ H s) (r : Vals vs us)
    (hs : StT K adr PN B F env σ H (rs.zip vs ++ ts)) (hl : rs.length = vs.length) (ho : Out K adr PN W B F σ ts (callR (mkC call cN) rs env) k) (hk : ∀ r e, k r e → ∀ v H' F', Same F F' → StT K adr PN B F' e σ H' ((r, v) :: ts) → Q v H') :
    wpAny (model X.prog X.w) X.A (PySem.call (.ref (adr cN)) us) (EP X pins σ Q) X.xe s := by
  obtain ⟨ss, hl2, hst, _, hend⟩ := call_sp hs hl ho hk
  have nb : call (cN ++ ".__init__") (.bor (.I cN []) :: ss) ≠ .bad := fun z => by
    unfold mkC at hend
    rw [z] at hend; exact hend
  obtain ⟨f, hfn, h1, h2⟩ := hf.ar _ _ nb
  obtain ⟨fd, FQ, FB⟩ := hf.fnk _ f hfn
  obtain ⟨ds, dvs, hb, hd, hdr⟩ := FB _ h1 h2
  have h3 := hdr.length
  unfold fillD at h3
  rw [List.length_drop] at h3
  simp only [List.length_cons] at h1 h2 h3
  have F : FnOk X.prog X.w X.K X.mg X.base (L2N.CX X.prog X.w) lv (adr (cN ++ ".__init__")) fd f.ps (spC K adr call (cN ++ ".__init__") f) := by
    rw [hX.hP, hX.hw, hX.hK, hX.hm, hX.hb]; exact FQ.ok hh
  have hb : Binds X.K fd f.ps ds := by rw [hX.hK]; exact hb
  have M : Mk X.K (adr cN) (adr (cN ++ ".__init__")) := by rw [hX.hK]; exact (hf.mkf cN hc).2
  have h : ∀ x dx, H x = none → H dx = none → dx ≠ x → spC K adr call (cN ++ ".__init__") f (.ref x :: (vs ++ dvs)) (upd (upd H dx (.own x)) x (.ins (adr cN) dx [])) (fun v H2 => v = .non ∧ Q (.ref x) H2) (WE W σ) := fun x dx hx hdx hne => by
    have sh : Same H (upd (upd H dx (.own x)) x (.ins (adr cN) dx [])) := fun b o z => by
      rw [upd_ne (ne_of_none z hx), upd_ne (ne_of_none z hdx)]; exact z
    have st2 := hst.consB (a := x) (o := .I cN []) sh hx ⟨dx, [], upd_same, rfl⟩
    refine sp_fill (vs := .ref x :: vs) (ss := .bor (.I cN []) :: ss) (by simp only [List.length_cons]; omega) (by simp [hl2]) hdr st2 ?_
    unfold mkC at hend
    revert hend
    cases call (cN ++ ".__init__") (.bor (.I cN []) :: ss) with
    | bad => exact fun h => h
    | exc y fs => exact fun h cls d' H' F' sf g ex => h cls d' H' F' sf g.nil_env ex
    | ok r os =>
      intro hend hlen v H' F' sf g
      cases os with
      | nil => simp [borN] at hlen
      | cons o os =>
        have g : StT K adr PN0 _ F' (some (.bor o) :: argsE ss os) (some (.ref x) :: vs.map some) H' [(r, v)] := g
        cases r with
        | own _ => exact hend.elim
        | sl _ => exact hend.elim
        | v d =>
          cases d <;> try exact hend.elim
          have hv : v = .non := g.tm _ List.mem_cons_self
          refine ⟨hv, ?_⟩
          obtain ⟨F2, s2, g2⟩ := g.unconsB
          exact hend (by simpa [borN] using hlen) (.ref x) H' F2 (sf.trans s2) g2
  have hq := h (s.heap.objs.size + 1) s.heap.objs.size (I.hok.fresh (Nat.le_succ _)) (I.hok.fresh (Nat.le_refl _)) (Nat.ne_of_lt (Nat.lt_succ_self _))
  have I2 := Inv.made (C := adr cN) I
  have r2 : Vals (V.ref (s.heap.objs.size + 1) :: (vs ++ dvs)) (Value.ref (s.heap.objs.size + 1) :: (us ++ ds)) := .cons rfl (r.append hd)
  have hl : (Value.ref (s.heap.objs.size + 1) :: us ++ ds).length = f.ps.length := by
    have e := r2.length
    rw [F.len _ _ _ _ hq] at e
    exact e.symm
  refine wpAny_call (make_map (f := adr (cN ++ ".__init__")) I.kIn M.makes M.init (beq_iff_eq.mp M.fn) (codeAny_mono (F.run _ X.stack _ _ ⟨Value.ref (s.heap.objs.size + 1) :: us, []⟩ (Value.ref (s.heap.objs.size + 1) :: (us ++ ds)) _ _ (WE W σ) ((hX.roomC hh).make (adr cN) us [])
    (I2.env0.make (adr cN) us []) (hb _ (Value.ref (s.heap.objs.size + 1) :: us) I2.kIn hl) r2 hq) fun r s' hq' => ?_))
  cases r with
  | error e => exact L2N.passAt hX.tk σ pins _ _ e s' I2 hq'
  | ok fl =>
    cases fl with
    | ret u =>
      obtain ⟨v, H', I3, rv, ev, q3⟩ := I2.after hq'
      subst ev
      exact ⟨rv, ⟨V.ref (s.heap.objs.size + 1), H', I3, rfl, q3⟩⟩
    | next => exact False.elim hq'
    | brk => exact False.elim hq'
    | cont => exact False.elim hq'
theorem re_mk {x : Str} (hf : Facts P w K mg base adr G fn call lv) (hX : XOk P w K mg base G lv c PN W X) (hg : Gl X x) (h1 : (x == ("__debug__" : Str)) = false) (ha : PA X ps (RA K adr G call PN W es)) (hn : ps.all notStar = true) :
    PE X (.Call (.Name x pos2) ps [] pos) (RE K adr G call PN W (.mk x es)) := by
  refine ⟨fun pins s σ H Q I h => ?_⟩
  obtain ⟨B, F, env, ts, hs, ho⟩ := h
  rw [ev] at ho
  split at ho
  · exact ho.elim
  · rename_i hh
    split at ho
    · rename_i hc
      have hc : x ∈ G.cl := by simpa using hc
      obtain ⟨m1, M⟩ := hf.mkf x hc
      refine wpAny_Call_Name_kw (ld_glob I hg (by rw [hX.hm]; exact m1) ?_ h1)
      exact args_then hX ha hn M.kp I (afterA hs ho) fun us vs s1 H1 I1 r ⟨rs, e, F1, k, l, g, ho, hk⟩ => run_mkR hf hX (by simpa using hh) hc I1 r g l ho hk
    · exact ho.elim
/-! fields -/
theorem RepF.some : ∀ {fs : List (Str × D)} {vs : List (Str × V)} {f : Str} {d : D}, RepF K adr F fs vs → fs.lookup f = .some d → ∃ v, vs.lookup f = .some v ∧ Rep K adr F d v
  | [], vs, f, d, h, e => by cases e
  | (y, d') :: fs, vs, f, d, h, e => by
    obtain ⟨v, r, rfl, h1, h2⟩ := h
    rw [List.lookup_cons] at e ⊢
    cases hb : f == y with
    | true => rw [hb] at e; cases e; exact ⟨v, rfl, h1⟩
    | false => rw [hb] at e; exact RepF.some h2 e
theorem re_fld {f : Str} (hf : Facts P w K mg base adr G fn call lv) (hX : XOk P w K mg base G lv c PN W X) (ha : PE X q (RE K adr G call PN W a)) (hp : attrPlain q = true) : PE X (.Attribute q f pos) (RE K adr G call PN W (.fld a f)) := by
  refine ⟨fun pins s σ H Q I h => ?_⟩
  obtain ⟨B, F, env, ts, hs, ho⟩ := h
  rw [ev] at ho
  refine attr_of (attrB_ok hp) ?_
  refine thn (ha.run pins s σ H (fun v H1 => ∃ r e F1 k, StT K adr PN B F1 e σ H1 ((r, v) :: ts) ∧ Out K adr PN W B F1 σ ((r, v) :: ts) (match r.dat e with
    | some (.ins c fs) => (match fs.lookup f with
      | some d => if (G.flds c).contains f then .ok (.v d) e else .bad
      | none => (match G.prop c f with
        | some q => (match r with
          | .v d => if G.hot then .bad else (match call q [.v d] with | .ok (.v d') [] => .ok (.v d') e | _ => .bad)
          | _ => .bad)
        | none => .bad))
    | _ => .bad) k ∧ ∀ r e', k r e' → ∀ v H' F', Same F1 F' → StT K adr PN B F' e' σ H' ((r, v) :: ts) → Q v H') I
    ⟨B, F, env, ts, hs, seq1 ho fun r e v H1 F1 s1 g ho => ⟨r, e, F1, _, g, ho, fun r e' hk v H' F' s g => hk v H' F' (s1.trans s) g⟩⟩) fun u s1 ⟨x, H1, I1, rx, r, e, F1, k, g, ho, hk⟩ => ?_
  cases q1 : r.dat e with
  | none => rw [q1] at ho; exact ho.elim
  | some dd =>
    rw [q1] at ho
    cases dd <;> try exact ho.elim
    rename_i cc fs
    have ho : Out K adr PN W B F1 σ ((r, x) :: ts) (match fs.lookup f with
      | some d => if (G.flds cc).contains f then .ok (.v d) e else .bad
      | none => (match G.prop cc f with
        | some q => (match r with
          | .v d => if G.hot then .bad else (match call q [.v d] with | .ok (.v d') [] => .ok (.v d') e | _ => .bad)
          | _ => .bad)
        | none => .bad)) k := ho
    obtain ⟨aa, dx, vs, ex, ha0, hr0⟩ := (TAt.viewH g List.mem_cons_self q1).ins g.sf
    have ex : x = .ref aa := ex
    subst ex
    obtain rfl : u = Value.ref aa := rx
    cases q2 : fs.lookup f with
    | some d =>
      rw [q2] at ho
      have ho : Out K adr PN W B F1 σ ((r, V.ref aa) :: ts) (if (G.flds cc).contains f then .ok (.v d) e else .bad) k := ho
      split at ho
      · rename_i hfl
        obtain ⟨hcl, na⟩ := hf.flds cc f (by simpa using hfl)
        have hC : Cls X.K (adr cc) := by rw [hX.hK]; exact (hf.cl.own cc hcl).cls
        obtain ⟨v, l, rv⟩ := RepF.some hr0 q2
        refine getattr_ok I1 ha0 hC (by rw [hX.hK]; exact na) l fun u' s2 I2 ru => ⟨v, H1, I2, ru, ?_⟩
        exact hk _ _ ho v H1 F1 Same.rfl' (g.pop.data rv)
      · exact ho.elim
    | none =>
      rw [q2] at ho
      have ho : Out K adr PN W B F1 σ ((r, V.ref aa) :: ts) (match G.prop cc f with
        | some q => (match r with
          | .v d => if G.hot then .bad else (match call q [.v d] with | .ok (.v d') [] => .ok (.v d') e | _ => .bad)
          | _ => .bad)
        | none => .bad) k := ho
      cases q3 : G.prop cc f with
      | none => rw [q3] at ho; exact ho.elim
      | some qq =>
        rw [q3] at ho
        cases r with
        | own _ => exact ho.elim
        | sl _ => exact ho.elim
        | v dv =>
          cases q1
          have ho : Out K adr PN W B F1 σ ((R.v (.ins cc fs), V.ref aa) :: ts) (if G.hot then .bad else match call qq [.v (.ins cc fs)] with | .ok (.v d') [] => .ok (.v d') e | _ => .bad) k := ho
          have rep : Rep K adr F1 (.ins cc fs) (.ref aa) := g.tm _ List.mem_cons_self
          split at ho
          · exact ho.elim
          rename_i hh
          have hh : G.hot = false := by simpa using hh
          obtain ⟨hcl, pa, hP⟩ := hf.prop _ _ _ q3
          have hP : PropOf X.K (adr cc) f pa (adr qq) := by rw [hX.hK]; exact hP
          have hC : Cls X.K (adr cc) := by rw [hX.hK]; exact (hf.cl.own cc hcl).cls
          cases q4 : call qq [.v (.ins cc fs)] with
          | bad => rw [q4] at ho; exact ho.elim
          | exc _ _ => rw [q4] at ho; exact ho.elim
          | ok r2 os =>
            rw [q4] at ho
            cases r2 with
            | own _ => exact ho.elim
            | sl _ => exact ho.elim
            | v d2 =>
              cases os with
              | cons _ _ => exact ho.elim
              | nil =>
                have hr : callR (call qq) [R.v (.ins cc fs)] e = .ok (.v d2) e := by
                  show (if ndN [] = true then (match call qq [S.v (.ins cc fs)] with
                    | .ok (.sl _) _ => Rs.bad
                    | .ok r os => if os.length = borN [S.v (.ins cc fs)] then .ok r (back [R.v (.ins cc fs)] (argsE [S.v (.ins cc fs)] os) e) else .bad
                    | .exc x gs => .exc x gs (lose [R.v (.ins cc fs)] [S.v (.ins cc fs)] e)
                    | .bad => .bad) else .bad) = _
                  rw [q4]
                  rfl
                have ho2 : Out K adr PN (fun _ _ _ _ => False) B F1 σ ((R.v (.ins cc fs), V.ref aa) :: ts) (callR (call qq) [R.v (.ins cc fs)] e) (fun r e0 => r = .v d2 ∧ e0 = e) := by
                  rw [hr]; exact ⟨rfl, rfl⟩
                obtain ⟨ss, hl2, hst, _, hend⟩ := call_sp (rs := [R.v (.ins cc fs)]) (vs := [V.ref aa]) (Q := Q) (g.data rep) rfl ho2 (fun r e0 z v H' F' sf gg => by
                  obtain ⟨rfl, rfl⟩ := z
                  exact hk _ _ ho v H' F' sf ((gg.perm (List.Perm.swap _ _ _)).pop))
                have nb : call qq ss ≠ .bad := fun z => by rw [z] at hend; exact hend
                obtain ⟨f2, hfn, h1, h2⟩ := hf.ar qq ss nb
                obtain ⟨fd, FQ, FB⟩ := hf.fnk qq f2 hfn
                obtain ⟨ds, dvs, hb, hd, hdr⟩ := FB ss.length h1 h2
                have h3 := hdr.length
                unfold fillD at h3
                rw [List.length_drop] at h3
                have FO : FnOk X.prog X.w X.K X.mg X.base (L2N.CX X.prog X.w) lv (adr qq) fd f2.ps (spC K adr call qq f2) := by
                  rw [hX.hP, hX.hw, hX.hK, hX.hm, hX.hb]; exact FQ.ok hh
                have hl2 : ss.length = 1 := hl2
                exact getprop_ok I1 ha0 hC hP FO (hX.roomC hh) (by rw [hX.hK]; exact hb) hd passNo (sp_fill (vs := [V.ref aa]) (by simp; omega) hl2 hdr hst hend)
end
end Ky
end
section
set_option Elab.async false
set_option linter.all false
set_option maxRecDepth 100000
set_option maxHeartbeats 1000000
/-! Ky, part P: constants, built-ins, isinstance; a caught error; dicts of the module. -/
namespace Ky
open PySem PySem.Spec PyProof.Rows L2
section
variable {P : Program} {w : World} {K : PySem.W.Frag} {mg : Str → Option Value} {base : Heap} {adr : Str → Addr} {G : GT} {fn : Str → Option Fn} {call : Str → List S → CR} {lv : Nat} {c : Cf} {PN : Addr → Addr → Option Addr → Prop} {W : WX} {X : Cx}
variable {a b d : Ex} {es : Exs} {p q r : Expr} {ps : List Expr} {pos pos2 pos3 pos4 : Pos}
variable {B F F' H H' : Hp} {env e1 : Env} {σ : St} {ts : List (R × V)}

theorem re_ccon {x f : Str} (hf : Facts P w K mg base adr G fn call lv) (hX : XOk P w K mg base G lv c PN W X) (hg : Gl X x) (h1 : (x == ("__debug__" : Str)) = false) (hc : (G.ccon x f).isSome = true) : PE X (.Attribute (.Name x pos2) f pos) (RE K adr G call PN W (.ccon x f)) := by
  obtain ⟨d, hd⟩ := Option.isSome_iff_exists.mp hc
  obtain ⟨m1, mc, v, u, h3, h4, h5⟩ := hf.ccon x f d hd
  refine PE.im (ClX.pe_cval (pe_glob (v := .ref (adr x)) (u := .ref (adr x)) hg (by rw [hX.hm]; exact m1) rfl h1) rfl) ?_
  rintro σ H Q ⟨B, F, env, ts, hs, ho⟩
  rw [ev, hd] at ho
  rw [hX.hK]
  exact ⟨adr x, mc, v, u, rfl, h3, h4, ho v H F Same.rfl' (hs.data (Rep.mono same0 _ _ h5))⟩
theorem views_of : ∀ {rs : List R} {vs : List V} {ds : List D}, rs.length = vs.length → StT K adr PN B F env σ H (rs.zip vs ++ ts) → rs.mapM (R.dat env) = some ds → Views K adr F H ds vs
  | [], [], _, _, _, e => by cases e; rfl
  | [], _ :: _, _, l, _, _ => by simp at l
  | _ :: _, [], _, l, _, _ => by simp at l
  | r :: rs, v :: vs, ds, l, h, e => by
    rw [List.mapM_cons] at e
    cases q1 : r.dat env with
    | none => rw [q1] at e; cases e
    | some d =>
      cases q2 : rs.mapM (R.dat env) with
      | none => rw [q1, q2] at e; cases e
      | some cs =>
        rw [q1, q2] at e
        cases e
        exact ⟨v, vs, rfl, TAt.viewH (t := (r, v)) h List.mem_cons_self q1, views_of (by simpa using l) (StT.pop (t := (r, v)) h) q2⟩
theorem re_bi {bb : Bi} {x : Str} (hX : XOk P w K mg base G lv c PN W X) (hg : Gl X x) (hm : mg x = none) (hx : x = biN bb) (ha : PA X (p :: ps) (RA K adr G call PN W es)) (hn : (p :: ps).all notStar = true) :
    PE X (.Call (.Name x pos2) (p :: ps) [] pos) (RE K adr G call PN W (.bi bb es)) := by
  subst hx
  rw [List.all_cons, Bool.and_eq_true] at hn
  by_cases hh : (G.hot && !hotB bb) = true
  · refine ⟨fun pins s σ H Q I h => ?_⟩
    obtain ⟨B, F, env, ts, hs, ho⟩ := h
    rw [ev, if_pos hh] at ho
    exact ho.elim
  · have hc : hotB bb = false → X.calm = true := fun z => hX.calm (by rw [z] at hh; simpa using hh)
    have hr := biR (X := X) (adr := adr) bb hc
    have hm : X.mg (biN bb) = none := by rw [hX.hm]; exact hm
    have hv := boot_bi bb
    have key : PE X (.Call (.Name (biN bb) pos2) (p :: ps) [] pos) (tCB (rBi X.K adr bb) (RA K adr G call PN W es)) := by
      revert hr hv hm hg
      cases bb <;> intro hg hr hm hv <;> first | exact pe_callB hr hg hm hv ha (by decide) (by decide) (star_ok hn.1) (star_any hn.2) | exact pe_callTy hr hg hm hv ha (by decide) (by decide) (star_ok hn.1) (star_any hn.2)
    refine PE.im key ?_
    rintro σ H Q ⟨B, F, env, ts, hs, ho⟩
    rw [ev, if_neg hh] at ho
    refine ⟨B, F, env, ts, hs, seqA ho fun rs e vs H1 F1 s1 l g ho => ?_⟩
    cases q1 : rs.mapM (R.dat e) with
    | none => rw [q1] at ho; exact ho.elim
    | some ds =>
      rw [q1] at ho
      obtain ⟨r, e2, hk⟩ := of_some ho
      rw [hX.hK]
      exact ⟨F1, ds, r, g.sf, views_of l g q1, e2, endV (ts := ts) g (fun g => g.popN) fun v H' F' s g => hk v H' F' (s1.trans s) g⟩
/-! isinstance -/
/-- the name of a class, as written -/
def tyName : Ty → Str | .ty n => n | .cl c => c
theorem pe_tyN {t : Ty} (hX : XOk P w K mg base G lv c PN W X) (hg : Gl X (tyName t)) (hm : match t with | .ty n => mg n = none ∧ bootBuiltins n = some (.type n) ∧ (n : Str) ≠ "__name__" | .cl c => mg c = some (.ref (adr c))) (h1 : (tyName t == ("__debug__" : Str)) = false) :
    PE X (.Name (tyName t) pos) (tC (tyV' adr t)) := by
  cases t with
  | ty n => exact pe_bltn hg (by rw [hX.hm]; exact hm.1) hm.2.1 rfl hm.2.2 h1
  | cl c => exact pe_glob (v := .ref (adr c)) hg (by rw [hX.hm]; exact hm) rfl h1
theorem re_isi {t : Ty} (hf : Facts P w K mg base adr G fn call lv) (hX : XOk P w K mg base G lv c PN W X) (hg : Gl X "isinstance") (hm : mg "isinstance" = none) (ha : PE X q (RE K adr G call PN W a)) (hn : notStar q = true) (ht : PE X r (tC (tyV' adr t))) (hn2 : notStar r = true) :
    PE X (.Call (.Name "isinstance" pos2) [q, r] [] pos) (RE K adr G call PN W (.isi a t)) := by
  have C : ClFact X.K adr G := by rw [hX.hK]; exact hf.cl
  refine PE.im (pe_callB (isiR C t) hg (by rw [hX.hm]; exact hm) (by decide +kernel) (pa_cons ha (pa_cons ht pa_nil (star_ok hn2)) (star_ok hn)) (by decide) (by decide) (star_ok hn) (star_any (by rw [List.all_cons, hn2]; rfl))) ?_
  rintro σ H Q ⟨B, F, env, ts, hs, ho⟩
  rw [ev] at ho
  refine ⟨B, F, env, ts, hs, seq1 ho fun r1 e v H1 F1 s1 g ho => ?_⟩
  obtain ⟨d, q1, ho⟩ := dat_some ho
  obtain ⟨k, e2, hk⟩ := of_some ho
  cases q2 : isiT G.cl G.sub d t with
  | none => rw [q2] at e2; cases e2
  | some bb =>
    rw [q2] at e2
    cases e2
    rw [hX.hK]
    exact ⟨F1, d, bb, v, rfl, g.sf, TAt.viewH g List.mem_cons_self q1, q2, hk _ H1 F1 s1 (g.pop.data rfl)⟩
/-- names of classes, a display of them -/
def tCs (vs : List V) : TA := fun _ H Q => Q vs H
theorem pa_cs_nil : PA X [] (tCs []) := PA.im pa_nil fun _ _ _ q => q
theorem pa_cs {v : V} {vs : List V} (h : PE X p (tC v)) (hr : PA X ps (tCs vs)) (hn : notStar p = true) : PA X (p :: ps) (tCs (v :: vs)) := PA.im (pa_cons h hr (star_ok hn)) fun _ _ _ q => q
theorem re_isis {l : List Ty} {n : Nat} (hf : Facts P w K mg base adr G fn call lv) (hX : XOk P w K mg base G lv c PN W X) (hg : Gl X "isinstance") (hm : mg "isinstance" = none) (ha : PE X q (RE K adr G call PN W a)) (hn : notStar q = true) (ht : PA X ps (tCs (l.map (tyV' adr)))) (hl : l.length ≤ 100) (hne : l ≠ []) :
    PE X (.Call (.Name "isinstance" pos2) [q, .Tuple ps n pos3] [] pos) (RE K adr G call PN W (.isis a l)) := by
  have C : ClFact X.K adr G := by rw [hX.hK]; exact hf.cl
  refine PE.im (pe_callB (isiR2 C l) hg (by rw [hX.hm]; exact hm) (by decide +kernel) (pa_cons ha (pa_cons (pe_tup ht) pa_nil (star_ok rfl)) (star_ok hn)) (by decide) (by decide) (star_ok hn) rfl) ?_
  rintro σ H Q ⟨B, F, env, ts, hs, ho⟩
  rw [ev] at ho
  refine ⟨B, F, env, ts, hs, seq1 ho fun r1 e v H1 F1 s1 g ho => ?_⟩
  obtain ⟨d, q1, ho⟩ := dat_some ho
  cases q2 : l.mapM (isiT G.cl G.sub d) with
  | none => rw [q2] at ho; exact ho.elim
  | some bs =>
    rw [q2] at ho
    refine ⟨by rw [List.length_map, sizeLine_eq]; omega, fun p hp => ?_⟩
    have nw : New K adr F1 H1 (upd F1 p (.tup (l.map (tyV' adr)))) (upd H1 p (.tup (l.map (tyV' adr)))) (.v .non) .non := New.frz g.sf hp rfl
    have g2 := g.grow nw.sh nw.sf nw.sfh nw.nf
    rw [hX.hK]
    exact ⟨_, d, bs, v, p, rfl, upd_same, g2.sf, TAt.viewH g2 List.mem_cons_self q1, hne, q2, ho _ _ _ (s1.trans nw.sf) (g2.pop.data rfl)⟩
end
end Ky
end
section
set_option Elab.async false
set_option linter.all false
set_option maxRecDepth 100000
set_option maxHeartbeats 1000000
/-! Ky, part Q: [::-1]; a caught error; dicts of the module; calls with keywords. -/
namespace Ky
open PySem PySem.Spec PyProof.Rows L2
section
variable {P : Program} {w : World} {K : PySem.W.Frag} {mg : Str → Option Value} {base : Heap} {adr : Str → Addr} {G : GT} {fn : Str → Option Fn} {call : Str → List S → CR} {lv : Nat} {c : Cf} {PN : Addr → Addr → Option Addr → Prop} {W : WX} {X : Cx}
variable {a b d : Ex} {es : Exs} {p q r : Expr} {ps : List Expr} {pos pos2 pos3 pos4 : Pos}
variable {B F F' H H' : Hp} {env e1 : Env} {σ : St} {ts : List (R × V)}

theorem re_rev {k : Nat} (hX : XOk P w K mg base G lv c PN W X) (ha : PE X q (RE K adr G call PN W a)) :
    PE X (.Subscript q (.Slice none none (some (.UnaryOp .USub (.Constant (.int 1) k pos2) pos3)) pos4) pos) (RE K adr G call PN W (.rev a)) := by
  refine PE.im (pe_revA ha) ?_
  rintro σ H Q ⟨B, F, env, ts, hs, ho⟩
  rw [ev] at ho
  refine ⟨B, F, env, ts, hs, seq1 ho fun r1 e v H1 F1 s1 g ho => ?_⟩
  rw [hX.hK]
  cases q1 : r1.dat e with
  | none => rw [q1] at ho; exact ho.elim
  | some d =>
    rw [q1] at ho
    cases d <;> try exact ho.elim
    · obtain ⟨a, vs, rfl, m, r1⟩ := (TAt.viewH g List.mem_cons_self q1).tup g.sf
      exact ⟨a, vs, rfl, .inr ⟨m, fun p hp => ho _ _ _ (s1.trans (New.tup g.sf hp (RepL.rev r1)).sf) (g.pop.push (New.tup g.sf hp (RepL.rev r1)))⟩⟩
    · obtain ⟨a, vs, rfl, m, r1⟩ := (TAt.viewH g List.mem_cons_self q1).lst g.sf
      exact ⟨a, vs, rfl, .inl ⟨.of m, fun p hp => ho _ _ _ s1 (g.pop.push (New.lst g.sf hp (RepL.rev r1)))⟩⟩
/-! a caught error -/
/-- where it stands -/
theorem x_at {i : Nat} {cc : Str} {fs : List (Str × D)} {pins : List (Addr × Obj)} {s : Shared} (hX : XOk P w K mg base G lv c PN W X) (I : Inv X pins σ H s) (hs : StT K adr PN B F env σ H ts) (e : env[i]? = some (some (.x cc fs))) :
    ∃ a d oe, σ[i]? = some (some (.ref a)) ∧ s.heap.get? a = some oe ∧ Zc (.ref (adr cc)) d oe ∧ (∃ vs, oe.data = .fields vs) ∧ (match d with | none => fs = [] | some d => ∃ vs, F d = some (.xd vs) ∧ RepF K adr F fs vs) := by
  obtain ⟨v, h1, a, d, rfl, h2, h3⟩ := hs.sl i _ e
  obtain ⟨oe, g1, g2, g3⟩ := hX.pnk a _ d h2
  exact ⟨a, d, oe, h1, (I.pin (a, oe) (List.mem_append_left _ g1)).1, g2.zc, g3, h3⟩
theorem re_efld {i : Nat} {x f : Str} (hf : Facts P w K mg base adr G fn call lv) (hX : XOk P w K mg base G lv c PN W X) (hN : c.N[i]? = some x) (hv : Vis c.sc x) (h1 : (x == ("__debug__" : Str)) = false) (h2 : (x == ("__classdict__" : Str)) = false) :
    PE X (.Attribute (.Name x pos2) f pos) (RE K adr G call PN W (.efld i f)) := by
  refine ⟨fun pins s σ H Q I h => ?_⟩
  obtain ⟨B, F, env, ts, hs, ho⟩ := h
  rw [ev] at ho
  split at ho
  · rename_i cc fs e0
    split at ho
    · rename_i l hl
      split at ho
      · rename_i hm
        obtain ⟨d, e, hk⟩ := of_some ho
        cases hd : fs.lookup f with
        | none => rw [hd] at e; cases e
        | some dd =>
          rw [hd] at e
          cases e
          obtain ⟨a0, _, _, hσ, _⟩ := x_at hX I hs e0
          refine attr_of rfl (thn ((pe_var (pos := pos2) (by rw [hX.hN]; exact hN) (by rw [hX.hs]; exact hv) h1 h2).run pins s σ H (fun v H1 => v = .ref a0 ∧ H1 = H) I ⟨.ref a0, hσ, rfl, rfl⟩) fun u s1 ⟨v, H1, I1, r1, q1⟩ => ?_)
          obtain ⟨rfl, rfl⟩ := q1
          cases r1
          obtain ⟨a1, dx, oe, hσ1, hget, hz, ⟨vs, hdat⟩, hfs⟩ := x_at hX I1 hs e0
          rw [hσ] at hσ1; cases hσ1
          cases dx with
          | none => rw [show fs = [] from hfs] at hd; cases hd
          | some dx =>
            obtain ⟨vs2, hxd, hr⟩ := hfs
            obtain ⟨v, lv, rv⟩ := RepF.some hr hd
            obtain ⟨T, hno, _⟩ := hf.exk cc l hl
            have hno := hno f (by simpa using hm)
            rw [← hX.hK] at T hno
            have hx : ObjOk X.prog X.w H1 s1.heap dx (.xd vs2) := I1.hok dx _ (hs.sf _ _ hxd)
            obtain ⟨mA, hns, hr2⟩ := hx
            obtain ⟨od, hod, hlk⟩ := lookIn_ns hns
            obtain ⟨u, hu, ru⟩ := RelO.some_of (v := v) (o := mA f) (by rw [← lv]; exact hr2 f)
            have J : PySem.W.InstAt s1.heap a0 oe (adr cc) (some od) := ⟨hget, hz.1, by unfold PySem.W.notCls; rw [hdat] <;> rfl, by rw [hz.2]; exact hod⟩
            exact HandSPX.exc_get I1.kIn J T.ga T.gg T.exC (PySem.W.findObj_own T.hdC hno rfl (by rw [hlk, hu])) (handed_of ru) ⟨v, H1, I1.tok _, ru, hk _ H1 F Same.rfl' (hs.data rv)⟩
      · exact ho.elim
    · exact ho.elim
  · exact ho.elim
/-- as an instance -/
theorem x_inst {i : Nat} {cc : Str} {fs : List (Str × D)} {pins : List (Addr × Obj)} {s : Shared} (hX : XOk P w K mg base G lv c PN W X) (I : Inv X pins σ H s) (hs : StT K adr PN B F env σ H ts) (e : env[i]? = some (some (.x cc fs))) :
    ∃ a oe od, σ[i]? = some (some (.ref a)) ∧ PySem.W.InstAt s.heap a oe (adr cc) od := by
  obtain ⟨a, d, oe, h1, hget, hz, ⟨vs, hdat⟩, hfs⟩ := x_at hX I hs e
  obtain ⟨oc, ob, oda, osl⟩ := oe
  obtain ⟨z1, z2⟩ := hz
  dsimp only at z1 z2 hdat
  subst z1 z2 hdat
  cases ob with
  | none => exact ⟨a, _, none, h1, hget, rfl, rfl, trivial⟩
  | some d =>
    obtain ⟨vs2, hxd, _⟩ := hfs
    have hx : ObjOk X.prog X.w H s.heap d (.xd vs2) := I.hok d _ (hs.sf _ _ hxd)
    obtain ⟨mA, hns, _⟩ := hx
    obtain ⟨od, hod, _⟩ := lookIn_ns hns
    exact ⟨a, _, some od, h1, hget, rfl, rfl, hod⟩
/-- isinstance(e, C), e the caught error: as a call -/
def rIE (K : PySem.W.Frag) (adr : Str → Addr) (G : GT) (cc : Str) (a : Addr) (tv : V) (b : Bool) : List V → Hp → VK → Prop := fun xs H Q => xs = [.ref a, tv] ∧ Q (.bl b) H
theorem re_eisi {i : Nat} {x t : Str} (hf : Facts P w K mg base adr G fn call lv) (hX : XOk P w K mg base G lv c PN W X) (hN : c.N[i]? = some x) (hv : Vis c.sc x) (h1 : (x == ("__debug__" : Str)) = false) (h2 : (x == ("__classdict__" : Str)) = false) (hg : Gl X "isinstance") (hm : mg "isinstance" = none) (ht : Gl X t) (h3 : (t == ("__debug__" : Str)) = false) :
    PE X (.Call (.Name "isinstance" pos2) [.Name x pos3, .Name t pos4] [] pos) (RE K adr G call PN W (.eisi i t)) := by
  refine ⟨fun pins s σ H Q I h => ?_⟩
  obtain ⟨B, F, env, ts, hs, ho⟩ := h
  rw [ev] at ho
  split at ho
  · rename_i cc fs e0
    split at ho
    · rename_i hc
      rw [Bool.and_eq_true] at hc
      obtain ⟨l, hl⟩ := Option.isSome_iff_exists.mp hc.1
      have htm : t ∈ G.xcl := by simpa using hc.2
      obtain ⟨a0, _, _, hσ, _⟩ := x_inst hX I hs e0
      have hcall : ∀ (pins : List (Addr × Obj)) (s : Shared) (us : List Value) (Q : VK), Inv X pins σ H s → us = [.ref a0, .ref (adr t)] → Q (.bl (G.sub cc t)) H → wpAny (model X.prog X.w) X.A (PySem.call (.builtin "isinstance") us) (EP X pins σ Q) X.xe s := fun pins s us Q I e q => by
        subst e
        obtain ⟨a1, oe, od, hσ1, J⟩ := x_inst hX I hs e0
        rw [hσ] at hσ1; cases hσ1
        obtain ⟨T, _, g1, g2, g3, g4, g5⟩ := hf.exk cc l hl
        have hk := hf.exo cc l t hl htm
        rw [← hX.hK] at T g1 g2 g3 g4 g5 hk
        exact PySem.W.kia_one (PySem.W.kitx_exc g1 T.ga T.gg T.exC g2 g3 g4 g5) I.kIn J hk (fun z => nomatch z) fun tk => ⟨.bl _, H, I.kept (t' := tk) fun _ _ z => z, rfl, q⟩
      have hN := hN; rw [← hX.hN] at hN
      have hv := hv; rw [← hX.hs] at hv
      refine wpAny_Call_Name_kw (ld_blt I hg (by rw [hX.hm]; exact hm) (show bootBuiltins "isinstance" = some (.builtin "isinstance") by decide +kernel) ?_ (by decide) (by decide))
      refine PyProof.Rows.callWith_builtin1 (thn ((pa_cons (pe_var (pos := pos3) hN hv h1 h2) (pa_cons (pe_glob (pos := pos4) (v := .ref (adr t)) (u := .ref (adr t)) ht (by rw [hX.hm]; exact hf.xcm t htm) rfl h3) pa_nil (star_ok rfl)) (star_ok rfl)).run pos pins s σ H (fun vs H1 => vs = [.ref a0, .ref (adr t)] ∧ H1 = H) I ⟨.ref a0, hσ, rfl, rfl⟩) fun us s1 ⟨vs, H1, I1, r1, q1⟩ => ?_) (star_ok rfl) rfl
      obtain ⟨rfl, rfl⟩ := q1
      refine hcall pins s1 us Q I1 ?_ (ho _ H1 F Same.rfl' (hs.data rfl))
      obtain ⟨u1, u2, rfl, r1, r2⟩ := vals2 r1
      rw [show u1 = Value.ref a0 from r1, show u2 = Value.ref (adr t) from r2]
    · exact ho.elim
  · exact ho.elim
/-! dicts of the module -/
theorem re_cdx {x : Str} (hf : Facts P w K mg base adr G fn call lv) (hX : XOk P w K mg base G lv c PN W X) (hg : Gl X x) (h1 : (x == ("__debug__" : Str)) = false) (hx : (G.dct x).isSome = true) (ha : PE X q (RE K adr G call PN W a)) (hi : ixPlain q = true) :
    PE X (.Subscript (.Name x pos2) q pos) (RE K adr G call PN W (.cdx x a)) := by
  obtain ⟨kvs, hk⟩ := Option.isSome_iff_exists.mp hx
  obtain ⟨p, m1, m2⟩ := hf.dct x kvs hk
  refine PE.im (pe_ix ix_kdict (pe_glob (v := .ref p) (u := .ref p) hg (by rw [hX.hm]; exact m1) rfl h1) ha (plainIx_ok hi)) ?_
  rintro σ H Q ⟨B, F, env, ts, hs, ho⟩
  rw [ev] at ho
  refine ⟨B, F, env, ts, hs, seq1 ho fun r1 e v H1 F1 s1 g ho => ?_⟩
  rw [hX.hK, hX.hw]
  rw [hk] at ho
  cases q1 : r1.dat e with
  | none => rw [q1] at ho; exact ho.elim
  | some d =>
    rw [q1] at ho
    cases d <;> try exact ho.elim
    rename_i z
    have hv := (TAt.viewH g List.mem_cons_self q1).str
    have hv : v = .str z := hv
    obtain ⟨r, e2, hk2⟩ := of_some ho
    cases q2 : kvs.lookup z with
    | none => rw [q2] at e2; cases e2
    | some d2 =>
      rw [q2] at e2
      cases e2
      obtain ⟨v2, k1, k2⟩ := m2 z d2 q2
      exact ⟨p, z, v2, rfl, hv, k1, hk2 _ H1 F1 s1 (g.pop.data (Rep.mono same0 _ _ k2))⟩
end
end Ky
end
section
set_option Elab.async false
set_option linter.all false
set_option maxRecDepth 100000
set_option maxHeartbeats 1000000
/-! Ky, part R: a caught error and several classes; calls with keywords; methods of lists. -/
namespace Ky
open PySem PySem.Spec PyProof.Rows L2
section
variable {P : Program} {w : World} {K : PySem.W.Frag} {mg : Str → Option Value} {base : Heap} {adr : Str → Addr} {G : GT} {fn : Str → Option Fn} {call : Str → List S → CR} {lv : Nat} {c : Cf} {PN : Addr → Addr → Option Addr → Prop} {W : WX} {X : Cx}
variable {a b d : Ex} {es : Exs} {p q r : Expr} {ps : List Expr} {pos pos2 pos3 pos4 : Pos}
variable {B F F' H H' : Hp} {env e1 : Env} {σ : St} {ts : List (R × V)}

theorem mapM_sub {cc : Str} : ∀ {l : List Str}, l.all G.xcl.contains = true → (l.map Ty.cl).mapM (fun t => match t with | .cl t => if G.xcl.contains t then some (G.sub cc t) else none | _ => none) = some (l.map (G.sub cc))
  | [], _ => rfl
  | t :: l, h => by
    rw [List.all_cons, Bool.and_eq_true] at h
    rw [List.map_cons, List.mapM_cons, mapM_sub h.2]
    simp only [h.1, if_true]
    rfl
theorem re_eisis {i : Nat} {x : Str} {l : List Str} {n : Nat} {pos5 : Pos} (hf : Facts P w K mg base adr G fn call lv) (hX : XOk P w K mg base G lv c PN W X) (hN : c.N[i]? = some x) (hv : Vis c.sc x) (h1 : (x == ("__debug__" : Str)) = false) (h2 : (x == ("__classdict__" : Str)) = false) (hg : Gl X "isinstance") (hm : mg "isinstance" = none)
    (ht : (l.all G.xcl.contains) = true → PA X ps (tCs (l.map fun t => .ref (adr t)))) (hl : l.length ≤ 100) :
    PE X (.Call (.Name "isinstance" pos2) [.Name x pos3, .Tuple ps n pos5] [] pos) (RE K adr G call PN W (.eisis i l)) := by
  refine ⟨fun pins s σ H Q I h => ?_⟩
  obtain ⟨B, F, env, ts, hs, ho⟩ := h
  rw [ev] at ho
  split at ho
  · rename_i cc fs e0
    split at ho
    · rename_i hc
      rw [Bool.and_eq_true] at hc
      have ht := ht hc.2
      obtain ⟨le, hle⟩ := Option.isSome_iff_exists.mp hc.1
      obtain ⟨a0, _, _, hσ, _⟩ := x_inst hX I hs e0
      have hN := hN; rw [← hX.hN] at hN
      have hv := hv; rw [← hX.hs] at hv
      refine wpAny_Call_Name_kw (ld_blt I hg (by rw [hX.hm]; exact hm) (show bootBuiltins "isinstance" = some (.builtin "isinstance") by decide +kernel) ?_ (by decide) (by decide))
      refine PyProof.Rows.callWith_builtin1 (thn ((pa_cons (pe_var (pos := pos3) hN hv h1 h2) (pa_cons (pe_tup ht) pa_nil (star_ok rfl)) (star_ok rfl)).run pos pins s σ H (fun vs H1 => ∃ p, H p = none ∧ vs = [.ref a0, .ref p] ∧ H1 = upd H p (.tup (l.map fun t => V.ref (adr t)))) I
        ⟨.ref a0, hσ, by rw [List.length_map, sizeLine_eq]; omega, fun p hp => ⟨p, hp, rfl, rfl⟩⟩) fun us s1 ⟨vs, H1, I1, r1, p, hp, q1, q2⟩ => ?_) (star_ok rfl) rfl
      subst q1 q2
      obtain ⟨u1, u2, rfl, r1, r2⟩ := vals2 r1
      rw [show u1 = Value.ref a0 from r1, show u2 = Value.ref p from r2]
      have nw : New K adr F H (upd F p (.tup (l.map fun t => V.ref (adr t)))) (upd H p (.tup (l.map fun t => V.ref (adr t)))) (.v .non) .non := New.frz hs.sf hp rfl
      have g2 := hs.grow nw.sh nw.sf nw.sfh nw.nf
      obtain ⟨a1, oe, od, hσ1, J⟩ := x_inst hX I1 g2 e0
      rw [hσ] at hσ1; cases hσ1
      obtain ⟨T, _, g1, g3, g4, g5, g6⟩ := hf.exk cc le hle
      have hk : PySem.W.kitAny X.K (.ref (adr cc)) ((l.map Ty.cl).map (tyVal adr)) = some ((l.map (G.sub cc)).any _root_.id) := by
        refine kit_many (fun t b e => ?_) (mapM_sub hc.2)
        cases t with
        | ty _ => cases e
        | cl t =>
          obtain ⟨z, rfl⟩ := ite_some e
          rw [hX.hK]
          exact hf.exo cc le t hle (by simpa using z)
      rw [← hX.hK] at T g1 g3 g4 g5 g6
      obtain ⟨_, its, rv, o, k1, k2, n, k3⟩ := (show ObjOk X.prog X.w _ s1.heap p (.tup (l.map fun t => V.ref (adr t))) from I1.hok p _ upd_same)
      have ei : its = (l.map Ty.cl).map (tyVal adr) := by
        have pr : Paired ClsV (l.map fun t => V.ref (adr t)) ((l.map Ty.cl).map (tyVal adr)) := by
          have := paired_ty (adr := adr) (l.map Ty.cl)
          rw [List.map_map] at this
          exact this
        exact ClsV.all pr rv
      subst ei
      obtain ⟨oc, ob, dt, sl⟩ := o
      simp only at k2 k3
      subst k2 k3
      have e3 : (l.map (G.sub cc)).any _root_.id = l.any (G.sub cc) := by rw [List.any_map]; rfl
      rw [e3] at hk
      exact PySem.W.kia_tup (PySem.W.kitx_exc g1 T.ga T.gg T.exC g3 g4 g5 g6) I1.kIn J k1 hk (fun z => nomatch z) fun tk => ⟨.bl _, _, I1.kept (t' := tk) fun _ _ z => z, rfl, ho _ _ _ nw.sf (g2.data rfl)⟩
    · exact ho.elim
  · exact ho.elim
/-! keywords -/
theorem kw_names {pos : Pos} {env : PySem.Env} : ∀ {kws : List Keyword}, (backToKw pos (keywordEach kws env)).map (·.1) = kws.map (·.arg)
  | [] => rfl
  | ⟨n, v, _⟩ :: kws => by
    show n :: (backToKw pos (keywordEach kws env)).map (·.1) = n :: kws.map (·.arg)
    rw [kw_names]
theorem evalArgs_kws {M : Model} {A : Around} {E : Value → Shared → Prop} {s : Shared} {f : Value} {args : List (Bool × Sem Value)} {kws : List (Option Str × Sem Value)} {Q : Args → Shared → Prop} (hp : args.any (·.1) = false) (hall : kws.all (·.1.isSome) = true)
    (h : wpAny M A (spliced args) (fun vs s' => wpAny M A (evalAll (kws.map (·.2))) (fun ws s2 => Q ⟨vs, (kws.filterMap (·.1)).zip ws⟩ s2) E s') E s) : wpAny M A (evalArgs f true args kws) Q E s := by
  cases args with
  | nil =>
    unfold evalArgs
    show wpAny M A (spliced [] >>= _) Q E s
    refine wpAny_bind (wpAny_mono h (fun vs s' h' => wpAny_bind (wpAny_pure ?_)) fun _ _ x => x)
    refine wpAny_holding ?_
    rw [if_pos hall]
    refine wpAny_bind (wpAny_mono h' (fun ws s2 h2 => ?_) fun _ _ x => x)
    exact wpAny_bind (wpAny_pure (wpAny_pure h2))
  | cons x rest =>
    obtain ⟨b, x⟩ := x
    rw [List.any_cons, Bool.or_eq_false_iff] at hp
    obtain ⟨rfl, _⟩ : b = false ∧ _ := hp
    unfold evalArgs
    show wpAny M A (spliced ((false, x) :: rest) >>= _) Q E s
    refine wpAny_bind (wpAny_mono h (fun vs s' h' => wpAny_bind (wpAny_pure ?_)) fun _ _ x => x)
    refine wpAny_holding ?_
    rw [if_pos hall]
    refine wpAny_bind (wpAny_mono h' (fun ws s2 h2 => ?_) fun _ _ x => x)
    exact wpAny_bind (wpAny_pure (wpAny_pure h2))
/-! lists, changed -/
def muN : Bm → Str | .append => "append" | .pop => "pop" | .popAt => "pop" | .insert => "insert" | .extend => "extend" | .clear => "clear" | .reverse => "reverse"
def muI : Bm → String | .append => "list.append" | .pop => "list.pop" | .popAt => "list.pop" | .insert => "list.insert" | .extend => "list.extend" | .clear => "list.clear" | .reverse => "list.reverse"
def rMu (K : PySem.W.Frag) (adr : Str → Addr) (m : Bm) : V → List V → Hp → VK → Prop := fun x us H Q => ∃ l vs F xs ds ys d, x = .ref l ∧ H l = some (.lst vs) ∧ Same F H ∧ RepL K adr F xs vs ∧ RepL K adr F ds us ∧ mutD m xs ds = some (ys, d) ∧
  ∀ v ws, RepL K adr F ys ws → Rep K adr F d v → Q v (upd H l (.lst ws))
theorem RepL.erase : ∀ {ds : List D} {vs : List V} (i : Nat), RepL K adr F ds vs → RepL K adr F (ds.eraseIdx i) (vs.eraseIdx i)
  | [], vs, i, h => by have h : vs = [] := h; subst h; rfl
  | d :: ds, vs, 0, h => by obtain ⟨v, r, rfl, h1, h2⟩ := h; exact h2
  | d :: ds, vs, i + 1, h => by obtain ⟨v, r, rfl, h1, h2⟩ := h; exact ⟨v, _, rfl, h1, RepL.erase i h2⟩
theorem RepL.last : ∀ {ds : List D} {vs : List V} (h : ds ≠ []), RepL K adr F ds vs → ∃ v, vs[vs.length - 1]? = some v ∧ Rep K adr F (ds.getLast h) v ∧ RepL K adr F ds.dropLast vs.dropLast
  | [], _, h, _ => absurd rfl h
  | [d], vs, h, r => by obtain ⟨v, r, rfl, h1, h2⟩ := r; have h2 : r = [] := h2; subst h2; exact ⟨v, rfl, h1, rfl⟩
  | d :: e :: ds, vs, h, r => by
    obtain ⟨v, r, rfl, h1, h2⟩ := r
    obtain ⟨v2, r2, e2, _, _⟩ := id h2
    obtain ⟨u, g1, g2, g3⟩ := RepL.last (List.cons_ne_nil e ds) h2
    subst e2
    refine ⟨u, ?_, g2, v, _, rfl, h1, g3⟩
    have : (v :: v2 :: r2).length - 1 = ((v2 :: r2).length - 1) + 1 := by simp
    rw [this, List.getElem?_cons_succ]
    exact g1
theorem muR (m : Bm) : MtR X (muI m) (rMu X.K adr m) := by
  intro pins s σ H x us u vs Q I rx ru h
  obtain ⟨l, ws, F, xs, ds, ys, d, rfl, hl, sf, h1, h2, e, q⟩ := h
  have hlen := h1.length
  cases m with
  | append =>
    rcases ds with _ | ⟨d1, _ | ⟨d2, ds⟩⟩ <;> try (cases e; done)
    obtain ⟨e1, e2⟩ := ite_some e
    cases e2
    obtain ⟨v, r, rfl, g1, g2⟩ := h2
    have g2 : r = [] := g2
    subst g2
    exact mt_append pins s σ H _ _ u vs Q I rx ru ⟨l, ws, v, rfl, rfl, hl, by rw [hlen, ← lim_eq]; exact e1, q _ _ (RepL.app h1 (RepL.one g1)) rfl⟩
  | pop =>
    cases ds with
    | cons _ _ => cases e
    | nil =>
      have h2 : us = [] := h2
      subst h2
      have e : (if h : xs ≠ [] then some (xs.dropLast, xs.getLast h) else none) = some (ys, d) := e
      split at e
      · rename_i hne
        cases e
        obtain ⟨v, g1, g2, g3⟩ := RepL.last hne h1
        exact mt_pop pins s σ H _ _ u vs Q I rx ru ⟨l, ws, v, rfl, rfl, hl, g1, q _ _ g3 g2⟩
      · cases e
  | popAt =>
    rcases ds with _ | ⟨d1, _ | ⟨d2, ds⟩⟩ <;> (try cases d1) <;> try (cases e; done)
    rename_i i
    obtain ⟨v, r, rfl, g1, g2⟩ := h2
    have g2 : r = [] := g2
    subst g2
    have g1 : v = .int i := g1
    subst g1
    have e : (if 0 ≤ i ∧ i < 2 ^ 62 then (match xs[i.toNat]? with | some d => some (xs.eraseIdx i.toNat, d) | none => none) else none) = some (ys, d) := e
    by_cases hc : 0 ≤ i ∧ i < 2 ^ 62
    · rw [if_pos hc] at e
      obtain ⟨e1, e2⟩ := hc
      have e3 := e
      cases q1 : xs[i.toNat]? with
      | none => rw [q1] at e3; cases e3
      | some dd =>
        rw [q1] at e3
        cases e3
        obtain ⟨v, k1, k2⟩ := RepL.get h1 q1
        have hlt : i.toNat < xs.length := (List.getElem?_eq_some_iff.mp q1).1
        refine mt_popAt pins s σ H _ _ u vs Q I rx ru ⟨l, ws, i, i.toNat, v, rfl, rfl, hl, by omega, by omega, ?_, k1, q _ _ (RepL.erase _ h1) k2⟩
        unfold seqIndex?
        rw [hlen]
        have c1 : ¬ i < 0 := by omega
        simp [c1]
        omega
    · rw [if_neg hc] at e; cases e
  | insert =>
    rcases ds with _ | ⟨d1, _ | ⟨d2, _ | ⟨d3, ds⟩⟩⟩ <;> (try cases d1) <;> try (cases e; done)
    rename_i i
    obtain ⟨v, r, rfl, g1, v2, r2, rfl, g2, g3⟩ := h2
    have g3 : r2 = [] := g3
    subst g3
    have g1 : v = .int i := g1
    subst g1
    obtain ⟨⟨e1, e2, e4⟩, e3⟩ := ite_some e
    cases e3
    exact mt_insert pins s σ H _ _ u vs Q I rx ru ⟨l, ws, i, v2, rfl, rfl, hl, by rw [hlen, ← lim_eq]; exact e4, e1, by omega, q _ _ (RepL.app (RepL.app (RepL.take _ h1) (RepL.one g2)) (RepL.drop _ h1)) rfl⟩
  | extend =>
    rcases ds with _ | ⟨d1, _ | ⟨d2, ds⟩⟩ <;> (try cases d1) <;> try (cases e; done)
    obtain ⟨v, r, rfl, ⟨a, vs2, rfl, g1, g4⟩, g2⟩ := h2
    have g2 : r = [] := g2
    subst g2
    obtain ⟨e1, e2⟩ := ite_some e
    cases e2
    exact mt_extend pins s σ H _ _ u vs Q I rx ru ⟨l, a, ws, vs2, rfl, rfl, hl, sf _ _ g1, by rw [hlen, g4.length, ← lim_eq]; exact e1, q _ _ (RepL.app h1 g4) rfl⟩
  | clear =>
    cases ds with
    | cons _ _ => cases e
    | nil =>
      have h2 : us = [] := h2
      subst h2
      cases e
      exact mt_clear pins s σ H _ _ u vs Q I rx ru ⟨l, ws, rfl, rfl, hl, q _ _ rfl rfl⟩
  | reverse =>
    cases ds with
    | cons _ _ => cases e
    | nil =>
      have h2 : us = [] := h2
      subst h2
      cases e
      exact mt_reverse pins s σ H _ _ u vs Q I rx ru ⟨l, ws, rfl, rfl, hl, q _ _ (RepL.rev h1) rfl⟩
/-- the object of a slot, changed -/
theorem StT.setObj {i : Nat} {a : Addr} {s s' : S} {o o' : O} {u : HO} (h : StT K adr PN B F env σ H ts) (e : env[i]? = some (some s)) (hσ : σ[i]? = some (some (.ref a))) (hs : (s = .own o ∧ s' = .own o') ∨ (s = .bor o ∧ s' = .bor o')) (ho : OAt K adr F (upd H a u) o' a) :
    StT K adr PN B F (env.set i (some s')) σ (upd H a u) ts := by
  have hi : i < env.length := (List.getElem?_eq_some_iff.mp e).1
  have so : s.isO = true := by rcases hs with ⟨rfl, _⟩ | ⟨rfl, _⟩ <;> rfl
  have me : ObS env σ i a := ⟨⟨s, e, so⟩, hσ⟩
  obtain ⟨v, h1, h2⟩ := h.sl i s e
  rw [hσ] at h1; cases h1
  obtain ⟨oo, a', ea, hB, hF, _, _⟩ := h2.obj so
  cases ea
  have ob : ∀ j b, ObS (env.set i (some s')) σ j b → ObS env σ j b := fun j b ⟨⟨t, q1, q2⟩, q3⟩ => by
    by_cases hj : j = i
    · subst hj; exact ⟨⟨s, e, so⟩, q3⟩
    · rw [List.getElem?_set_ne (Ne.symm hj)] at q1; exact ⟨⟨t, q1, q2⟩, q3⟩
  have keep : ∀ b w, b ≠ a → H b = some w → upd H a u b = some w := fun b w n q => by rw [upd_ne n]; exact q
  have nB : ∀ b w, B b = some w → b ≠ a := fun b w q z => by subst z; rw [hB] at q; cases q
  have nF : ∀ b w, F b = some w → b ≠ a := fun b w q z => by subst z; rw [hF] at q; cases q
  refine ⟨fun b w q => keep b w (nB b w q) (h.sb b w q), fun b w q => keep b w (nF b w q) (h.sf b w q), h.dj, fun j t q => ?_, fun t ht => ?_, fun j k b n q1 q2 => h.d1 j k b n (ob j b q1) (ob k b q2), fun j b q => h.d2 j b (ob j b q), h.d3⟩
  · by_cases hj : j = i
    · subst hj
      rw [List.getElem?_set_self hi] at q
      cases q
      refine ⟨_, hσ, ?_⟩
      rcases hs with ⟨_, rfl⟩ | ⟨_, rfl⟩ <;> exact ⟨a, rfl, hB, hF, ho⟩
    · rw [List.getElem?_set_ne (Ne.symm hj)] at q
      obtain ⟨v, g1, g2⟩ := h.sl j t q
      refine ⟨v, g1, g2.mono Same.rfl' (fun _ z _ => z) (fun b w z => ⟨⟨w, z⟩, fun y hy => keep b y (nB b w z) hy⟩) (fun _ _ _ z => z) (fun b w ev so' z => keep b w (fun ez => ?_) z)⟩
      subst ez
      exact h.d1 j i b hj ⟨⟨t, q, so'⟩, by rw [g1, ev]⟩ me
  · obtain ⟨r, v⟩ := t
    have g := h.tm _ ht
    cases r with
    | v d => exact g
    | own o2 =>
      refine TAt.mono (env := env) (B := B) (B' := B) g Same.rfl' (fun _ z _ => z) (fun _ _ z => z) (fun b w ev z => keep b w (fun ez => ?_) z)
      subst ez
      exact h.d2 i b me (List.mem_filterMap.mpr ⟨_, ht, ev⟩)
    | sl j =>
      refine ⟨g.1, ?_⟩
      obtain ⟨_, t, q⟩ := g
      by_cases hj : j = i
      · subst hj; exact ⟨_, List.getElem?_set_self hi⟩
      · exact ⟨t, by rw [List.getElem?_set_ne (Ne.symm hj)]; exact q⟩
theorem re_mut {bm : Bm} {i : Nat} {x m : Str} {apos : Pos} (hX : XOk P w K mg base G lv c PN W X) (hN : c.N[i]? = some x) (hv : Vis c.sc x) (h1 : (x == ("__debug__" : Str)) = false) (h2 : (x == ("__classdict__" : Str)) = false) (hm : m = muN bm) (hline : (apos.endLine == pos.line) = true)
    (ha : PA X ps (RA K adr G call PN W es)) (hn : ps.all notStar = true) (hl : ps.length < 30) (hes : ps = [] → es = .nil) : PE X (.Call (.Attribute (.Name x pos2) m apos) ps [] pos) (RE K adr G call PN W (.mut bm i es)) := by
  have hN := hN; rw [← hX.hN] at hN
  have hv := hv; rw [← hX.hs] at hv
  have pv := pe_var (pos := pos2) hN hv h1 h2
  have hmu := muR (X := X) (adr := adr) bm
  subst hm
  have slot : ∃ id, Slot "list" (muN bm) id ∧ typeOf (.builtin id) = pure (.type "method_descriptor") ∧ id = muI bm := by
    cases bm
    · exact ⟨_, PySem.F.slot_list_append, PySem.F.type_list_append, rfl⟩
    · exact ⟨_, PySem.F.slot_list_pop, PySem.F.type_list_pop, rfl⟩
    · exact ⟨_, PySem.F.slot_list_pop, PySem.F.type_list_pop, rfl⟩
    · exact ⟨_, PySem.F.slot_list_insert, PySem.F.type_list_insert, rfl⟩
    · exact ⟨_, PySem.F.slot_list_extend, PySem.F.type_list_extend, rfl⟩
    · exact ⟨_, PySem.F.slot_list_clear, PySem.F.type_list_clear, rfl⟩
    · exact ⟨_, PySem.F.slot_list_reverse, PySem.F.type_list_reverse, rfl⟩
  obtain ⟨id, sl, hty, rfl⟩ := slot
  have main : ∀ σ H Q, RE K adr G call PN W (.mut bm i es) σ H Q → tVar i σ H fun x H1 => tyV X.K "list" x H1 ∧ RA K adr G call PN W es σ H1 fun xs H2 => rMu X.K adr bm x xs H2 Q := by
    rintro σ H Q ⟨B, F, env, ts, hs, ho⟩
    rw [ev] at ho
    split at ho
    · rename_i hb
      have h0 : ∃ xs s, env[i]? = some (some s) ∧ (s = .own (.L xs) ∨ s = .bor (.L xs)) := by
        revert hb
        cases env[i]? with
        | none => intro h; cases h
        | some o =>
          cases o with
          | none => intro h; cases h
          | some s =>
            cases s with
            | own o => cases o with
              | L xs => exact fun _ => ⟨xs, _, rfl, .inl rfl⟩
              | I _ _ => intro h; cases h
            | bor o => cases o with
              | L xs => exact fun _ => ⟨xs, _, rfl, .inr rfl⟩
              | I _ _ => intro h; cases h
            | _ => intro h; cases h
      obtain ⟨xs0, s0, e0, k0⟩ := h0
      obtain ⟨v0, hσ, hat⟩ := hs.sl i s0 e0
      have hobj : ∃ a vs, v0 = .ref a ∧ H a = some (.lst vs) := by
        rcases k0 with rfl | rfl
        · obtain ⟨a, e1, _, _, vs, e2, _⟩ := hat; exact ⟨a, vs, e1, e2⟩
        · obtain ⟨a, e1, _, _, vs, e2, _⟩ := hat; exact ⟨a, vs, e1, e2⟩
      obtain ⟨a, vs0, rfl, ha0⟩ := hobj
      refine ⟨.ref a, hσ, .inl ⟨rfl, vs0, .of ha0⟩, B, F, env, ts, hs, seqA ho fun rs e us H1 F1 s1 l g ho => ?_⟩
      cases q1 : frzs rs e with
      | none => rw [q1] at ho; exact ho.elim
      | some z =>
        obtain ⟨ds, e'⟩ := z
        rw [q1] at ho
        obtain ⟨F2, s2, g2, r2⟩ := g.frzN l q1
        have fin : ∀ (s : S) (mk : O → S) (xs : List D), e'[i]? = some (some s) → s = mk (.L xs) → (mk = S.own ∨ mk = S.bor) → Out K adr PN W B F1 σ (rs.zip us ++ ts) (match mutD bm xs ds with | some (ys, d) => Rs.ok (.v d) (e'.set i (some (mk (.L ys)))) | none => .bad) (fun r e2 => ∀ v H' F', Same F F' → StT K adr PN B F' e2 σ H' ((r, v) :: ts) → Q v H') → rMu X.K adr bm (.ref a) us H1 Q := fun s mk xs e1 es' hmk ho => by
          cases q2 : mutD bm xs ds with
          | none => rw [q2] at ho; exact ho.elim
          | some z =>
            obtain ⟨ys, d⟩ := z
            rw [q2] at ho
            obtain ⟨v1, hσ1, hat⟩ := g2.sl i s e1
            rw [hσ] at hσ1; cases hσ1
            have hobj : ∃ vs, H1 a = some (.lst vs) ∧ RepL K adr F2 xs vs := by
              subst es'
              rcases hmk with rfl | rfl
              · obtain ⟨a', e1, _, _, vs, e2, e3⟩ := hat; cases e1; exact ⟨vs, e2, e3⟩
              · obtain ⟨a', e1, _, _, vs, e2, e3⟩ := hat; cases e1; exact ⟨vs, e2, e3⟩
            obtain ⟨vs, k1, k2⟩ := hobj
            rw [hX.hK]
            refine ⟨a, vs, F2, xs, ds, ys, d, rfl, k1, g2.sf, k2, r2, q2, fun v ws rw1 rd => ?_⟩
            refine ho v _ F2 (s1.trans s2) ((g2.setObj (s' := mk (.L ys)) (o := .L xs) (o' := .L ys) e1 hσ ?_ ⟨ws, upd_same, rw1⟩).data rd)
            subst es'
            rcases hmk with rfl | rfl
            · exact .inl ⟨rfl, rfl⟩
            · exact .inr ⟨rfl, rfl⟩
        have ho : Out K adr PN W B F1 σ (rs.zip us ++ ts) (match e'[i]? with
          | some (some (.own (.L xs))) => (match mutD bm xs ds with | some (ys, d) => Rs.ok (.v d) (e'.set i (some (.own (.L ys)))) | none => .bad)
          | some (some (.bor (.L xs))) => (match mutD bm xs ds with | some (ys, d) => Rs.ok (.v d) (e'.set i (some (.bor (.L ys)))) | none => .bad)
          | _ => .bad) (fun r e2 => ∀ v H' F', Same F F' → StT K adr PN B F' e2 σ H' ((r, v) :: ts) → Q v H') := ho
        split at ho
        · rename_i xs e1; exact fin _ S.own xs e1 rfl (.inl rfl) ho
        · rename_i xs e1; exact fin _ S.bor xs e1 rfl (.inr rfl) ho
        · exact ho.elim
    · exact ho.elim
  cases ps with
  | nil =>
    refine PE.im (pe_bm0 PySem.F.plainAttrs_list sl hty hmu pv rfl hline) fun σ H Q h => ?_
    obtain ⟨x, h1, h2, h3⟩ := main σ H Q h
    refine ⟨x, h1, h2, ?_⟩
    rw [hes rfl] at h3
    obtain ⟨B, F, env, ts, hs, ho⟩ := h3
    rw [evs] at ho
    exact ho [] H F Same.rfl' rfl hs
  | cons p ps =>
    have hn2 := hn
    rw [List.all_cons, Bool.and_eq_true] at hn2
    exact PE.im (pe_bm PySem.F.plainAttrs_list sl hty hmu pv ha rfl (methForm hn hl) hline (star_ok hn2.1) (star_any hn2.2)) main
end
end Ky
end
section
set_option Elab.async false
set_option linter.all false
set_option maxRecDepth 100000
set_option maxHeartbeats 1000000
/-! Ky, part Zn: calls with keywords; tuple(range(..)). -/
namespace Ky
open PySem PySem.Spec PyProof.Rows L2
section
variable {P : Program} {w : World} {K : PySem.W.Frag} {mg : Str → Option Value} {base : Heap} {adr : Str → Addr} {G : GT} {fn : Str → Option Fn} {call : Str → List S → CR} {lv : Nat} {c : Cf} {PN : Addr → Addr → Option Addr → Prop} {W : WX} {X : Cx}
variable {a b d : Ex} {es zs : Exs} {p q r : Expr} {ps : List Expr} {kws : List Keyword} {pos pos2 pos3 pos4 : Pos}
variable {B F F' H H' : Hp} {env e1 : Env} {σ : St} {ts l : List (R × V)}

theorem PK.im {X : Cx} {p : List Keyword} {t t' : TA} (h : PK X p t) (k : ∀ σ H Q, t' σ H Q → t σ H Q) : PK X p t' := ⟨fun pos pins s σ H Q I q => h.run pos pins s σ H Q I (k σ H Q q)⟩
theorem rk_nil : PK X [] (RA K adr G call PN W .nil) := by
  refine PK.im pk_nil ?_
  rintro σ H Q ⟨B, F, env, ts, hs, ho⟩
  rw [evs] at ho
  exact ho [] H F Same.rfl' rfl hs
theorem rk_cons {nm : Option Str} (ha : PE X p (RE K adr G call PN W a)) (hr : PK X kws (RA K adr G call PN W es)) : PK X (⟨nm, p, pos2⟩ :: kws) (RA K adr G call PN W (.cons a es)) := by
  refine PK.im (pk_cons ha hr) ?_
  rintro σ H Q ⟨B, F, env, ts, hs, ho⟩
  rw [evs] at ho
  refine ⟨B, F, env, ts, hs, seq1 ho fun r e1 v H1 F1 s1 g ho => ⟨B, F1, e1, _, g, ?_⟩⟩
  refine (Out.bind ho).imp fun rs e2 _ hk vs H2 F2 s2 hl g2 => ?_
  exact hk (v :: vs) H2 F2 (s1.trans s2) (by simp [hl]) (g2.perm List.perm_middle)
theorem small_okN {j : Int} (h : smallB j = true) : -(2 ^ 62) ≤ j ∧ j < 2 ^ 62 := by
  unfold smallB at h
  rw [Bool.and_eq_true, decide_eq_true_eq, decide_eq_true_eq] at h
  exact h
/-- places, picked -/
theorem pick_get {α : Type} {l : List α} : ∀ {ar : List Nat} {us : List α}, ar.mapM (fun i => l[i]?) = some us → us.length = ar.length ∧ ∀ j (h : j < ar.length), us[j]? = l[ar[j]]?
  | [], us, h => by
    have h : some [] = some us := h
    cases h
    exact ⟨rfl, fun j h => by cases h⟩
  | i :: ar, us, h => by
    rw [List.mapM_cons] at h
    cases q : l[i]? with
    | none => rw [q] at h; cases h
    | some x =>
      rw [q] at h
      cases q2 : ar.mapM (fun i => l[i]?) with
      | none => simp [q2] at h
      | some vs =>
        simp [q2] at h
        subst h
        obtain ⟨h1, h2⟩ := pick_get q2
        refine ⟨by simp [h1], fun j hj => ?_⟩
        cases j with
        | zero => simp [q]
        | succ j => simpa using h2 j (by simpa using hj)
theorem StT.pick {L : List (R × V)} {ar : List Nat} (h : StT K adr PN B F env σ H (l ++ ts)) (nd : ar.Nodup) (hl : L.length = ar.length) (hg : ∀ j (h : j < ar.length), L[j]? = l[ar[j]]?) : StT K adr PN B F env σ H (L ++ ts) := by
  have mem : ∀ t ∈ L, t ∈ l := fun t ht => by
    obtain ⟨j, hj, e⟩ := List.getElem_of_mem ht
    have q := hg j (by omega)
    rw [List.getElem?_eq_getElem hj, e] at q
    exact List.mem_of_getElem? q.symm
  have mem2 : ∀ t ∈ L ++ ts, t ∈ l ++ ts := fun t ht => by
    rcases List.mem_append.mp ht with ht | ht
    · exact List.mem_append_left _ (mem t ht)
    · exact List.mem_append_right _ ht
  refine ⟨h.sb, h.sf, h.dj, h.sl, fun t ht => h.tm t (mem2 t ht), h.d1, fun i a q z => h.d2 i a q ?_, ?_⟩
  · obtain ⟨t, h1, h2⟩ := List.mem_filterMap.mp z
    exact List.mem_filterMap.mpr ⟨t, mem2 t h1, h2⟩
  · have h3 := h.d3
    unfold List.Nodup at h3 ⊢
    rw [List.pairwise_filterMap] at h3 ⊢
    rw [List.pairwise_append] at h3 ⊢
    refine ⟨?_, h3.2.1, fun x hx y hy => h3.2.2 x (mem x hx) y hy⟩
    rw [List.pairwise_iff_getElem]
    intro i j hi hj hij
    have gi := hg i (by omega)
    have gj := hg j (by omega)
    rw [List.getElem?_eq_getElem hi] at gi
    rw [List.getElem?_eq_getElem hj] at gj
    have li := (List.getElem?_eq_some_iff.mp gi.symm)
    have lj := (List.getElem?_eq_some_iff.mp gj.symm)
    obtain ⟨li1, li2⟩ := li
    obtain ⟨lj1, lj2⟩ := lj
    have hne : ar[i]'(by omega) ≠ ar[j]'(by omega) := fun e => by
      have := (List.getElem_inj nd).mp e
      omega
    have pw := List.pairwise_iff_getElem.mp h3.1
    rcases Nat.lt_or_gt_of_ne hne with z | z
    · have := pw _ _ li1 lj1 z
      rw [li2, lj2] at this
      exact this
    · have := pw _ _ lj1 li1 z
      rw [li2, lj2] at this
      exact fun b e b' e' hb => this b' e' b e hb.symm

theorem StT.datas : ∀ {ds : List D} {vs : List V} {ts : List (R × V)}, RepL K adr F ds vs → StT K adr PN B F env σ H ts → StT K adr PN B F env σ H ((ds.map R.v).zip vs ++ ts)
  | [], vs, ts, _, h => by simpa using h
  | d :: ds, vs, ts, r, h => by
    simp only [RepL] at r
    obtain ⟨v, r', rfl, h1, h2⟩ := r
    exact (StT.datas h2 h).data h1
theorem zip_pick {α β : Type} {l : List α} {m : List β} {ar : List Nat} {us : List α} {vs : List β} (h1 : us.length = ar.length) (h2 : ∀ j (h : j < ar.length), us[j]? = l[ar[j]]?) (h3 : ∀ j (h : j < ar.length), vs[j]? = m[ar[j]]?) : ∀ j (h : j < ar.length), (us.zip vs)[j]? = (l.zip m)[ar[j]]? := fun j h => by
  show (List.zipWith Prod.mk us vs)[j]? = (List.zipWith Prod.mk l m)[ar[j]]?
  rw [List.getElem?_zipWith, List.getElem?_zipWith, h2 j h, h3 j h]
theorem re_callk {j : Nat} {x : Str} {n : Nat} {ks : List Str} {ar : List Nat} {ds : List D} (hf : Facts P w K mg base adr G fn call lv) (hX : XOk P w K mg base G lv c PN W X) (hj : G.kws[j]? = some (x, n, ks, ar, ds)) (hg : Gl X x) (hx : x ∈ G.gl) (h1 : (x == ("__debug__" : Str)) = false)
    (ha : PA X ps (RA K adr G call PN W es)) (hn : ps.all notStar = true) (hz : PK X kws (RA K adr G call PN W zs)) (hk : kws.map (·.arg) = ks.map some) : PE X (.Call (.Name x pos2) ps kws pos) (RE K adr G call PN W (.callk j es zs)) := by
  cases hh : G.hot with
  | true =>
    refine ⟨fun pins s σ H Q I h => ?_⟩
    obtain ⟨B, F, env, ts, hs, ho⟩ := h
    rw [ev, if_pos hh] at ho
    exact ho.elim
  | false =>
  obtain ⟨m1, m2⟩ := hf.glf x hx
  obtain ⟨f, fd, hfn, FQ, g, gV, dvs, kb, rd, nd, hal, hgV⟩ := hf.kw _ (List.mem_of_getElem? hj)
  dsimp only at FQ kb rd nd hal hgV
  refine ⟨fun pins s σ H Q I h => ?_⟩
  obtain ⟨B, F, env, ts, hs, ho⟩ := h
  rw [ev, if_neg (by rw [hh]; exact Bool.false_ne_true), hj] at ho
  dsimp only at ho
  have hkw : (backToKw pos (keywordEach kws X.env)).map (·.1) = ks.map some := by rw [kw_names, hk]
  have hall : (backToKw pos (keywordEach kws X.env)).all (·.1.isSome) = true := by
    rw [List.all_eq_true]
    intro y hy
    have : y.1 ∈ ks.map some := by rw [← hkw]; exact List.mem_map_of_mem hy
    obtain ⟨z, _, e⟩ := List.mem_map.mp this
    rw [← e] <;> rfl
  have hks : (backToKw pos (keywordEach kws X.env)).filterMap (·.1) = ks := by
    have : ((backToKw pos (keywordEach kws X.env)).map (·.1)).filterMap _root_.id = ks := by rw [hkw, List.filterMap_map]; simp
    rw [List.filterMap_map] at this
    exact this
  have hnone : (backToKw pos (keywordEach kws X.env)).any (·.1.isNone) = false := by
    rw [List.any_eq_false]
    intro y hy
    have := List.all_eq_true.mp hall y hy
    simp [Option.isSome_iff_ne_none] at this ⊢
    exact this
  refine wpAny_Call_Name_kw (ld_glob I hg (by rw [hX.hm]; exact m1) ?_ h1)
  have hkp : PySem.W.keepIn X.K (.ref (adr x)) = true := by rw [hX.hK]; exact m2
  refine PySem.W.callWith_of (P := fun h => X.K.In h) (by rw [star_any hn, hnone]; rfl) (PySem.W.keeps_K hkp) (evalArgs_kws (star_any hn) hall ?_)
  have rd1 : RA K adr G call PN W es σ H fun vs H1 => RA K adr G call PN W zs σ H1 fun ws H2 => ∃ us, us.length = f.ps.length ∧ vs.length = n ∧ ws.length = ks.length ∧ us = gV vs ws ∧ spC K adr call x f us H2 Q (fun cls d H' => W cls d σ H') := by
    refine ⟨B, F, env, ts, hs, seqA ho fun rs e vs H1 F1 s1 l g ho => ⟨B, F1, e, _, g, seqA (ts := rs.zip vs ++ ts) (Out.of_ts ho) fun ws' e2 ws H2 F2 s2 l2 g2 ho => ?_⟩⟩
    split at ho
    · rename_i hlen
      split at ho
      · rename_i us hus
        obtain ⟨p1, p2⟩ := pick_get hus
        have lv : vs.length = n := by rw [← l]; exact hlen.1
        have lw : ws.length = ks.length := by rw [← l2]; exact hlen.2
        obtain ⟨p3, p4⟩ := pick_get (hgV vs ws lv lw)
        have g3 := StT.datas (RepL.mono same0 _ _ rd) g2
        have e1 : (rs ++ ws' ++ ds.map R.v).zip (vs ++ ws ++ dvs) = rs.zip vs ++ ws'.zip ws ++ (ds.map R.v).zip dvs := by
          rw [List.zip_append (by simp [l, l2]), List.zip_append l]
        have g4 : StT K adr PN B F2 e2 σ H2 ((rs ++ ws' ++ ds.map R.v).zip (vs ++ ws ++ dvs) ++ ts) := by
          rw [e1]
          refine g3.perm ?_
          simp only [List.append_assoc]
          exact ((List.perm_append_comm_assoc _ _ _).append_left _).trans ((List.perm_append_comm_assoc _ _ _).trans ((List.perm_append_comm_assoc _ _ _).append_left _))
        have g5 := StT.pick (L := us.zip (gV vs ws)) g4 nd (by rw [List.length_zip, p1, p3]; simp) (zip_pick p1 p2 p4)
        obtain ⟨ss, c1, c2, c3, c4⟩ := call_sp g5 (by rw [p1, p3]) ho (fun r e h v H' F' s g => h v H' F' ((s1.trans s2).trans s) g)
        refine ⟨gV vs ws, by rw [p3, hal], lv, lw, rfl, by rw [p3, hal], ss, gV vs ws, [], _, _, by simp, c1, ?_, c2, ?_⟩
        · rw [c1, p3, hal, fill_full]; rfl
        · exact c4
      · exact ho.elim
    · exact ho.elim
  refine thn (ha.run pos pins s σ H _ I rd1) fun us s1 ⟨vs, H1, I1, r, q⟩ => ?_
  refine thn (hz.run pos pins s1 σ H1 _ I1 q) fun ws s2 ⟨zs', H2, I2, rz, us', e1, e2, e3, e4, q2⟩ => ⟨I2.kIn, ?_⟩
  rw [hks]
  subst e4
  have FQ : FnQ X.prog X.w X.K X.mg X.base G.hot lv (adr x) fd f.ps (spC K adr call x f) := by rw [hX.hP, hX.hw, hX.hK, hX.hm, hX.hb]; exact FQ
  have kb : KBn X.K fd f.ps n ks g gV := by rw [hX.hK]; exact kb
  refine wpAny_call (codeAny_mono ((FQ.ok hh).run X.A X.stack s2 H2 ⟨us, ks.zip ws⟩ (g us ws) (gV vs zs') Q _ ((hX.roomC hh).mono (Nat.le_succ _)) I2.env0 (kb.to s2 us ws I2.kIn (r.length.symm.trans e2) (rz.length.symm.trans e3)) (kb.rel r rz) q2) fun r s' hq => ?_)
  cases r with
  | error e => exact L2N.passAt hX.tk σ _ _ _ _ _ I2 hq
  | ok fl =>
    cases fl with
    | ret u => exact I2.after hq
    | next => exact False.elim hq
    | brk => exact False.elim hq
    | cont => exact False.elim hq
theorem rg_ok {i j : Int} (h : rgB i j = true) : RgOk i j := by
  unfold rgB at h
  rw [Bool.and_eq_true, Bool.and_eq_true, decide_eq_true_eq] at h
  exact ⟨(small_okN h.1.1).1, (small_okN h.1.1).2, (small_okN h.1.2).1, (small_okN h.1.2).2, h.2⟩
theorem rg_rep {F : Hp} (i j : Int) : RepL K adr F (rngI i j) (rgV i j) := by
  unfold rngI rgV
  generalize (j - i).toNat = n
  induction n with
  | zero => rfl
  | succ n ih =>
    rw [List.range_succ, List.map_append, List.map_append]
    exact RepL.app ih (RepL.one rfl)
theorem rg_new {tp : Bool} {i j : Int} {p : Addr} (sf : Same F H) (hp : H p = none) : ∃ F', Same F F' ∧ New K adr F H F' (upd H p (if tp = true then .tup (rgV i j) else .lst (rgV i j))) (rgR tp i j) (.ref p) := by
  cases tp with
  | true => exact ⟨_, (New.tup (K := K) (adr := adr) sf hp (rg_rep i j)).sf, New.tup sf hp (rg_rep i j)⟩
  | false => exact ⟨F, Same.rfl', New.lst sf hp (rg_rep i j)⟩
theorem rg_end {tp : Bool} {i j : Int} {e : Env} {Q : VK} (g : StT K adr PN B F' e σ H' ts) (s : Same F F') (h : rgB i j = true)
    (ho : ∀ v H' F', Same F F' → StT K adr PN B F' e σ H' ((rgR tp i j, v) :: ts) → Q v H') : ∀ q, H' q = none → Q (.ref q) (upd H' q (if tp = true then .tup (rgV i j) else .lst (rgV i j))) := fun q hq => by
  obtain ⟨F2, s2, n⟩ := rg_new (K := K) (adr := adr) (tp := tp) (i := i) (j := j) g.sf hq
  exact ho _ _ _ (s.trans s2) (g.push n)
theorem re_hot {b : Ex} {q : Expr} (h : ∀ env, ev G call b env = .bad) : PE X q (RE K adr G call PN W b) := ⟨fun pins s σ H Q I hr => by
  obtain ⟨B, F, env, ts, hs, ho⟩ := hr
  rw [h] at ho
  exact ho.elim⟩
def tpN (tp : Bool) : Str := if tp = true then "tuple" else "list"
theorem re_rg1 {tp : Bool} (hX : XOk P w K mg base G lv c PN W X) (hg : Gl X (tpN tp)) (hm : mg (tpN tp) = none) (hg2 : Gl X "range") (hm2 : mg "range" = none) (ha : PE X p (RE K adr G call PN W a)) (hn : notStar p = true) :
    PE X (.Call (.Name (tpN tp) pos2) [.Call (.Name "range" pos3) [p] [] pos4] [] pos) (RE K adr G call PN W (.rg1 tp a)) := by
  cases hh : G.hot with
  | true => exact re_hot fun env => by rw [ev, if_pos hh]
  | false =>
    have key : ∀ σ H Q, RE K adr G call PN W (.rg1 tp a) σ H Q → tRg1 (RE K adr G call PN W a) σ H fun i j H1 => RgOk i j ∧ ∀ q, H1 q = none → Q (.ref q) (upd H1 q (if tp = true then .tup (rgV i j) else .lst (rgV i j))) := by
      rintro σ H Q ⟨B, F, env, ts, hs, ho⟩
      rw [ev, if_neg (by rw [hh]; exact Bool.false_ne_true)] at ho
      refine ⟨B, F, env, ts, hs, seq1 ho fun r e v H1 F1 s1 g ho => ?_⟩
      split at ho
      · rename_i j q1
        have hv := (TAt.viewH g List.mem_cons_self q1).int
        have hv : v = .int j := hv
        subst hv
        split at ho
        · rename_i hj
          exact ⟨j, rfl, rg_ok hj, rg_end g.pop s1 hj ho⟩
        · exact ho.elim
      · exact ho.elim
    have pr := prg_1 (p := pos3) (pos := pos4) hg2 (by rw [hX.hm]; exact hm2) ha (star_ok hn)
    cases tp with
    | true => exact PE.im (pe_tupRg (hX.calm hh) hg (by rw [hX.hm]; exact hm) pr (star_ok rfl)) key
    | false => exact PE.im (pe_listRg (hX.calm hh) hg (by rw [hX.hm]; exact hm) pr (star_ok rfl)) key
theorem re_rg2 {tp : Bool} (hX : XOk P w K mg base G lv c PN W X) (hg : Gl X (tpN tp)) (hm : mg (tpN tp) = none) (hg2 : Gl X "range") (hm2 : mg "range" = none) (ha : PE X p (RE K adr G call PN W a)) (hn : notStar p = true) (hb : PE X q (RE K adr G call PN W b)) (hn2 : notStar q = true) :
    PE X (.Call (.Name (tpN tp) pos2) [.Call (.Name "range" pos3) [p, q] [] pos4] [] pos) (RE K adr G call PN W (.rg2 tp a b)) := by
  cases hh : G.hot with
  | true => exact re_hot fun env => by rw [ev, if_pos hh]
  | false =>
    have key : ∀ σ H Q, RE K adr G call PN W (.rg2 tp a b) σ H Q → tRg2 (RE K adr G call PN W a) (RE K adr G call PN W b) σ H fun i j H1 => RgOk i j ∧ ∀ q, H1 q = none → Q (.ref q) (upd H1 q (if tp = true then .tup (rgV i j) else .lst (rgV i j))) := by
      rintro σ H Q ⟨B, F, env, ts, hs, ho⟩
      rw [ev, if_neg (by rw [hh]; exact Bool.false_ne_true)] at ho
      refine ⟨B, F, env, ts, hs, seq1 ho fun r1 e1 v1 H1 F1 s1 g1 ho => ⟨B, F1, e1, _, g1, seq1 ho fun r2 e2 v2 H2 F2 s2 g2 ho => ?_⟩⟩
      split at ho
      · rename_i i j q1 q2
        have hv := (TAt.viewH g2 (List.mem_cons_of_mem _ List.mem_cons_self) q1).int
        have hv : v1 = .int i := hv
        subst hv
        have hv := (TAt.viewH g2 List.mem_cons_self q2).int
        have hv : v2 = .int j := hv
        subst hv
        split at ho
        · rename_i hj
          exact ⟨i, j, rfl, rfl, rg_ok hj, rg_end g2.pop.pop (s1.trans s2) hj ho⟩
        · exact ho.elim
      · exact ho.elim
    have pr := prg_2 (p := pos3) (pos := pos4) hg2 (by rw [hX.hm]; exact hm2) ha hb (star_ok hn) (star_ok hn2) (by rw [star_ok hn2]; rfl)
    cases tp with
    | true => exact PE.im (pe_tupRg (hX.calm hh) hg (by rw [hX.hm]; exact hm) pr (star_ok rfl)) key
    | false => exact PE.im (pe_listRg (hX.calm hh) hg (by rw [hX.hm]; exact hm) pr (star_ok rfl)) key
end
end Ky
end
section
set_option Elab.async false
set_option linter.all false
set_option maxRecDepth 100000
set_option maxHeartbeats 1000000
/-! Ky, part V: what is walked. -/
namespace Ky
open PySem PySem.Spec PyProof.Rows L2
section
variable {P : Program} {w : World} {K : PySem.W.Frag} {mg : Str → Option Value} {base : Heap} {adr : Str → Addr} {G : GT} {fn : Str → Option Fn} {call : Str → List S → CR} {lv : Nat} {c : Cf} {PN : Addr → Addr → Option Addr → Prop} {W : WX} {X : Cx}
variable {a b d : Ex} {es : Exs} {p q r : Expr} {ps : List Expr} {pos pos2 pos3 pos4 : Pos}
variable {B F F' H H' : Hp} {env e1 env' : Env} {σ : St} {ts : List (R × V)}

/-- slots told otherwise -/
theorem StT.relab (h : StT K adr PN B F env σ H ts) (w : ∀ (j : Nat) (s' : S), env'[j]? = some (some s') → ∃ s, env[j]? = some (some s) ∧ (∀ v, SAt K adr PN B F H s v → SAt K adr PN B F H s' v) ∧ (s'.isO = true → s.isO = true)) (ht : ∀ t ∈ ts, ∀ i, t.1 = .sl i → ∃ s, env'[i]? = some (some s)) : StT K adr PN B F env' σ H ts := by
  have ob : ∀ i a, ObS env' σ i a → ObS env σ i a := fun i a ⟨⟨s, q1, q2⟩, q3⟩ => let ⟨s0, g1, _, g3⟩ := w i s q1; ⟨⟨s0, g1, g3 q2⟩, q3⟩
  refine ⟨h.sb, h.sf, h.dj, fun i s q => ?_, fun t hm => ?_, fun i j a n q1 q2 => h.d1 i j a n (ob i a q1) (ob j a q2), fun i a q => h.d2 i a (ob i a q), h.d3⟩
  · obtain ⟨s0, g1, g2, _⟩ := w i s q
    obtain ⟨v, h1, h2⟩ := h.sl i s0 g1
    exact ⟨v, h1, g2 v h2⟩
  · obtain ⟨r, v⟩ := t
    have h1 := h.tm _ hm
    cases r with
    | v d => exact h1
    | own o => exact h1
    | sl i => exact ⟨h1.1, ht _ hm i rfl⟩
theorem StT.locked {is : List Nat} (h : StT K adr PN B F env σ H ts) : StT K adr PN B F (lock is env) σ H ts := by
  refine h.relab (fun j s' q => ?_) fun t ht i e => ?_
  · rcases lock_get is env j with l | ⟨_, o, l1, l2⟩
    · rw [l] at q; exact ⟨s', q, fun _ z => z, fun z => z⟩
    · rw [l2] at q
      cases q
      rcases l1 with l1 | l1 <;> exact ⟨_, l1, fun _ z => z, fun _ => rfl⟩
  · obtain ⟨r, v⟩ := t
    have e : r = .sl i := e
    subst e
    obtain ⟨_, s, q⟩ := h.tm _ ht
    rcases lock_get is env i with l | ⟨_, o, _, l2⟩
    · exact ⟨s, by rw [l]; exact q⟩
    · exact ⟨_, l2⟩
theorem StT.unlocked {is : List Nat} {e0 : Env} (h : StT K adr PN B F env σ H ts) (u : unlock e0 is env = some env') : StT K adr PN B F env' σ H ts := by
  refine h.relab (fun j s' q => ?_) fun t ht i e => ?_
  · rcases unlock_get u j with ⟨g1, _⟩ | ⟨_, o, o', g1, ⟨_, z⟩ | ⟨_, z⟩⟩
    · rw [g1] at q; exact ⟨s', q, fun _ z => z, fun z => z⟩
    · rw [z] at q; cases q; exact ⟨_, g1, fun _ z => z, fun _ => rfl⟩
    · rw [z] at q; cases q; exact ⟨_, g1, fun _ z => z, fun _ => rfl⟩
  · obtain ⟨r, v⟩ := t
    have e : r = .sl i := e
    subst e
    obtain ⟨_, s, q⟩ := h.tm _ ht
    rcases unlock_get u i with ⟨g1, _⟩ | ⟨_, o, o', g1, ⟨_, z⟩ | ⟨_, z⟩⟩
    · exact ⟨s, by rw [g1]; exact q⟩
    · exact ⟨_, z⟩
    · exact ⟨_, z⟩
theorem dat_lock {is : List Nat} {r : R} : r.dat (lock is env) = r.dat env := by
  cases r with
  | v d => rfl
  | own o => rfl
  | sl i =>
    show (match (lock is env)[i]? with | some (some s) => s.dat | _ => none) = (match env[i]? with | some (some s) => s.dat | _ => none)
    rcases lock_get is env i with l | ⟨_, o, l1, l2⟩
    · rw [l]
    · rw [l2]; rcases l1 with l1 | l1 <;> (rw [l1]; rfl)
/-- the locked objects stand where they stood -/
def LkOk (env : Env) (σ : St) (lk : List (Addr × O)) : Prop := ∀ p ∈ lk, ∃ i : Nat, env[i]? = some (some (S.lk p.2)) ∧ σ[i]? = some (some (V.ref p.1))
/-- what is walked, as long as the locked objects stand -/
def Src (K : PySem.W.Frag) (adr : Str → Addr) (B F : Hp) (lk : List (Addr × O)) (isL : Bool) (v : V) (xs : List D) : Prop := ∃ a, v = .ref a ∧ ∀ F2 H2, Same F F2 → Same F2 H2 → Same B H2 → (∀ p ∈ lk, OAt K adr F2 H2 p.2 p.1) →
  ∃ vs, (if isL = true then SqL K H2 a vs else SqT K H2 a vs) ∧ RepL K adr F2 xs vs
theorem Src.mono {lk lk' : List (Addr × O)} {isL : Bool} {v : V} {xs : List D} (h : Src K adr B F lk isL v xs) (s : Same F F') (w : ∀ p ∈ lk, p ∈ lk') : Src K adr B F' lk' isL v xs := by
  obtain ⟨a, e, h⟩ := h
  exact ⟨a, e, fun F2 H2 s1 s2 s3 s4 => h F2 H2 (s.trans s1) s2 s3 fun p m => s4 p (w p m)⟩
/-- data that do not change -/
theorem src_rep {v : V} {d : D} {xs : List D} (h : Rep K adr F d v) (e : itemsD d = some xs) : Src K adr B F [] (isLd d) v xs := by
  cases d with
  | tup ys => cases e; obtain ⟨a, vs, rfl, h1, h2⟩ := h; exact ⟨a, rfl, fun F2 H2 s1 s2 s3 _ => ⟨vs, Same.sqT (s1.trans s2) h1, RepL.mono s1 _ _ h2⟩⟩
  | lst ys => cases e; obtain ⟨a, vs, rfl, h1, h2⟩ := h; exact ⟨a, rfl, fun F2 H2 s1 s2 s3 _ => ⟨vs, .of ((s1.trans s2) _ _ h1), RepL.mono s1 _ _ h2⟩⟩
  | scr ns => cases e; obtain ⟨a, rfl, h1⟩ := h; exact ⟨a, rfl, fun F2 H2 s1 s2 s3 _ => ⟨_, Same.seq (s1.trans s2) h1, RepL.ints _⟩⟩
  | _ => cases e
/-- .. or a list in a slot -/
theorem src_obj {o : O} {a0 : Addr} {xs : List D} {lk : List (Addr × O)} (e : itemsD o.dat = some xs) (h : ∀ F2 H2, Same F F2 → Same F2 H2 → Same B H2 → (∀ p ∈ lk, OAt K adr F2 H2 p.2 p.1) → OAt K adr F2 H2 o a0) : Src K adr B F lk (isLd o.dat) (.ref a0) xs := by
  cases o with
  | I c fs => cases e
  | L ys =>
    cases e
    refine ⟨a0, rfl, fun F2 H2 s1 s2 s3 s4 => ?_⟩
    obtain ⟨vs, h1, h2⟩ := h F2 H2 s1 s2 s3 s4
    exact ⟨vs, .of h1, h2⟩
theorem src_of {r : R} {v : V} {d : D} {xs : List D} (h : StT K adr PN B F env σ H ((r, v) :: ts)) (q : r.dat env = some d) (e : itemsD d = some xs) :
    ∃ F' lk, Same F F' ∧ StT K adr PN B F' (lock (lks r) env) σ H ts ∧ LkOk (lock (lks r) env) σ lk ∧ Src K adr B F' lk (isLd d) v xs := by
  cases r with
  | v d' => cases q; exact ⟨F, [], Same.rfl', h.pop, fun p m => (by cases m), src_rep (h.tm _ List.mem_cons_self) e⟩
  | own o =>
    cases q
    obtain ⟨p, hv, _⟩ := h.tm _ List.mem_cons_self
    have hv : v = .ref p := hv
    subst hv
    obtain ⟨F1, s1, g⟩ := h.frzOwn
    exact ⟨F1, [], s1, g.pop, fun p m => (by cases m), src_rep (g.tm _ List.mem_cons_self) e⟩
  | sl i =>
    obtain ⟨hσ, s, hs⟩ := h.tm _ List.mem_cons_self
    have hσ : σ[i]? = some (some v) := hσ
    have q : (match env[i]? with | some (some s) => s.dat | _ => none) = some d := q
    rw [hs] at q
    have q : s.dat = some d := q
    obtain ⟨v', hσ', hat⟩ := h.sl i s hs
    rw [hσ] at hσ'; cases hσ'
    have g := (h.pop).locked (is := [i])
    have obj : ∀ (o : O) (a : Addr), v = .ref a → s.dat = some o.dat → (lock [i] env)[i]? = some (some (.lk o)) → ∃ F' lk, Same F F' ∧ StT K adr PN B F' (lock [i] env) σ H ts ∧ LkOk (lock [i] env) σ lk ∧ Src K adr B F' lk (isLd d) v xs := fun o a ev eo el => by
      subst ev
      rw [q] at eo
      cases eo
      refine ⟨F, [(a, o)], Same.rfl', g, fun p m => ?_, src_obj e fun F2 H2 s1 s2 s3 s4 => s4 (a, o) List.mem_cons_self⟩
      have : p = (a, o) := by simpa using m
      subst this
      exact ⟨i, el, hσ⟩
    have lockG : ∀ o, (env[i]? = some (some (.own o)) ∨ env[i]? = some (some (.bor o))) → (lock [i] env)[i]? = some (some (.lk o)) := fun o z => by
      have e : lock [i] env = lock1 env i := rfl
      rw [e]
      unfold lock1
      rcases z with z | z <;> (rw [z]; exact List.getElem?_set_self (List.getElem?_eq_some_iff.mp z).1)
    cases s with
    | v d' => cases q; exact ⟨F, [], Same.rfl', g, fun p m => (by cases m), src_rep hat e⟩
    | own o => obtain ⟨a, ev, _⟩ := hat; exact obj o a ev rfl (lockG o (.inl hs))
    | bor o => obtain ⟨a, ev, _⟩ := hat; exact obj o a ev rfl (lockG o (.inr hs))
    | lk o =>
      obtain ⟨a, ev, _⟩ := hat
      refine obj o a ev rfl ?_
      rcases lock_get [i] env i with l | ⟨_, o', l1, _⟩
      · rw [l]; exact hs
      · rw [hs] at l1; rcases l1 with z | z <;> cases z
    | ro o =>
      cases q
      obtain ⟨a, u, ev, hB, ho⟩ := hat
      subst ev
      refine ⟨F, [], Same.rfl', g, fun p m => (by cases m), src_obj e fun F2 H2 s1 s2 s3 _ => ho.mono s1 fun w hw => ?_⟩
      have : H a = some u := h.sb _ _ hB
      rw [hw] at this; cases this
      exact s3 _ _ hB
    | x c fs => cases q
/-- an iterator over the items -/
def Walk (K : PySem.W.Frag) (adr : Str → Addr) (B F : Hp) (lk : List (Addr × O)) (J : It) (ds : List D) : Prop := ∀ F2 H2, Same F F2 → Same F2 H2 → Same B H2 → (∀ p ∈ lk, OAt K adr F2 H2 p.2 p.1) →
  J.stop ds.length H2 ∧ ∀ (i : Nat) (d : D), ds[i]? = some d → J.go i H2 ∧ ∀ x H3, J.yld i H2 x H3 → ∃ F3, New K adr F2 H2 F3 H3 (.v d) x
theorem walk_list {lk : List (Addr × O)} {a : Addr} {xs : List D} (h : Src K adr B F lk true (.ref a) xs) : Walk K adr B F lk (Itl K a) xs := by
  obtain ⟨a', e, h⟩ := h
  cases e
  intro F2 H2 s1 s2 s3 s4
  obtain ⟨vs, h1, h2⟩ := h F2 H2 s1 s2 s3 s4
  have h1 : SqL K H2 a vs := h1
  refine ⟨⟨vs, h1, Nat.le_of_eq h2.length⟩, fun i d q => ?_⟩
  obtain ⟨v, g1, g2⟩ := RepL.get h2 q
  refine ⟨⟨vs, v, h1, g1⟩, fun x H3 y => ?_⟩
  obtain ⟨rfl, y2⟩ := y
  have := y2 vs h1
  rw [g1] at this; cases this
  exact ⟨F2, New.val s2 g2⟩
theorem walk_tup {lk : List (Addr × O)} {a : Addr} {xs : List D} (h : Src K adr B F lk false (.ref a) xs) : Walk K adr B F lk (Itt K a) xs := by
  obtain ⟨a', e, h⟩ := h
  cases e
  intro F2 H2 s1 s2 s3 s4
  obtain ⟨vs, h1, h2⟩ := h F2 H2 s1 s2 s3 s4
  have h1 : SqT K H2 a vs := h1
  refine ⟨⟨vs, h1, Nat.le_of_eq h2.length⟩, fun i d q => ?_⟩
  obtain ⟨v, g1, g2⟩ := RepL.get h2 q
  refine ⟨⟨vs, v, h1, g1⟩, fun x H3 y => ?_⟩
  obtain ⟨rfl, y2⟩ := y
  have := y2 vs h1
  rw [g1] at this; cases this
  exact ⟨F2, New.val s2 g2⟩
theorem walk_range {lo hi : Int} : Walk K adr B F [] (Itr lo (hi - lo).toNat) (rngI lo hi) := by
  intro F2 H2 s1 s2 s3 s4
  have hl : (rngI lo hi).length = (hi - lo).toNat := by simp [rngI]
  refine ⟨Nat.le_of_eq hl.symm, fun i d q => ?_⟩
  have hi' : i < (hi - lo).toNat := by rw [← hl]; exact (List.getElem?_eq_some_iff.mp q).1
  refine ⟨hi', fun x H3 y => ?_⟩
  obtain ⟨rfl, rfl⟩ := y
  have e : d = .int (lo + (i : Int)) := by
    unfold rngI at q
    rw [List.getElem?_map, List.getElem?_range hi'] at q
    cases q; rfl
  subst e
  exact ⟨F2, New.val s2 rfl⟩
theorem zipD_get {xs ys : List D} {i : Nat} {d : D} (h : (zipD xs ys)[i]? = some d) : ∃ x y, xs[i]? = some x ∧ ys[i]? = some y ∧ d = .tup [x, y] := by
  unfold zipD at h
  rw [List.getElem?_zipWith] at h
  cases q1 : xs[i]? with
  | none => rw [q1] at h; cases h
  | some x =>
    cases q2 : ys[i]? with
    | none => rw [q1, q2] at h; cases h
    | some y => rw [q1, q2] at h; cases h; exact ⟨x, y, rfl, rfl, rfl⟩
theorem new_pair {x y : D} {u v : V} {F2 H2 : Hp} {T : Addr} (s2 : Same F2 H2) (hT : H2 T = none) (h1 : Rep K adr F2 x u) (h2 : Rep K adr F2 y v) : ∃ F3, New K adr F2 H2 F3 (upd H2 T (.tup [u, v])) (.v (.tup [x, y])) (.ref T) :=
  ⟨_, New.tup s2 hT ⟨u, [v], rfl, h1, v, [], rfl, h2, rfl⟩⟩
theorem walk_zip {lk : List (Addr × O)} {a b : Addr} {xs ys : List D} (h : Src K adr B F lk true (.ref a) xs) (g : Src K adr B F lk true (.ref b) ys) : Walk K adr B F lk (Itz K a b) (zipD xs ys) := by
  obtain ⟨a', e, h⟩ := h
  cases e
  obtain ⟨b', e, g⟩ := g
  cases e
  intro F2 H2 s1 s2 s3 s4
  obtain ⟨us, h1, h2⟩ := h F2 H2 s1 s2 s3 s4
  obtain ⟨vs, g1, g2⟩ := g F2 H2 s1 s2 s3 s4
  have h1 : SqL K H2 a us := h1
  have g1 : SqL K H2 b vs := g1
  refine ⟨⟨us, vs, h1, g1, ?_⟩, fun i d q => ?_⟩
  · have : (zipD xs ys).length = min xs.length ys.length := List.length_zipWith
    rw [h2.length, g2.length, this]; omega
  · obtain ⟨x, y, q1, q2, rfl⟩ := zipD_get q
    obtain ⟨u, k1, k2⟩ := RepL.get h2 q1
    obtain ⟨v, k3, k4⟩ := RepL.get g2 q2
    refine ⟨⟨us, vs, u, v, h1, g1, k1, k3⟩, fun z H3 yy => ?_⟩
    obtain ⟨T, u', v', rfl, hT, rfl, y1, y2⟩ := yy
    have := y1 us h1
    rw [k1] at this; cases this
    have := y2 vs g1
    rw [k3] at this; cases this
    exact new_pair s2 hT k2 k4
theorem walk_zipT {lk : List (Addr × O)} {a b : Addr} {xs ys : List D} (h : Src K adr B F lk false (.ref a) xs) (g : Src K adr B F lk false (.ref b) ys) : Walk K adr B F lk (RZ.ItzT K a b) (zipD xs ys) := by
  obtain ⟨a', e, h⟩ := h
  cases e
  obtain ⟨b', e, g⟩ := g
  cases e
  intro F2 H2 s1 s2 s3 s4
  obtain ⟨us, h1, h2⟩ := h F2 H2 s1 s2 s3 s4
  obtain ⟨vs, g1, g2⟩ := g F2 H2 s1 s2 s3 s4
  have h1 : SqT K H2 a us := h1
  have g1 : SqT K H2 b vs := g1
  refine ⟨⟨us, vs, h1, g1, ?_⟩, fun i d q => ?_⟩
  · have : (zipD xs ys).length = min xs.length ys.length := List.length_zipWith
    rw [h2.length, g2.length, this]; omega
  · obtain ⟨x, y, q1, q2, rfl⟩ := zipD_get q
    obtain ⟨u, k1, k2⟩ := RepL.get h2 q1
    obtain ⟨v, k3, k4⟩ := RepL.get g2 q2
    refine ⟨⟨us, vs, u, v, h1, g1, k1, k3⟩, fun z H3 yy => ?_⟩
    obtain ⟨T, u', v', rfl, hT, rfl, y1, y2⟩ := yy
    have := y1 us h1
    rw [k1] at this; cases this
    have := y2 vs g1
    rw [k3] at this; cases this
    exact new_pair s2 hT k2 k4
theorem walk_enum {lk : List (Addr × O)} {a : Addr} {xs : List D} (h : Src K adr B F lk true (.ref a) xs) : Walk K adr B F lk (Ite K a) (enumD xs) := by
  obtain ⟨a', e, h⟩ := h
  cases e
  intro F2 H2 s1 s2 s3 s4
  obtain ⟨vs, h1, h2⟩ := h F2 H2 s1 s2 s3 s4
  have h1 : SqL K H2 a vs := h1
  refine ⟨⟨vs, h1, ?_⟩, fun i d q => ?_⟩
  · have : (enumD xs).length = min (List.range xs.length).length xs.length := List.length_zipWith
    rw [h2.length, this, List.length_range]; omega
  · unfold enumD at q
    rw [List.getElem?_zipWith] at q
    cases q1 : xs[i]? with
    | none => rw [q1] at q; cases q2 : (List.range xs.length)[i]? <;> rw [q2] at q <;> cases q
    | some x =>
      have hi : i < xs.length := (List.getElem?_eq_some_iff.mp q1).1
      rw [q1, List.getElem?_range hi] at q
      cases q
      obtain ⟨u, k1, k2⟩ := RepL.get h2 q1
      refine ⟨⟨vs, u, h1, k1⟩, fun z H3 yy => ?_⟩
      obtain ⟨T, u', rfl, hT, rfl, y1⟩ := yy
      have := y1 vs h1
      rw [k1] at this; cases this
      exact new_pair (x := .int (i : Int)) s2 hT rfl k2
/-! the rules -/
variable (K adr G call PN W) in
def RI (t : Itx) : TI := fun σ H R => ∃ B F env ts, StT K adr PN B F env σ H ts ∧ Out K adr PN W B F σ ts (evI G call t env) fun p e' => ∀ J H' F' lk, Same F F' → StT K adr PN B F' (lock p.2 e') σ H' ts → Walk K adr B F' lk J p.1 → LkOk (lock p.2 e') σ lk → R J H'
theorem PI.im {tg : Expr} {t t' : TI} (h : PI X tg p t) (k : ∀ σ H R, t' σ H R → t σ H R) : PI X tg p t' := ⟨fun pins s σ H R I q => h.run pins s σ H R I (k σ H R q)⟩
def iAny (K : PySem.W.Frag) (tl : TE) : TI := fun σ H R => tl σ H fun x H1 => ∃ a, x = .ref a ∧ (((∃ xs, SqL K H1 a xs) ∧ R (Itl K a) H1) ∨ ((∃ xs, SqT K H1 a xs) ∧ R (Itt K a) H1))
theorem pi_any {tg l : Expr} {tl : TE} (hl : PE X l tl) : PI X tg l (iAny X.K tl) := by
  refine ⟨fun pins s σ H R I h => thn (hl.run pins s σ H _ I h) fun v s1 ⟨x, H1, I1, r1, a, ex, qq⟩ => ?_⟩
  subst ex
  cases r1
  have fp : ∀ b ∈ [s1.heap.objs.size], FpOk X pins H1 b := fun b hb => by
    have e : b = s1.heap.objs.size := by simpa using hb
    subst e
    exact I1.fpOk (Nat.le_refl _) (I1.hok.fresh (Nat.le_refl _))
  rcases qq with ⟨⟨xs, hq⟩, q⟩ | ⟨⟨xs, hq⟩, q⟩
  · obtain ⟨its, rv, p, hz⟩ := I1.list hq
    exact wpAny_pyIter_list p.isList ⟨s1.heap.objs.size, [s1.heap.objs.size], _, _, H1, rfl, I1.kept (t' := s1.toks) fun b o e => Heap.get?_push_of_some _ e, turn_list a _, ⟨_, Heap.get?_push_size _ rfl, rfl, rfl⟩, fp, q⟩
  · obtain ⟨its, rv, p, hz⟩ := I1.tuple hq
    exact wpAny_pyIter_tuple (show s1.heap.IsTuple a its.toArray from p) ⟨s1.heap.objs.size, [s1.heap.objs.size], _, _, H1, rfl, I1.kept (t' := s1.toks) fun b o e => Heap.get?_push_of_some _ e, turn_tuple a _, ⟨_, Heap.get?_push_size _ rfl, rfl, rfl⟩, fp, q⟩
theorem ri_seq {tg : Expr} (hX : XOk P w K mg base G lv c PN W X) (ha : PE X q (RE K adr G call PN W a)) : PI X tg q (RI K adr G call PN W (.seq a)) := by
  refine PI.im (pi_any ha) ?_
  rintro σ H R ⟨B, F, env, ts, hs, ho⟩
  rw [evI] at ho
  refine ⟨B, F, env, ts, hs, seq1 (α := List D × List Nat) ho fun r e v H1 F1 s1 g ho => ?_⟩
  cases q1 : r.dat e with
  | none => rw [q1] at ho; exact ho.elim
  | some d =>
    rw [q1] at ho
    obtain ⟨p, e2, hk⟩ := of_some ho
    cases q2 : itemsD d with
    | none => rw [q2] at e2; cases e2
    | some xs =>
      rw [q2] at e2
      cases e2
      obtain ⟨F2, lk, s2, g2, hl, hsrc⟩ := src_of g q1 q2
      rw [hX.hK]
      obtain ⟨a0, ea, hw⟩ := id hsrc
      subst ea
      have locks : ∀ p ∈ lk, OAt K adr F2 H1 p.2 p.1 := fun p m => by
        obtain ⟨i, z1, z2⟩ := hl p m
        obtain ⟨v, y1, y2⟩ := g2.sl i _ z1
        rw [z2] at y1; cases y1
        obtain ⟨a, e, _, _, h⟩ := y2
        cases e
        exact h
      obtain ⟨vs, w1, w2⟩ := hw F2 H1 Same.rfl' g2.sf g2.sb locks
      refine ⟨a0, rfl, ?_⟩
      cases hb : isLd d with
      | true =>
        rw [hb] at w1 hsrc
        exact .inl ⟨⟨vs, w1⟩, hk _ H1 F2 lk (s1.trans s2) g2 (walk_list hsrc) hl⟩
      | false =>
        rw [hb] at w1 hsrc
        exact .inr ⟨⟨vs, w1⟩, hk _ H1 F2 lk (s1.trans s2) g2 (walk_tup hsrc) hl⟩
theorem lock_append (is js : List Nat) (env : Env) : lock (is ++ js) env = lock js (lock is env) := List.foldl_append
theorem small_ok {j : Int} (h : smallB j = true) : -(2 ^ 62) ≤ j ∧ j < 2 ^ 62 := by
  unfold smallB at h
  rw [Bool.and_eq_true, decide_eq_true_eq, decide_eq_true_eq] at h
  exact h
theorem no_lk {env : Env} {σ : St} : LkOk env σ [] := fun p m => (by cases m)
theorem ri_rng1 {tg : Expr} (hX : XOk P w K mg base G lv c PN W X) (hg : Gl X "range") (hm : mg "range" = none) (ha : PE X q (RE K adr G call PN W a)) (hn : notStar q = true) : PI X tg (.Call (.Name "range" pos2) [q] [] pos) (RI K adr G call PN W (.rng1 a)) := by
  refine PI.im (pi_range1 hg (by rw [hX.hm]; exact hm) (pa_cons ha pa_nil (star_ok hn)) (star_ok hn)) ?_
  rintro σ H R ⟨B, F, env, ts, hs, ho⟩
  rw [evI] at ho
  refine ⟨B, F, env, ts, hs, seq1 (α := List D × List Nat) ho fun r e v H1 F1 s1 g ho => ?_⟩
  cases q1 : r.dat e with
  | none => rw [q1] at ho; exact ho.elim
  | some d =>
    rw [q1] at ho
    cases d <;> try exact ho.elim
    rename_i j
    have hv := (TAt.viewH g List.mem_cons_self q1).int
    have hv : v = .int j := hv
    subst hv
    have ho : Out K adr PN W B F1 σ _ (if smallB j = true then .ok (rngI 0 j, []) e else .bad) _ := ho
    split at ho
    · rename_i hj
      refine ⟨j, rfl, (small_ok hj).1, (small_ok hj).2, ?_⟩
      have := ho (Itr 0 j.toNat) H1 F1 [] s1 g.pop (by have := walk_range (K := K) (adr := adr) (B := B) (F := F1) (lo := 0) (hi := j); rw [Int.sub_zero] at this; exact this) no_lk
      exact this
    · exact ho.elim
theorem ri_rng2 {tg : Expr} (hX : XOk P w K mg base G lv c PN W X) (hg : Gl X "range") (hm : mg "range" = none) (ha : PE X q (RE K adr G call PN W a)) (hn : notStar q = true) (hb : PE X r (RE K adr G call PN W b)) (hn2 : notStar r = true) : PI X tg (.Call (.Name "range" pos2) [q, r] [] pos) (RI K adr G call PN W (.rng2 a b)) := by
  refine PI.im (pi_range2 hg (by rw [hX.hm]; exact hm) (pa_cons ha (pa_cons hb pa_nil (star_ok hn2)) (star_ok hn)) (by rw [star_ok hn, star_ok hn2]; rfl) (star_ok hn2)) ?_
  rintro σ H R ⟨B, F, env, ts, hs, ho⟩
  rw [evI] at ho
  refine ⟨B, F, env, ts, hs, seq1 (α := List D × List Nat) ho fun r1 e1 v1 H1 F1 s1 g1 ho => ⟨B, F1, e1, _, g1, seq1 (α := List D × List Nat) ho fun r2 e2 v2 H2 F2 s2 g2 ho => ?_⟩⟩
  cases q1 : r1.dat e2 with
  | none => rw [q1] at ho; exact ho.elim
  | some d =>
    cases q2 : r2.dat e2 with
    | none => rw [q1, q2] at ho; cases d <;> exact ho.elim
    | some d2 =>
      rw [q1, q2] at ho
      cases d <;> try exact ho.elim
      cases d2 <;> try exact ho.elim
      rename_i i j
      have hv := (TAt.viewH g2 (List.mem_cons_of_mem _ List.mem_cons_self) q1).int
      have hv : v1 = .int i := hv
      subst hv
      have hv := (TAt.viewH g2 List.mem_cons_self q2).int
      have hv : v2 = .int j := hv
      subst hv
      have ho : Out K adr PN W B F2 σ _ (if (smallB i && smallB j) = true then .ok (rngI i j, []) e2 else .bad) _ := ho
      split at ho
      · rename_i hj
        rw [Bool.and_eq_true] at hj
        exact ⟨i, j, rfl, ⟨(small_ok hj.1).1, (small_ok hj.1).2, (small_ok hj.2).1, (small_ok hj.2).2⟩, ho (Itr i (j - i).toNat) H2 F2 [] (s1.trans s2) g2.pop.pop walk_range no_lk⟩
      · exact ho.elim
theorem lk_get {lk : List (Addr × O)} (g : StT K adr PN B F env σ H ts) (hl : LkOk env σ lk) : ∀ p ∈ lk, OAt K adr F H p.2 p.1 := fun p m => by
  obtain ⟨i, z1, z2⟩ := hl p m
  obtain ⟨v, y1, y2⟩ := g.sl i _ z1
  rw [z2] at y1; cases y1
  obtain ⟨a, e, _, _, h⟩ := y2
  cases e
  exact h
theorem LkOk.lock {lk : List (Addr × O)} {is : List Nat} (h : LkOk env σ lk) : LkOk (Ky.lock is env) σ lk := fun p m => by
  obtain ⟨i, z1, z2⟩ := h p m
  refine ⟨i, ?_, z2⟩
  rcases lock_get is env i with l | ⟨_, o, l1, _⟩
  · rw [l]; exact z1
  · rw [z1] at l1; rcases l1 with z | z <;> cases z
theorem ri_enum {elts : List Expr} {kk : Nat} {tpos : Pos} (hX : XOk P w K mg base G lv c PN W X) (hg : Gl X "enumerate") (hm : mg "enumerate" = none) (ha : PE X q (RE K adr G call PN W a)) (hn : notStar q = true) : PI X (.Tuple elts kk tpos) (.Call (.Name "enumerate" pos2) [q] [] pos) (RI K adr G call PN W (.enum a)) := by
  refine PI.im (pi_enum hg (by rw [hX.hm]; exact hm) (pa_cons ha pa_nil (star_ok hn)) (star_ok hn)) ?_
  rintro σ H R ⟨B, F, env, ts, hs, ho⟩
  rw [evI] at ho
  refine ⟨B, F, env, ts, hs, seq1 (α := List D × List Nat) ho fun r e v H1 F1 s1 g ho => ?_⟩
  obtain ⟨d, q1, ho⟩ := dat_some ho
  cases q2 : itemsD d with
  | none => rw [q2] at ho; exact ho.elim
  | some xs =>
    rw [q2] at ho
    have ho : Out K adr PN W B F1 σ _ (if isLd d = true then .ok (enumD xs, lks r) e else .bad) _ := ho
    split at ho
    · rename_i hb
      obtain ⟨F2, lk, s2, g2, hl, hsrc⟩ := src_of g q1 q2
      rw [hX.hK]
      obtain ⟨a0, ea, hw⟩ := id hsrc
      subst ea
      obtain ⟨vs, w1, w2⟩ := hw F2 H1 Same.rfl' g2.sf g2.sb (lk_get g2 hl)
      rw [hb] at w1 hsrc
      exact ⟨a0, vs, rfl, w1, ho _ H1 F2 lk (s1.trans s2) g2 (walk_enum hsrc) hl⟩
    · exact ho.elim
theorem ri_zip {elts : List Expr} {kk : Nat} {tpos : Pos} (hX : XOk P w K mg base G lv c PN W X) (hg : Gl X "zip") (hm : mg "zip" = none) (ha : PE X q (RE K adr G call PN W a)) (hn : notStar q = true) (hb : PE X r (RE K adr G call PN W b)) (hn2 : notStar r = true) :
    PI X (.Tuple elts kk tpos) (.Call (.Name "zip" pos2) [q, r] [] pos) (RI K adr G call PN W (.zip a b)) := by
  refine PI.im (RZ.pi_zipA hg (by rw [hX.hm]; exact hm) (pa_cons ha (pa_cons hb pa_nil (star_ok hn2)) (star_ok hn)) (star_ok hn) (star_any (by rw [List.all_cons, hn2]; rfl))) ?_
  rintro σ H R ⟨B, F, env, ts, hs, ho⟩
  rw [evI] at ho
  refine ⟨B, F, env, ts, hs, seq1 (α := List D × List Nat) ho fun r1 e1 v1 H1 F1 s1 g1 ho => ⟨B, F1, e1, _, g1, seq1 (α := List D × List Nat) ho fun r2 e2 v2 H2 F2 s2 g2 ho => ?_⟩⟩
  obtain ⟨d1, d2, q1, q2, ho⟩ := dat_some2 ho
  cases i1 : itemsD d1 with
  | none => rw [i1] at ho; exact ho.elim
  | some xs =>
    cases i2 : itemsD d2 with
    | none => rw [i1, i2] at ho; exact ho.elim
    | some ys =>
      rw [i1, i2] at ho
      have ho : Out K adr PN W B F2 σ _ (if isLd d1 = isLd d2 ∧ ndN (lks r1 ++ lks r2) = true then .ok (zipD xs ys, lks r1 ++ lks r2) e2 else .bad) _ := ho
      split at ho
      · rename_i hc
        obtain ⟨F3, lk1, s3, g3, hl1, src1⟩ := src_of (g2.perm (List.Perm.swap _ _ _)) q1 i1
        obtain ⟨F4, lk2, s4, g4, hl2, src2⟩ := src_of g3 (by rw [dat_lock]; exact q2) i2
        have hl : LkOk (lock (lks r2) (lock (lks r1) e2)) σ (lk1 ++ lk2) := fun p m => (List.mem_append.mp m).elim (fun m => hl1.lock p m) (fun m => hl2 p m)
        have S1 : Src K adr B F4 (lk1 ++ lk2) (isLd d1) v1 xs := src1.mono s4 fun p m => List.mem_append_left _ m
        have S2 : Src K adr B F4 (lk1 ++ lk2) (isLd d2) v2 ys := src2.mono Same.rfl' fun p m => List.mem_append_right _ m
        rw [← lock_append] at g4 hl
        rw [hX.hK]
        obtain ⟨a0, ea, hw1⟩ := id S1
        subst ea
        obtain ⟨b0, eb, hw2⟩ := id S2
        subst eb
        obtain ⟨us, w1, w2⟩ := hw1 F4 H2 Same.rfl' g4.sf g4.sb (lk_get g4 hl)
        obtain ⟨vs, w3, w4⟩ := hw2 F4 H2 Same.rfl' g4.sf g4.sb (lk_get g4 hl)
        refine ⟨a0, b0, us, vs, rfl, ?_⟩
        have hk := fun J h => ho J H2 F4 (lk1 ++ lk2) (s1.trans (s2.trans (s3.trans s4))) g4 h hl
        have hc1 := hc.1
        cases hb : isLd d1 with
        | true =>
          rw [hb] at w1 S1 hc1
          rw [← hc1] at w3 S2
          exact .inl ⟨w1, w3, hk _ (walk_zip S1 S2)⟩
        | false =>
          rw [hb] at w1 S1 hc1
          rw [← hc1] at w3 S2
          exact .inr ⟨w1, w3, hk _ (walk_zipT S1 S2)⟩
      · exact ho.elim
end
end Ky
end
section
set_option Elab.async false
set_option linter.all false
set_option maxRecDepth 100000
set_option maxHeartbeats 1000000
/-! Ky, part W: slots are set; targets. -/
namespace Ky
open PySem PySem.Spec PyProof.Rows L2
section
variable {P : Program} {w : World} {K : PySem.W.Frag} {mg : Str → Option Value} {base : Heap} {adr : Str → Addr} {G : GT} {fn : Str → Option Fn} {call : Str → List S → CR} {lv : Nat} {c : Cf} {PN : Addr → Addr → Option Addr → Prop} {W : WX} {X : Cx}
variable {a b d : Ex} {es : Exs} {p q r : Expr} {ps : List Expr} {pos pos2 pos3 pos4 : Pos}
variable {B F F' H H' : Hp} {env e1 env' : Env} {σ : St} {ts : List (R × V)}

theorem put_eq {i : Nat} {s : S} (h : put i s env = some env') : env' = env.set i (some s) ∧ i < env.length ∧ ∀ t, env[i]? = some (some t) → t.isBL = false := by
  unfold put at h
  cases q : env[i]? with
  | none => rw [q] at h; cases h
  | some x =>
    have hi := (List.getElem?_eq_some_iff.mp q).1
    rw [q] at h
    cases x with
    | none => cases h; exact ⟨rfl, hi, fun t e => by cases e⟩
    | some t => cases t <;> first | (cases h; done) | (cases h; exact ⟨rfl, hi, fun t e => by cases e; rfl⟩)
/-- a slot is set to a value that lies somewhere -/
theorem StT.set1 {i : Nat} {s : S} {v : V} (h : StT K adr PN B F env σ H ts) (hi : i < env.length) (hl : i < σ.length) (hs : SAt K adr PN B F H s v) (hd : ∀ a, v = .ref a → s.isO = true → (∀ j, ¬ ObS env σ j a) ∧ a ∉ ts.filterMap tAdr) (nt : ∀ t ∈ ts, t.1 ≠ .sl i) :
    StT K adr PN B F (env.set i (some s)) (σ.set i (some v)) H ts := by
  have ob : ∀ j a, ObS (env.set i (some s)) (σ.set i (some v)) j a → (j = i ∧ v = .ref a ∧ s.isO = true) ∨ (j ≠ i ∧ ObS env σ j a) := fun j a ⟨⟨t, q1, q2⟩, q3⟩ => by
    by_cases hj : j = i
    · subst hj
      rw [List.getElem?_set_self hi] at q1
      rw [List.getElem?_set_self hl] at q3
      cases q1; cases q3
      exact .inl ⟨rfl, rfl, q2⟩
    · rw [List.getElem?_set_ne (Ne.symm hj)] at q1 q3
      exact .inr ⟨hj, ⟨t, q1, q2⟩, q3⟩
  refine ⟨h.sb, h.sf, h.dj, fun j t q => ?_, fun t ht => ?_, fun j k a n q1 q2 => ?_, fun j a q z => ?_, h.d3⟩
  · by_cases hj : j = i
    · subst hj
      rw [List.getElem?_set_self hi] at q
      cases q
      exact ⟨v, List.getElem?_set_self hl, hs⟩
    · rw [List.getElem?_set_ne (Ne.symm hj)] at q
      obtain ⟨u, g1, g2⟩ := h.sl j t q
      exact ⟨u, by rw [List.getElem?_set_ne (Ne.symm hj)]; exact g1, g2⟩
  · obtain ⟨r, u⟩ := t
    have g := h.tm _ ht
    cases r with
    | v d => exact g
    | own o => exact g
    | sl j =>
      have hj : j ≠ i := fun e => nt _ ht (by rw [e])
      obtain ⟨g1, t, g2⟩ := g
      exact ⟨by rw [List.getElem?_set_ne (Ne.symm hj)]; exact g1, t, by rw [List.getElem?_set_ne (Ne.symm hj)]; exact g2⟩
  · rcases ob j a q1 with ⟨rfl, e, so⟩ | ⟨n1, o1⟩
    · rcases ob k a q2 with ⟨rfl, _, _⟩ | ⟨_, o2⟩
      · exact n rfl
      · exact (hd a e so).1 k o2
    · rcases ob k a q2 with ⟨rfl, e, so⟩ | ⟨_, o2⟩
      · exact (hd a e so).1 j o1
      · exact h.d1 j k a n o1 o2
  · rcases ob j a q with ⟨_, e, so⟩ | ⟨_, o1⟩
    · exact (hd a e so).2 z
    · exact h.d2 j a o1 z
theorem StT.putV {i : Nat} {v : V} {d : D} (h : StT K adr PN B F env σ H ((.v d, v) :: ts)) (q : put i (.v d) env = some env') (hl : i < σ.length) (nt : ∀ t ∈ ts, t.1 ≠ .sl i) : StT K adr PN B F env' (σ.set i (some v)) H ts := by
  obtain ⟨rfl, hi, _⟩ := put_eq q
  exact h.pop.set1 hi hl (h.tm _ List.mem_cons_self) (fun a _ z => by cases z) nt
theorem StT.putO {i : Nat} {v : V} {o : O} (h : StT K adr PN B F env σ H ((.own o, v) :: ts)) (q : put i (.own o) env = some env') (hl : i < σ.length) (nt : ∀ t ∈ ts, t.1 ≠ .sl i) : StT K adr PN B F env' (σ.set i (some v)) H ts := by
  obtain ⟨rfl, hi, _⟩ := put_eq q
  obtain ⟨p, ev, hB, hF, ho⟩ := h.tm _ List.mem_cons_self
  have ev : v = .ref p := ev
  subst ev
  have h3 := h.d3
  rw [List.filterMap_cons, show tAdr (R.own o, V.ref p) = some p from rfl] at h3
  refine h.pop.set1 hi hl ⟨p, rfl, hB, hF, ho⟩ (fun a e _ => ?_) nt
  cases e
  refine ⟨fun j o => h.d2 j p o ?_, (List.nodup_cons.mp h3).1⟩
  rw [List.filterMap_cons, show tAdr (R.own _, V.ref p) = some p from rfl]
  exact List.mem_cons_self
/-- what is stored of a value, set -/
theorem StT.putS {i : Nat} {v : V} {r : R} {s : S} {e : Env} (h : StT K adr PN B F env σ H ((r, v) :: ts)) (q1 : toS r env = some (s, e)) (q2 : put i s e = some env') (hl : i < σ.length) (nt : ∀ t ∈ ts, t.1 ≠ .sl i) : ∃ F', Same F F' ∧ StT K adr PN B F' env' (σ.set i (some v)) H ts := by
  have viaF : ∀ d e, frz r env = some (d, e) → put i (.v d) e = some env' → ∃ F', Same F F' ∧ StT K adr PN B F' env' (σ.set i (some v)) H ts := fun d e z y => by
    obtain ⟨F1, s1, g⟩ := h.frz1 z
    exact ⟨F1, s1, g.putV y hl nt⟩
  cases r with
  | own o => cases q1; exact ⟨F, Same.rfl', h.putO q2 hl nt⟩
  | v d => cases q1; exact viaF d _ rfl q2
  | sl j =>
    have q1 : (match frz (.sl j) env with | some (d, e) => some (S.v d, e) | none => none) = some (s, e) := q1
    cases z : frz (.sl j) env with
    | none => rw [z] at q1; cases q1
    | some p =>
      obtain ⟨d, e2⟩ := p
      rw [z] at q1
      cases q1
      exact viaF d _ z q2
/-! targets -/
def Tg.vars : Tg → List Nat | .nm i => [i] | .tp is => is
variable (K adr PN) in
def RG (c : Cf) (g : Tg) : TG := fun v σ H Q => σ.length = c.N.length → ∃ B F env ts d e', StT K adr PN B F env σ H ((.v d, v) :: ts) ∧ asgT g d env = some e' ∧ (∀ t ∈ ts, ∀ i ∈ g.vars, t.1 ≠ .sl i) ∧
  ∀ σ', (∀ j, j ∉ g.vars → σ'[j]? = σ[j]?) → σ'.length = σ.length → StT K adr PN B F e' σ' H ts → Q σ' H
theorem PG.imI {tg : Expr} {t t' : TG} (h : PG X tg t) (k : ∀ v σ H Q, σ.length = X.N.length → t' v σ H Q → t v σ H Q) : PG X tg t' := ⟨fun pins s σ H v u Q I r q => h.run pins s σ H v u Q I r (k v σ H Q I.len q)⟩
theorem rg_nm {i : Nat} {x : Str} (hX : XOk P w K mg base G lv c PN W X) (hN : c.N[i]? = some x) (hl : SetOk c x) : PG X (.Name x pos) (RG K adr PN c (.nm i)) := by
  refine PG.imI (pg_name (i := i) (by rw [hX.hN]; exact hX.nd) (by rw [hX.hN]; exact hN) (by rw [hX.hs]; exact hl.imp (fun z => z) (fun z => z.1)) ?_) ?_
  · rcases hl with hl | hl
    · exact .inr (by rw [hX.hs]; exact hl)
    · exact .inl (by rw [hX.fnc]; exact hl.2)
  · intro v σ H Q hlen h
    rw [hX.hN] at hlen
    obtain ⟨B, F, env, ts, d, e', hs, q, nt, hk⟩ := h hlen
    have hi : i < σ.length := by rw [hlen]; exact (List.getElem?_eq_some_iff.mp hN).1
    exact hk _ (fun j hj => List.getElem?_set_ne fun e => hj (by rw [e]; exact List.mem_singleton.mpr rfl)) List.length_set (hs.putV q hi fun t ht => nt t ht i (List.mem_singleton.mpr rfl))
/-- several names -/
def asgN (is : List Nat) (ds : List D) (env : Env) : Option Env := (is.zip ds).foldl (fun e p => e.bind (put p.1 (.v p.2))) (some env)
theorem asgN_none (l : List (Nat × D)) : l.foldl (fun e p => e.bind (put p.1 (.v p.2))) (none : Option Env) = none := by
  induction l with
  | nil => rfl
  | cons p l ih => rw [List.foldl_cons]; exact ih
variable (K adr PN) in
def RGs (c : Cf) (is : List Nat) : TGs := fun vs σ H Q => σ.length = c.N.length → ∃ B F env ts ds e', StT K adr PN B F env σ H ts ∧ RepL K adr F ds vs ∧ ds.length = is.length ∧ asgN is ds env = some e' ∧ (∀ t ∈ ts, ∀ i ∈ is, t.1 ≠ .sl i) ∧
  ∀ σ', (∀ j, j ∉ is → σ'[j]? = σ[j]?) → σ'.length = σ.length → StT K adr PN B F e' σ' H ts → Q σ' H
theorem PGs.imI {tg : List Expr} {t t' : TGs} (h : PGs X tg t) (k : ∀ v σ H Q, σ.length = X.N.length → t' v σ H Q → t v σ H Q) : PGs X tg t' := ⟨fun pins s σ H v u Q I r q => h.run pins s σ H v u Q I r (k v σ H Q I.len q)⟩
/-- the names of a target list -/
inductive NmsOk (c : Cf) : List Nat → List Expr → Prop where
  | nil : NmsOk c [] []
  | cons {i : Nat} {x : Str} {pos : Pos} {is : List Nat} {es : List Expr} (h : c.N[i]? = some x) (l : SetOk c x) (r : NmsOk c is es) : NmsOk c (i :: is) (.Name x pos :: es)
theorem rgs_nms {is : List Nat} {es : List Expr} (hX : XOk P w K mg base G lv c PN W X) (h : NmsOk c is es) : PGs X es (RGs K adr PN c is) := by
  induction h with
  | nil =>
    refine PGs.imI pgs_nil fun vs σ H Q hlen h => ?_
    rw [hX.hN] at hlen
    obtain ⟨B, F, env, ts, ds, e', hs, hr, hl, q, nt, hk⟩ := h hlen
    cases ds with
    | cons _ _ => cases hl
    | nil =>
      have hr : vs = [] := hr
      cases q
      exact ⟨hr, hk σ (fun _ _ => rfl) rfl hs⟩
  | @cons i x pos is es hN hl r ih =>
    refine PGs.imI (pgs_cons (rg_nm (adr := adr) hX hN hl) ih) fun vs σ H Q hlen h => ?_
    rw [hX.hN] at hlen
    obtain ⟨B, F, env, ts, ds, e', hs, hr, hdl, q, nt, hk⟩ := h hlen
    cases ds with
    | nil => cases hdl
    | cons d ds =>
      obtain ⟨v, vr, rfl, h1, h2⟩ := hr
      have q : (is.zip ds).foldl (fun e p => e.bind (put p.1 (.v p.2))) ((some env).bind (put i (.v d))) = some e' := q
      rw [Option.bind_some] at q
      cases q1 : put i (.v d) env with
      | none => rw [q1, asgN_none] at q; cases q
      | some e2 =>
        rw [q1] at q
        refine ⟨v, vr, rfl, fun _ => ⟨B, F, env, ts, d, e2, hs.data h1, q1, fun t ht j hj => nt t ht j ?_, fun σ1 k1 k2 g => fun hlen2 => ⟨B, F, e2, ts, ds, e', g, h2, by simpa using hdl, q, fun t ht j hj => nt t ht j (List.mem_cons_of_mem _ hj), fun σ2 k3 k4 g2 => ?_⟩⟩⟩
        · have : j = i := by simpa [Tg.vars] using hj
          rw [this]; exact List.mem_cons_self
        · refine hk σ2 (fun j hj => ?_) (k4.trans k2) g2
          rw [k3 j fun m => hj (List.mem_cons_of_mem _ m)]
          exact k1 j fun m => hj (by have : j = i := by simpa [Tg.vars] using m
                                     rw [this]; exact List.mem_cons_self)
theorem nms_each {is : List Nat} {es : List Expr} (h : NmsOk c is es) (env : PySem.Env) : (assignEach es env).length = is.length ∧ (assignEach es env).findIdx? (·.1) = none := by
  induction h with
  | nil => exact ⟨rfl, rfl⟩
  | @cons i x pos is es hN hl r ih =>
    show ((false, assign (.Name x pos) env) :: assignEach es env).length = _ ∧ ((false, assign (.Name x pos) env) :: assignEach es env).findIdx? (·.1) = none
    refine ⟨by rw [List.length_cons, ih.1, List.length_cons], ?_⟩
    rw [List.findIdx?_cons, ih.2]
    rfl
theorem rg_tp {is : List Nat} {k : Nat} (hX : XOk P w K mg base G lv c PN W X) (hc : G.hot = false) (h : NmsOk c is ps) : PG X (.Tuple ps k pos) (RG K adr PN c (.tp is)) := by
  refine PG.imI (pg_tup (n := is.length) (hX.calm hc) (rgs_nms (adr := adr) hX h) (nms_each h _).1 (nms_each h _).2) fun v σ H Q hlen h => ?_
  rw [hX.hN] at hlen
  obtain ⟨B, F, env, ts, d, e', hs, q, nt, hk⟩ := h hlen
  unfold asgT at q
  simp only at q
  cases d <;> try (cases q; done)
  rename_i ds
  simp only at q
  split at q
  · rename_i hl
    obtain ⟨a, vs, rfl, h1, h2⟩ := hs.tm (R.v (.tup ds), v) List.mem_cons_self
    rw [hX.hK]
    exact ⟨a, vs, rfl, Same.sqT hs.sf h1, by rw [h2.length, hl], fun _ => ⟨B, F, env, ts, ds, e', hs.pop, h2, hl, q, nt, hk⟩⟩
  · cases q
end
end Ky
end
section
set_option Elab.async false
set_option linter.all false
set_option maxRecDepth 100000
set_option maxHeartbeats 1000000
/-! Ky, part X: comprehensions. -/
namespace Ky
open PySem PySem.Spec PyProof.Rows L2
section
variable {P : Program} {w : World} {K : PySem.W.Frag} {mg : Str → Option Value} {base : Heap} {adr : Str → Addr} {G : GT} {fn : Str → Option Fn} {call : Str → List S → CR} {lv : Nat} {c : Cf} {PN : Addr → Addr → Option Addr → Prop} {W : WX} {X : Cx}
variable {a b d : Ex} {es : Exs} {p q r : Expr} {ps : List Expr} {pos pos2 pos3 pos4 : Pos}
variable {B F F' H H' : Hp} {env e1 env' : Env} {σ σ' : St} {ts : List (R × V)}

theorem wipe_len (σ : St) (vs : List Nat) : (wipe σ vs).length = σ.length := wipe_length σ vs
theorem wipe_get {i : Nat} : ∀ {vs : List Nat}, i ∉ vs → (wipe σ vs)[i]? = σ[i]?
  | [], _ => rfl
  | v :: vs, h => by
    have h1 : i ≠ v := fun e => h (by rw [e]; exact List.mem_cons_self)
    unfold wipe
    rw [List.getElem?_set_ne (Ne.symm h1)]
    exact wipe_get fun m => h (List.mem_cons_of_mem _ m)
theorem wipe_at {i : Nat} : ∀ {vs : List Nat}, i ∈ vs → i < σ.length → (wipe σ vs)[i]? = some none
  | v :: vs, h, l => by
    unfold wipe
    by_cases h1 : i = v
    · subst h1; exact List.getElem?_set_self (by rw [wipe_len]; exact l)
    · rw [List.getElem?_set_ne (Ne.symm h1)]; exact wipe_at ((List.mem_cons.mp h).resolve_left h1) l
theorem wipe_eq {vs : List Nat} (hl : σ'.length = σ.length) (h : ∀ j, j ∉ vs → σ'[j]? = σ[j]?) : wipe σ' vs = wipe σ vs := by
  apply List.ext_getElem?
  intro j
  by_cases m : j ∈ vs
  · by_cases l : j < σ.length
    · rw [wipe_at m l, wipe_at m (by rw [hl]; exact l)]
    · rw [List.getElem?_eq_none (by rw [wipe_len]; omega), List.getElem?_eq_none (by rw [wipe_len]; omega)]
  · rw [wipe_get m, wipe_get m]; exact h j m
theorem restE_at {e0 : Env} {i : Nat} : ∀ {vs : List Nat}, i ∈ vs → i < env.length → (restE e0 env vs)[i]? = some (e0[i]?.getD none)
  | v :: vs, h, l => by
    unfold restE
    by_cases h1 : i = v
    · subst h1; exact List.getElem?_set_self (by rw [restE_len]; exact l)
    · rw [List.getElem?_set_ne (Ne.symm h1)]; exact restE_at ((List.mem_cons.mp h).resolve_left h1) l
/-- the slots of the block's own names forgotten -/
theorem StT.wiped {vs : List Nat} (h : StT K adr PN B F env σ H ts) (nt : ∀ t ∈ ts, ∀ i ∈ vs, t.1 ≠ .sl i) : StT K adr PN B F (wipeE env vs) (wipe σ vs) H ts := by
  have ob : ∀ i a, ObS (wipeE env vs) (wipe σ vs) i a → ObS env σ i a := fun i a ⟨⟨s, q1, q2⟩, q3⟩ => by
    have m : i ∉ vs := fun m => wipeE_in m q1
    rw [wipeE_get m] at q1
    rw [wipe_get m] at q3
    exact ⟨⟨s, q1, q2⟩, q3⟩
  refine ⟨h.sb, h.sf, h.dj, fun i s q => ?_, fun t ht => ?_, fun i j a n q1 q2 => h.d1 i j a n (ob i a q1) (ob j a q2), fun i a q => h.d2 i a (ob i a q), h.d3⟩
  · have m : i ∉ vs := fun m => wipeE_in m q
    rw [wipeE_get m] at q
    obtain ⟨v, h1, h2⟩ := h.sl i s q
    exact ⟨v, by rw [wipe_get m]; exact h1, h2⟩
  · obtain ⟨r, v⟩ := t
    have h1 := h.tm _ ht
    cases r with
    | v d => exact h1
    | own o => exact h1
    | sl i =>
      have m : i ∉ vs := fun m => nt _ ht i m rfl
      obtain ⟨g1, s, g2⟩ := h1
      exact ⟨by rw [wipe_get m]; exact g1, s, by rw [wipeE_get m]; exact g2⟩
/-- temporaries that stand in the block's own slots, as data -/
def convT (env : Env) (vs : List Nat) (t : R × V) : R × V := match t.1 with
  | .sl i => if i ∈ vs then (match env[i]? with | some (some (.v d)) => (.v d, t.2) | _ => t) else t
  | _ => t
theorem convT_adr {vs : List Nat} (t : R × V) : tAdr (convT env vs t) = tAdr t := by
  obtain ⟨r, v⟩ := t
  cases r with
  | v d => rfl
  | own o => rfl
  | sl i =>
    unfold convT
    simp only
    split
    · split <;> rfl
    · rfl
theorem StT.conv {vs : List Nat} (h : StT K adr PN B F env σ H ts) (hp : plainAt env vs = true) : StT K adr PN B F env σ H (ts.map (convT env vs)) ∧ ∀ t ∈ ts.map (convT env vs), ∀ i ∈ vs, t.1 ≠ .sl i := by
  have ea : (ts.map (convT env vs)).filterMap tAdr = ts.filterMap tAdr := by
    rw [List.filterMap_map]
    congr 1
    funext t
    exact convT_adr t
  refine ⟨⟨h.sb, h.sf, h.dj, h.sl, fun t ht => ?_, h.d1, fun i a q => by rw [ea]; exact h.d2 i a q, by rw [ea]; exact h.d3⟩, fun t ht i m e => ?_⟩
  · obtain ⟨⟨r, v⟩, hm, rfl⟩ := List.mem_map.mp ht
    have g := h.tm _ hm
    cases r with
    | v d => exact g
    | own o => exact g
    | sl i =>
      unfold convT
      simp only
      split
      · split
        · rename_i d q
          obtain ⟨g1, _⟩ := g
          obtain ⟨u, g3, g4⟩ := h.sl i _ q
          have g1 : σ[i]? = some (some v) := g1
          rw [g1] at g3; cases g3
          exact g4
        · exact g
      · exact g
  · obtain ⟨⟨r, v⟩, hm, rfl⟩ := List.mem_map.mp ht
    cases r with
    | v d => cases e
    | own o => cases e
    | sl j =>
      unfold convT at e
      simp only at e
      split at e
      · rename_i mj
        obtain ⟨_, s, q⟩ := h.tm _ hm
        obtain ⟨d, rfl⟩ := plain_at hp mj q
        rw [q] at e
        cases e
      · rename_i mj
        cases e
        exact mj m
/-- .. and back -/
theorem StT.rest {vs : List Nat} {e e3 : Env} {F1 H1 : Hp} {t : R × V} (h0 : StT K adr PN B F1 e σ H1 ts) (hp : plainAt e vs = true) (h : StT K adr PN B F e3 (wipe σ vs) H (t :: ts.map (convT e vs))) (s : Same F1 F) (hl : e3.length = e.length) (ht : ∀ i, t.1 ≠ .sl i) :
    StT K adr PN B F (restE e e3 vs) σ H (t :: ts) := by
  have ob : ∀ i a, ObS (restE e e3 vs) σ i a → ObS e3 (wipe σ vs) i a := fun i a ⟨⟨x, q1, q2⟩, q3⟩ => by
    have m : i ∉ vs := fun m => by obtain ⟨d, rfl⟩ := plain_at hp m (restE_in m q1); cases q2
    rw [restE_get m] at q1
    exact ⟨⟨x, q1, q2⟩, by rw [wipe_get m]; exact q3⟩
  have ea : (t :: ts.map (convT e vs)).filterMap tAdr = (t :: ts).filterMap tAdr := by
    have : (ts.map (convT e vs)).filterMap tAdr = ts.filterMap tAdr := by
      rw [List.filterMap_map]
      congr 1
      funext t
      exact convT_adr t
    rw [List.filterMap_cons, List.filterMap_cons, this]
  have d2 := h.d2
  have d3 := h.d3
  rw [ea] at d3
  refine ⟨h.sb, h.sf, h.dj, fun i x q => ?_, fun u hu => ?_, fun i j a n q1 q2 => h.d1 i j a n (ob i a q1) (ob j a q2), fun i a q => by rw [← ea]; exact d2 i a (ob i a q), d3⟩
  · by_cases m : i ∈ vs
    · have q := restE_in m q
      obtain ⟨d, rfl⟩ := plain_at hp m q
      obtain ⟨v, g1, g2⟩ := h0.sl i _ q
      exact ⟨v, g1, Rep.mono s _ _ g2⟩
    · rw [restE_get m] at q
      obtain ⟨v, g1, g2⟩ := h.sl i x q
      rw [wipe_get m] at g1
      exact ⟨v, g1, g2⟩
  · rcases List.mem_cons.mp hu with rfl | hu
    · have g := h.tm u List.mem_cons_self
      obtain ⟨r, v⟩ := u
      cases r with
      | v d => exact g
      | own o => exact g
      | sl i => exact absurd rfl (ht i)
    · have g := h.tm (convT e vs u) (List.mem_cons_of_mem _ (List.mem_map.mpr ⟨u, hu, rfl⟩))
      obtain ⟨r, v⟩ := u
      cases r with
      | v d => exact g
      | own o => exact g
      | sl i =>
        obtain ⟨k1, x, k2⟩ := h0.tm _ hu
        refine ⟨k1, ?_⟩
        by_cases m : i ∈ vs
        · have l : i < e3.length := by rw [hl]; exact (List.getElem?_eq_some_iff.mp k2).1
          refine ⟨x, ?_⟩
          rw [restE_at m l, k2]
          rfl
        · have ec : convT e vs (R.sl i, v) = (R.sl i, v) := by
            unfold convT
            simp only
            rw [if_neg m]
          rw [ec] at g
          obtain ⟨_, y, g2⟩ := g
          exact ⟨y, by rw [restE_get m]; exact g2⟩
/-- the object of the top temporary, changed -/
theorem StT.setTmp {a : Addr} {o o' : O} {u : HO} (h : StT K adr PN B F env σ H ((.own o, .ref a) :: ts)) (ho : OAt K adr F (upd H a u) o' a) : StT K adr PN B F env σ (upd H a u) ((.own o', .ref a) :: ts) := by
  obtain ⟨a', ea, hB, hF, _⟩ := h.tm _ List.mem_cons_self
  cases ea
  have h3 := h.d3
  rw [List.filterMap_cons, show tAdr (R.own o, V.ref a) = some a from rfl] at h3
  obtain ⟨n3, d3⟩ := List.nodup_cons.mp h3
  have keep : ∀ b w, b ≠ a → H b = some w → upd H a u b = some w := fun b w n q => by rw [upd_ne n]; exact q
  have nB : ∀ b w, B b = some w → b ≠ a := fun b w q z => by subst z; rw [hB] at q; cases q
  have nF : ∀ b w, F b = some w → b ≠ a := fun b w q z => by subst z; rw [hF] at q; cases q
  have d2 := h.d2
  rw [List.filterMap_cons, show tAdr (R.own o, V.ref a) = some a from rfl] at d2
  refine ⟨fun b w q => keep b w (nB b w q) (h.sb b w q), fun b w q => keep b w (nF b w q) (h.sf b w q), h.dj, fun j t q => ?_, fun t ht => ?_, h.d1, fun j b q => ?_, ?_⟩
  · obtain ⟨v, g1, g2⟩ := h.sl j t q
    refine ⟨v, g1, g2.mono Same.rfl' (fun _ z _ => z) (fun b w z => ⟨⟨w, z⟩, fun y hy => keep b y (nB b w z) hy⟩) (fun _ _ _ z => z) (fun b w ev so' z => keep b w (fun ez => ?_) z)⟩
    subst ez
    exact d2 j b ⟨⟨t, q, so'⟩, by rw [g1, ev]⟩ List.mem_cons_self
  · rcases List.mem_cons.mp ht with rfl | ht2
    · exact ⟨a, rfl, hB, hF, ho⟩
    · have g := h.tm t (List.mem_cons_of_mem _ ht2)
      refine TAt.mono (env := env) (B := B) (B' := B) g Same.rfl' (fun _ z _ => z) (fun _ _ z => z) (fun b w ev z => keep b w (fun ez => ?_) z)
      subst ez
      exact n3 (List.mem_filterMap.mpr ⟨t, ht2, ev⟩)
  · rw [List.filterMap_cons, show tAdr (R.own o', V.ref a) = some a from rfl]
    exact d2 j b q
  · rw [List.filterMap_cons, show tAdr (R.own o', V.ref a) = some a from rfl]
    exact h3
/-- the block's context -/
def Cf.blk (c : Cf) (scope : Scope) : Cf := ⟨c.N, relS scope c.sc, fun x => scope.names.lookup x == some .cell⟩
theorem XOk.blk {s : Shared} {H : Hp} {scope : Scope} {cl : List (Str × Addr)} {C : Addr} {fp : List Addr} (hX : XOk P w K mg base G lv c PN W X) (hc : G.hot = false) : XOk P w K mg base G lv (c.blk scope) PN (fun _ _ _ _ => False) (X.blk s H scope (compEnvC scope cl C X.env) fp) where
  hP := hX.hP
  hw := hX.hw
  hK := hX.hK
  hm := hX.hm
  hb := hX.hb
  hN := hX.hN
  hs := by
    show relabel scope X.env = relS scope c.sc
    rw [← hX.hs]
    rfl
  nd := hX.nd
  rooms := hX.rooms
  calm := hX.calm
  roomC := hX.roomC
  hotc := fun z => by rw [hc] at z; cases z
  un := hX.un
  tk := fun u s' ⟨_, _, _, _, _, _, _, _, _, _, _, _, _, _, _, _, w⟩ => w.elim
  fnc := rfl
  pn0 := hX.pn0
  pnk := fun a C d z => absurd z (hX.pn0 hc a C d)
theorem plain_lock {is vs : List Nat} {e : Env} (h : plainAt e vs = true) : plainAt (lock is e) vs = true ∧ ∀ v ∈ vs, (lock is e)[v]? = e[v]? := by
  have k : ∀ v ∈ vs, (lock is e)[v]? = e[v]? := fun v m => by
    rcases lock_get is e v with l | ⟨_, o, l1, _⟩
    · exact l
    · rcases l1 with l1 | l1 <;> (obtain ⟨d, z⟩ := plain_at h m l1; cases z)
  refine ⟨?_, k⟩
  unfold plainAt at h ⊢
  rw [List.all_eq_true] at h ⊢
  intro v m
  rw [k v m]
  exact h v m
theorem restE_congr {e e' : Env} : ∀ {vs : List Nat}, (∀ v ∈ vs, e'[v]? = e[v]?) → restE e' env vs = restE e env vs
  | [], _ => rfl
  | v :: vs, h => by
    unfold restE
    rw [h v List.mem_cons_self, restE_congr fun w m => h w (List.mem_cons_of_mem _ m)]
/-- the turn of a comprehension -/
def turnC (G : GT) (call : Str → List S → CR) (vs : List Nat) (g : Tg) (cnd : Tx) (el : Ex) (d : D) (acc : List D) (e1 : Env) : Rs (List D) := match asgT g d e1 with
  | some e2 => (evT G call cnd e2).bind fun b e3 => if b = true then
      (ev G call el e3).bind fun r e4 => (match frz r e4 with | some (x, e5) => if acc.length < lim then .ok (acc ++ [x]) (wipeE e5 vs) else .bad | none => .bad)
    else .ok acc (wipeE e3 vs)
  | none => .bad
theorem turnC_pre {vs : List Nat} {g : Tg} {cnd : Tx} {el : Ex} {d : D} {acc : List D} {e1 : Env} (hn : NoLk vs e1) : (turnC G call vs g cnd el d acc e1).all (Pre e1) := by
  unfold turnC
  split
  · rename_i e2 q
    have p1 := pre_asg q
    refine Rs.all_bind (p := Pre e1) (Rs.all_imp (evT_pre cnd e2) fun _ g => p1.trans g) (fun _ h => h) fun b e3 h3 => ?_
    split
    · refine Rs.all_bind (p := Pre e1) (Rs.all_imp (ev_pre el e3) fun _ g => h3.trans g) (fun _ h => h) fun r e4 h4 => ?_
      split
      · rename_i x e5 q5
        have h5 := h4.trans (pre_frz q5)
        split
        · exact h5.wipe2 (hn.pre h5).lk
        · trivial
      · trivial
    · exact h3.wipe2 (hn.pre h3).lk
  · trivial
/-- a locked object stands as long as evaluation goes on -/
theorem LkOk.pre {lk : List (Addr × O)} (h : LkOk env σ lk) (p : Pre env env') (hσ : ∀ (i : Nat) (o : O), env[i]? = some (some (.lk o)) → σ'[i]? = σ[i]?) : LkOk env' σ' lk := fun x m => by
  obtain ⟨i, z1, z2⟩ := h x m
  exact ⟨i, p.lk i _ z1, by rw [hσ i _ z1]; exact z2⟩
theorem comp_read {vs : List Nat} {g : Tg} {it : Itx} {cnd : Tx} {el : Ex} (hh : G.hot = false) (hgv : ∀ i ∈ g.vars, i ∈ vs) {σ : St} {H : Hp} {Q : VK} (h : RE K adr G call PN W (.comp vs g it cnd el) σ H Q) :
    tLc (RI K adr G call PN W it) (RG K adr PN c g) (RT K adr G call PN (fun _ _ _ _ => False) cnd) (RE K adr G call PN (fun _ _ _ _ => False) el) vs σ H Q := by
  obtain ⟨B, F, env, ts, hs, ho⟩ := h
  rw [ev, if_neg (by rw [hh]; exact Bool.false_ne_true)] at ho
  refine ⟨B, F, env, ts, hs, (Out.bind ho).imp fun p e _ ho J H1 F1 lk s1 g1 hw hlk => ?_⟩
  obtain ⟨ds, is⟩ := p
  have ho : Out K adr PN W B F σ ts (if plainAt e vs = true then (loopC (turnC G call vs g cnd el) ds [] (wipeE (lock is e) vs)).nx.bind (fun xs e2 => (match unlock e is e2 with | some e3 => Rs.ok (R.own (.L xs)) (restE e e3 vs) | none => Rs.bad)) else .bad) _ := ho
  split at ho
  · rename_i hp
    cases hloop : loopC (turnC G call vs g cnd el) ds [] (wipeE (lock is e) vs) with
    | bad => rw [hloop] at ho; exact ho.elim
    | exc _ _ _ => rw [hloop] at ho; exact ho.elim
    | ok xs e2 =>
      rw [hloop] at ho
      have ho : Out K adr PN W B F σ ts (match unlock e is e2 with | some e3 => Rs.ok (R.own (.L xs)) (restE e e3 vs) | none => .bad) _ := ho
      cases hun : unlock e is e2 with
      | none => rw [hun] at ho; exact ho.elim
      | some e3 =>
        rw [hun] at ho
        intro D hD
        obtain ⟨hpl, hsame⟩ := plain_lock (is := is) hp
        obtain ⟨gc, hnt⟩ := g1.conv hpl
        have gw := gc.wiped hnt
        have g0 := gw.push (New.lst gw.sf hD (xs := []) (vs := []) rfl)
        have n0 : NoLk vs (wipeE (lock is e) vs) := fun v m s q => absurd q (wipeE_in m)
        refine ⟨fun i m Hh => m = ds.length - i ∧ i ≤ ds.length ∧ ∃ acc env' F', Same F1 F' ∧ StT K adr PN B F' env' (wipe σ vs) Hh ((.own (.L acc), .ref D) :: ts.map (convT (lock is e) vs)) ∧ loopC (turnC G call vs g cnd el) (ds.drop i) acc env' = .ok xs e2 ∧ Pre (wipeE (lock is e) vs) env',
          ⟨ds.length, by simp, Nat.zero_le _, [], _, F1, Same.rfl', g0, hloop, Pre.rfl'⟩, ?_⟩
        rintro i m Hh ⟨rfl, hil, acc, env', F', sF, gi, hl, hpre⟩
        have hn := n0.pre hpre
        have lko : LkOk env' (wipe σ vs) lk := fun x mx => by
          obtain ⟨j, z1, z2⟩ := hlk x mx
          have nj : j ∉ vs := fun mj => by obtain ⟨d, z⟩ := plain_at hpl mj z1; cases z
          exact ⟨j, hpre.lk j _ (by rw [wipeE_get nj]; exact z1), by rw [wipe_get nj]; exact z2⟩
        obtain ⟨hstop, hitem⟩ := hw F' Hh sF gi.sf gi.sb (lk_get gi lko)
        by_cases hlt : i < ds.length
        · rw [List.drop_eq_getElem_cons hlt] at hl
          obtain ⟨hgo, hyld⟩ := hitem i ds[i] (List.getElem?_eq_getElem hlt)
          cases hturn : turnC G call vs g cnd el ds[i] acc env' with
          | bad => unfold loopC at hl; rw [hturn] at hl; cases hl
          | exc _ _ _ => unfold loopC at hl; rw [hturn] at hl; cases hl
          | ok acc2 env2 =>
            unfold loopC at hl
            rw [hturn] at hl
            have hl : loopC (turnC G call vs g cnd el) (ds.drop (i + 1)) acc2 env2 = .ok xs e2 := hl
            have hpre2 : Pre env' env2 := by
              have := turnC_pre (G := G) (call := call) (vs := vs) (g := g) (cnd := cnd) (el := el) (d := ds[i]) (acc := acc) hn
              rw [hturn] at this
              exact this
            have nx : ∀ {Hx : Hp} {Fx : Hp}, Same F1 Fx → StT K adr PN B Fx env2 (wipe σ vs) Hx ((.own (.L acc2), .ref D) :: ts.map (convT (lock is e) vs)) → (ds.length - (i + 1) = ds.length - (i + 1) ∧ i + 1 ≤ ds.length ∧ ∃ acc env' F', Same F1 F' ∧ StT K adr PN B F' env' (wipe σ vs) Hx ((.own (.L acc), .ref D) :: ts.map (convT (lock is e) vs)) ∧ loopC (turnC G call vs g cnd el) (ds.drop (i + 1)) acc env' = .ok xs e2 ∧ Pre (wipeE (lock is e) vs) env') := fun sx gx => ⟨rfl, hlt, acc2, env2, _, sx, gx, hl, hpre.trans hpre2⟩
            refine .inr ⟨hgo, fun Hx => (ds.length - (i + 1) = ds.length - (i + 1) ∧ i + 1 ≤ ds.length ∧ ∃ acc env' F', Same F1 F' ∧ StT K adr PN B F' env' (wipe σ vs) Hx ((.own (.L acc), .ref D) :: ts.map (convT (lock is e) vs)) ∧ loopC (turnC G call vs g cnd el) (ds.drop (i + 1)) acc env' = .ok xs e2 ∧ Pre (wipeE (lock is e) vs) env'), fun Hx hx => ⟨ds.length - (i + 1), by omega, hx⟩, fun x H3 y => ?_⟩
            obtain ⟨F3, hnew⟩ := hyld x H3 y
            have g3 := gi.push hnew
            unfold turnC at hturn
            cases hasg : asgT g ds[i] env' with
            | none => rw [hasg] at hturn; cases hturn
            | some ea =>
              rw [hasg] at hturn
              have hturn : ((evT G call cnd ea).bind fun b e3 => if b = true then
                  (ev G call el e3).bind fun r e4 => (match frz r e4 with | some (x, e5) => if acc.length < lim then .ok (acc ++ [x]) (wipeE e5 vs) else .bad | none => .bad)
                else .ok acc (wipeE e3 vs)) = Rs.ok acc2 env2 := hturn
              intro hlen
              have ntt : ∀ t ∈ ((R.own (.L acc), V.ref D) :: ts.map (convT (lock is e) vs)), ∀ j ∈ vs, t.1 ≠ .sl j := fun t ht j mj => by
                rcases List.mem_cons.mp ht with rfl | ht
                · exact fun z => by cases z
                · exact hnt t ht j mj
              refine ⟨B, F3, env', _, ds[i], ea, g3, hasg, fun t ht j mj => ntt t ht j (hgv j mj), fun σ2 k1 k2 g4 => ?_⟩
              have hwipe : wipe σ2 vs = wipe σ vs := wipe_eq (k2.trans (wipe_len _ _)) fun j nj => by
                rw [k1 j fun m => nj (hgv j m), wipe_get nj]
              refine ⟨hwipe, B, F3, ea, _, g4, ?_⟩
              cases hT : evT G call cnd ea with
              | bad => rw [hT] at hturn; cases hturn
              | exc _ _ _ => rw [hT] at hturn; cases hturn
              | ok t e5 =>
                rw [hT] at hturn
                have hturn : (if t = true then (ev G call el e5).bind fun r e4 => (match frz r e4 with | some (x, e5) => if acc.length < lim then .ok (acc ++ [x]) (wipeE e5 vs) else .bad | none => .bad)
                  else .ok acc (wipeE e5 vs)) = Rs.ok acc2 env2 := hturn
                intro H5 F5 s5 g5
                cases t with
                | false =>
                  rw [if_neg Bool.false_ne_true] at hturn ⊢
                  cases hturn
                  have := g5.wiped ntt
                  rw [hwipe] at this
                  exact nx (sF.trans (hnew.sf.trans s5)) this
                | true =>
                  rw [if_pos rfl] at hturn ⊢
                  refine ⟨B, F5, e5, _, g5, ?_⟩
                  cases hE : ev G call el e5 with
                  | bad => rw [hE] at hturn; cases hturn
                  | exc _ _ _ => rw [hE] at hturn; cases hturn
                  | ok r e6 =>
                    rw [hE] at hturn
                    have hturn : (match frz r e6 with | some (x, e5) => if acc.length < lim then Rs.ok (acc ++ [x]) (wipeE e5 vs) else .bad | none => .bad) = Rs.ok acc2 env2 := hturn
                    intro v H6 F6 s6 g6
                    cases hF : frz r e6 with
                    | none => rw [hF] at hturn; cases hturn
                    | some z =>
                      obtain ⟨xd, e7⟩ := z
                      rw [hF] at hturn
                      have hturn : (if acc.length < lim then Rs.ok (acc ++ [xd]) (wipeE e7 vs) else .bad) = Rs.ok acc2 env2 := hturn
                      split at hturn
                      · rename_i hz
                        cases hturn
                        obtain ⟨F7, s7, g7⟩ := g6.frz1 hF
                        have rv : Rep K adr F7 xd v := g7.tm _ List.mem_cons_self
                        obtain ⟨p, ep, _, _, vsD, hD6, hrD⟩ := g7.pop.tm _ List.mem_cons_self
                        cases ep
                        refine ⟨vsD, hD6, by rw [hrD.length, ← lim_eq]; exact hz, ?_⟩
                        have g8 := (g7.pop.setTmp (o' := .L (acc ++ [xd])) (u := .lst (vsD ++ [v])) ⟨_, upd_same, RepL.app hrD (RepL.one rv)⟩).wiped (vs := vs) (fun t ht j mj => by
                          rcases List.mem_cons.mp ht with rfl | ht
                          · exact fun z => by cases z
                          · exact hnt t ht j mj)
                        rw [hwipe] at g8
                        exact nx (sF.trans (hnew.sf.trans (s5.trans (s6.trans s7)))) g8
                      · cases hturn
        · have hi : i = ds.length := by omega
          subst hi
          rw [List.drop_length] at hl
          cases hl
          refine .inl ⟨hstop, ?_⟩
          have gu := gi.unlocked hun
          have := g1.rest hpl gu sF ((unlock_len hun).trans (hpre.len.trans (wipeE_len _ _))) (fun i z => by cases z)
          rw [restE_congr hsame] at this
          exact ho (.ref D) Hh F' (s1.trans sF) this
  · exact ho.elim
theorem re_comp {vs : List Nat} {g : Tg} {it : Itx} {cnd : Tx} {el : Ex} {elt tg iter : Expr} {ifs : List Expr} {scope : Scope} {own : List (Str × Nat)} (hX : XOk P w K mg base G lv c PN W X) (hown : own.map (·.2) = vs) (ok : BlkOk c.N c.sc scope own) (hgv : ∀ i ∈ g.vars, i ∈ vs)
    (hi : G.hot = false → PI X tg iter (RI K adr G call PN W it)) (hg : G.hot = false → ∀ X', XOk P w K mg base G lv (c.blk scope) PN (fun _ _ _ _ => False) X' → PG X' tg (RG K adr PN (c.blk scope) g))
    (ht : G.hot = false → ∀ X', XOk P w K mg base G lv (c.blk scope) PN (fun _ _ _ _ => False) X' → PTs X' ifs (RT K adr G call PN (fun _ _ _ _ => False) cnd)) (he : G.hot = false → ∀ X', XOk P w K mg base G lv (c.blk scope) PN (fun _ _ _ _ => False) X' → PE X' elt (RE K adr G call PN (fun _ _ _ _ => False) el))
    (hfold : ∀ x, foldedSetIterable iter X.env x = pure x) : PE X (.ListComp elt [⟨tg, iter, ifs, 0⟩] scope pos) (RE K adr G call PN W (.comp vs g it cnd el)) := by
  cases hh : G.hot with
  | true =>
    refine ⟨fun pins s σ H Q I h => ?_⟩
    obtain ⟨B, F, env, ts, hs, ho⟩ := h
    rw [ev, if_pos hh] at ho
    exact ho.elim
  | false =>
    have okX : BlkOk X.N X.env.scope scope own := by rw [hX.hN, hX.hs]; exact ok
    refine PE.im (pe_lc (hX.calm hh) (by rw [hX.hN]; exact hX.nd) (hi hh) okX (fun s H C cl fp => hg hh _ (hX.blk hh)) (fun s H C cl fp => ht hh _ (hX.blk hh)) (fun s H C cl fp => he hh _ (hX.blk hh)) hfold) fun σ H Q h => ?_
    rw [hown]
    exact comp_read hh hgv h
end
end Ky
end
section
set_option Elab.async false
set_option linter.all false
set_option maxRecDepth 100000
set_option maxHeartbeats 2000000
/-! Ky, part Y: statements keep locked slots, too. -/
namespace Ky
open PySem PySem.Spec PyProof.Rows L2
def SR.all (p : Env → Prop) : SR → Prop | .next e => p e | .ret _ e => p e | .brk e => p e | .cont e => p e | .exc _ _ e => p e | .bad => True
theorem SR.all_imp {p q : Env → Prop} {x : SR} (h : x.all p) (k : ∀ e, p e → q e) : x.all q := by cases x <;> first | exact k _ h | trivial
theorem SR.all_to {α : Type} {env : Env} {x : Rs α} {f : α → Env → SR} (h : x.all (Pre env)) (hf : ∀ a e, (f a e).all (Pre e)) : (x.to f).all (Pre env) := by
  cases x with
  | ok a e => exact SR.all_imp (hf a e) fun _ g => Pre.trans h g
  | exc c fs e => exact h
  | bad => trivial
theorem SR.nx_all {env : Env} {o : Option Env} (h : ∀ e, o = some e → Pre env e) : (SR.nx o).all (Pre env) := by
  cases o with
  | none => trivial
  | some e => exact h e rfl
theorem pre_toS {r : R} {env e : Env} {s : S} (h : toS r env = some (s, e)) : Pre env e ∧ s.isBL = false := by
  have via : ∀ r : R, (match frz r env with | some (d, e) => some (S.v d, e) | none => none) = some (s, e) → Pre env e ∧ s.isBL = false := fun r h => by
    cases q : frz r env with
    | none => rw [q] at h; cases h
    | some p => obtain ⟨d, e2⟩ := p; rw [q] at h; cases h; exact ⟨pre_frz q, rfl⟩
  cases r with
  | own o => cases h; exact ⟨.rfl', rfl⟩
  | v d => exact via (.v d) h
  | sl i => exact via (.sl i) h
theorem loopF_pre {turn : D → Env → SR} {env0 : Env} (ht : ∀ d e, (turn d e).all (Pre e)) : ∀ (ds : List D) (env : Env), Pre env0 env → (loopF turn ds env).all (Pre env0)
  | [], env, h => h
  | d :: ds, env, h => by
    unfold loopF
    have h1 := ht d env
    cases q : turn d env with
    | next e => rw [q] at h1; exact loopF_pre ht ds e (h.trans h1)
    | cont e => rw [q] at h1; exact loopF_pre ht ds e (h.trans h1)
    | brk e => rw [q] at h1; exact h.trans h1
    | ret r e => rw [q] at h1; exact h.trans h1
    | exc c fs e => rw [q] at h1; exact h.trans h1
    | bad => trivial
theorem loopW_pre {test : Env → Rs Bool} {body : Env → SR} {env0 : Env} (ht : ∀ e, (test e).all (Pre e)) (hb : ∀ e, (body e).all (Pre e)) : ∀ (n : Nat) (env : Env), Pre env0 env → (loopW test body n env).all (Pre env0)
  | 0, env, h => trivial
  | n + 1, env, h => by
    unfold loopW
    have h1 := ht env
    cases q : test env with
    | bad => trivial
    | exc c fs e => rw [q] at h1; exact h.trans h1
    | ok b e =>
      rw [q] at h1
      have h1 : Pre env e := h1
      show SR.all (Pre env0) (if b = true then _ else _)
      split
      · have h2 := hb e
        cases q2 : body e with
        | next e2 => rw [q2] at h2; exact loopW_pre ht hb n e2 (h.trans (h1.trans h2))
        | cont e2 => rw [q2] at h2; exact loopW_pre ht hb n e2 (h.trans (h1.trans h2))
        | brk e2 => rw [q2] at h2; exact h.trans (h1.trans h2)
        | ret r e2 => rw [q2] at h2; exact h.trans (h1.trans h2)
        | exc c fs e2 => rw [q2] at h2; exact h.trans (h1.trans h2)
        | bad => trivial
      · exact h.trans h1
theorem dropX_get {env : Env} {i : Nat} {s : S} (h : (dropX env)[i]? = some (some s)) : env[i]? = some (some s) ∧ ∀ c fs, s ≠ .x c fs := by
  unfold dropX at h
  rw [List.getElem?_map] at h
  cases q : env[i]? with
  | none => rw [q] at h; cases h
  | some o =>
    rw [q] at h
    cases o with
    | none => cases h
    | some t => cases t <;> first | (cases h; exact ⟨rfl, fun _ _ z => by cases z⟩) | cases h
theorem Pre.dropX {env : Env} : Pre env (dropX env) := ⟨fun i s q k => ⟨s, (dropX_get q).1, k⟩, fun i o q => by
  unfold Ky.dropX
  rw [List.getElem?_map, q]
  rfl, by unfold Ky.dropX; rw [List.length_map]⟩
section
variable {G : GT} {callB : Bool → Str → List S → CR}
mutual
theorem exS_pre : ∀ (s : Sx) (h : Bool) (env : Env), (exS G callB s h env).all (Pre env)
  | .set i a, h, env => by
    rw [exS]
    refine SR.all_to (ev_pre a env) fun r e => ?_
    split
    · rename_i s e' q
      obtain ⟨p1, p2⟩ := pre_toS q
      exact SR.nx_all fun e3 q3 => p1.trans (pre_put p2 q3)
    · trivial
  | .asg is a, h, env => by
    rw [exS]
    split
    · trivial
    · refine SR.all_to (ev_pre a env) fun r e => ?_
      split
      · exact SR.nx_all fun e3 q3 => pre_asg q3
      · trivial
  | .par i j a b, h, env => by
    rw [exS]
    refine SR.all_to (ev_pre a env) fun r1 e1 => SR.all_to (ev_pre b e1) fun r2 e2 => ?_
    split
    · rename_i s1 e3 q1
      obtain ⟨p1, b1⟩ := pre_toS q1
      split
      · rename_i s2 e4 q2
        obtain ⟨p2, b2⟩ := pre_toS q2
        split
        · rename_i e5 q3
          exact SR.nx_all fun e6 q4 => p1.trans (p2.trans ((pre_put b2 q3).trans (pre_put b1 q4)))
        · trivial
      · trivial
    · trivial
  | .setIx i k a, h, env => by
    rw [exS]
    refine SR.all_to (ev_pre a env) fun r e => ?_
    split
    · rename_i d e' q
      have p0 := pre_frz q
      split
      · refine SR.all_imp (SR.all_to (env := e') (ev_pre k e') fun rk e2 => ?_) fun _ g => p0.trans g
        split
        · split
          · rename_i xs q1
            split
            · exact .set1 (fun s' z k => (by cases z; cases k)) fun o z => (by rw [q1] at z; cases z)
            · trivial
          · rename_i xs q1
            split
            · exact .set1 (fun s' z k => ⟨_, q1, rfl⟩) fun o z => (by rw [q1] at z; cases z)
            · trivial
          · trivial
        · trivial
      · trivial
    · trivial
  | .setFld i f a, h, env => by
    rw [exS]
    refine SR.all_to (ev_pre a env) fun r e => ?_
    split
    · rename_i d e' q
      have p0 := pre_frz q
      split
      · rename_i c fs q1
        split
        · exact p0.trans (.set1 (fun s' z k => ⟨_, q1, rfl⟩) fun o z => (by rw [q1] at z; cases z))
        · trivial
      · trivial
    · trivial
  | .aug i o a, h, env => by
    rw [exS]
    split
    · refine SR.all_to (ev_pre a env) fun r e => ?_
      repeat' first | exact SR.nx_all fun e3 q3 => pre_put rfl q3 | trivial | split
    · trivial
  | .ex a, h, env => by
    rw [exS]
    exact SR.all_to (ev_pre a env) fun r e => .rfl'
  | .ret a, h, env => by
    rw [exS]
    exact SR.all_to (ev_pre a env) fun r e => .rfl'
  | .retN, h, env => by rw [exS]; exact .rfl'
  | .ifs c a b, h, env => by
    rw [exS]
    refine SR.all_to (evT_pre c env) fun t e => ?_
    split
    · exact exSs_pre a h e
    · exact exSs_pre b h e
  | .for g it b, h, env => by
    rw [exS]
    split
    · trivial
    · refine SR.all_to (evI_pre it env) fun p e => ?_
      have hl := loopF_pre (turn := fun d e1 => match asgT g d e1 with | some e2 => exSs G callB b h e2 | none => .bad) (env0 := lock p.2 e) (fun d e1 => by
        split
        · rename_i e2 q; exact SR.all_imp (exSs_pre b h e2) fun _ g => (pre_asg q).trans g
        · trivial) p.1 (lock p.2 e) .rfl'
      generalize hx : loopF (fun d e1 => match asgT g d e1 with | some e2 => exSs G callB b h e2 | none => .bad) p.1 (lock p.2 e) = x at hl
      cases x with
      | next e2 => exact SR.nx_all fun e3 q => Pre.walked hl q
      | ret r e2 =>
        show SR.all (Pre e) (match unlock e p.2 e2 with | some e3 => .ret r e3 | none => .bad)
        split
        · rename_i e3 q; exact Pre.walked hl q
        · trivial
      | exc c fs e2 =>
        show SR.all (Pre e) (match unlock e p.2 e2 with | some e3 => .exc c fs e3 | none => .bad)
        split
        · rename_i e3 q; exact Pre.walked hl q
        · trivial
      | brk e2 => trivial
      | cont e2 => trivial
      | bad => trivial
  | .while c b, h, env => by
    rw [exS]
    split
    · trivial
    · exact loopW_pre (fun e => evT_pre c e) (fun e => exSs_pre b h e) G.lf env .rfl'
  | .raise c es, h, env => by
    rw [exS]
    split
    · trivial
    · refine SR.all_to (evs_pre es env) fun rs e => ?_
      split
      · rename_i ds e' fs q _
        split
        · exact pre_frzs q
        · trivial
      · trivial
  | .try1 b c i hd, h, env => by
    rw [exS]
    split
    · trivial
    · have hb := exSs_pre b h env
      generalize exSs G callB b h env = x at hb
      cases x with
      | exc c' fs e =>
        have hb : Pre env e := hb
        simp only
        split
        · split
          · split
            · rename_i e1 q
              have p1 := hb.trans (pre_put rfl q)
              obtain ⟨qe, ql, _⟩ := put_eq q
              have hh := exSs_pre hd true e1
              have nl : ∀ e2, Pre e1 e2 → ∀ o, e2[i]? ≠ some (some (.lk o)) := fun e2 g o z => by
                obtain ⟨s', q', k'⟩ := g.bl i _ z rfl
                rw [qe, List.getElem?_set_self ql] at q'
                cases q'
                cases k'
              generalize exSs G callB hd true e1 = y at hh
              have fin : ∀ e2, Pre e1 e2 → Pre env (dropX (e2.set i none)) := fun e2 g => ((p1.trans g).trans (.set1 (fun s' z k => (by cases z)) (nl e2 g))).trans Pre.dropX
              cases y with
              | next e2 => exact fin e2 hh
              | ret r e2 =>
                show SR.all (Pre env) (match frz r e2 with | some (d, e3) => .ret (.v d) (dropX (e3.set i none)) | none => .bad)
                split
                · rename_i d e3 q3
                  exact fin e3 (Pre.trans hh (pre_frz q3))
                · trivial
              | brk e2 => exact fin e2 hh
              | cont e2 => exact fin e2 hh
              | exc _ _ _ => trivial
              | bad => trivial
            · trivial
          · exact hb
        · trivial
      | next e => exact hb
      | ret r e => exact hb
      | brk e => exact hb
      | cont e => exact hb
      | bad => trivial
  | .pass, h, env => by rw [exS]; exact .rfl'
  | .brk, h, env => by rw [exS]; exact .rfl'
  | .cont, h, env => by rw [exS]; exact .rfl'
  | .dead, h, env => by rw [exS]; trivial
theorem exSs_pre : ∀ (s : Sxs) (h : Bool) (env : Env), (exSs G callB s h env).all (Pre env)
  | .nil, h, env => by rw [exSs]; exact .rfl'
  | .cons s r, h, env => by
    rw [exSs]
    have h1 := exS_pre s h env
    generalize exS G callB s h env = x at h1
    cases x with
    | next e => exact SR.all_imp (exSs_pre r h e) fun _ g => Pre.trans h1 g
    | ret r e => exact h1
    | brk e => exact h1
    | cont e => exact h1
    | exc c fs e => exact h1
    | bad => trivial
end
end
end Ky
end
section
set_option Elab.async false
set_option linter.all false
set_option maxRecDepth 100000
set_option maxHeartbeats 1000000
/-! Ky, part Z: statements. -/
namespace Ky
open PySem PySem.Spec PyProof.Rows L2
section
variable {P : Program} {w : World} {K : PySem.W.Frag} {mg : Str → Option Value} {base : Heap} {adr : Str → Addr} {G : GT} {fn : Str → Option Fn} {callB : Bool → Str → List S → CR} {lv : Nat} {c : Cf} {PN : Addr → Addr → Option Addr → Prop} {W : WX} {X : Cx} {h : Bool}
variable {a b d : Ex} {es : Exs} {p q r : Expr} {ps : List Expr} {pos pos2 pos3 pos4 : Pos}
variable {B F F' H H' : Hp} {env e1 env' : Env} {σ σ' : St} {ts : List (R × V)} {fx : Nat → Option (Option V)} {D : Ends}

/-- lent and locked slots hold what they held -/
def Bx (fx : Nat → Option (Option V)) (env : Env) (σ : St) : Prop := ∀ (i : Nat) (s : S), env[i]? = some (some s) → s.isBL = true → σ[i]? = fx i
theorem Bx.pre (hb : Bx fx env σ) (hp : Pre env env') : Bx fx env' σ := fun i s q k => let ⟨s', q', k'⟩ := hp.bl i s q k; hb i s' q' k'
variable (K adr PN W) in
/-- what is wanted of a statement's end -/
def OutS (B F : Hp) (fx : Nat → Option (Option V)) (D : Ends) (x : SR) : Prop := match x with
  | .next e => ∀ σ' H' F', Same F F' → Bx fx e σ' → StT K adr PN B F' e σ' H' [] → D.nx σ' H'
  | .ret r e => ∀ v σ' H' F', Same F F' → Bx fx e σ' → StT K adr PN B F' e σ' H' [(r, v)] → D.rt v H'
  | .brk e => ∀ σ' H' F', Same F F' → Bx fx e σ' → StT K adr PN B F' e σ' H' [] → D.bk σ' H'
  | .cont e => ∀ σ' H' F', Same F F' → Bx fx e σ' → StT K adr PN B F' e σ' H' [] → D.ct σ' H'
  | .exc c fs e => ∀ cls d σ' H' F', Same F F' → Bx fx e σ' → StT K adr PN B F' e σ' H' [] → excAt K adr F' c fs cls d → W cls d σ' H'
  | .bad => False
theorem OutS.later {x : SR} (ho : OutS K adr PN W B F fx D x) (s : Same F F') : OutS K adr PN W B F' fx D x := by
  cases x with
  | next e => exact fun σ' H' F2 s2 => ho σ' H' F2 (s.trans s2)
  | ret r e => exact fun v σ' H' F2 s2 => ho v σ' H' F2 (s.trans s2)
  | brk e => exact fun σ' H' F2 s2 => ho σ' H' F2 (s.trans s2)
  | cont e => exact fun σ' H' F2 s2 => ho σ' H' F2 (s.trans s2)
  | exc c fs e => exact fun cls d σ' H' F2 s2 => ho cls d σ' H' F2 (s.trans s2)
  | bad => exact ho
theorem OutS.to {α : Type} {x : Rs α} {f : α → Env → SR} (hb : Bx fx env σ) (hp : x.all (Pre env)) (ho : OutS K adr PN W B F fx D (x.to f)) : Out K adr PN W B F σ ts x fun a e => Bx fx e σ ∧ OutS K adr PN W B F fx D (f a e) := by
  cases x with
  | ok a e => exact ⟨hb.pre hp, ho⟩
  | exc c fs e => exact fun cls d H' F' s g ex => ho cls d σ H' F' s (hb.pre hp) g ex
  | bad => exact ho
variable (K adr G callB PN W h) in
def RS (s : Sx) : TS := fun D σ H => ∃ B F env fx, StT K adr PN B F env σ H [] ∧ Bx fx env σ ∧ OutS K adr PN W B F fx D (exS G callB s h env)
variable (K adr G callB PN W h) in
def RSs (s : Sxs) : TS := fun D σ H => ∃ B F env fx, StT K adr PN B F env σ H [] ∧ Bx fx env σ ∧ OutS K adr PN W B F fx D (exSs G callB s h env)
theorem PS.imI {st : Stmt} {t t' : TS} (h : PS X st t) (k : ∀ D σ H, σ.length = X.N.length → t' D σ H → t D σ H) : PS X st t' := ⟨fun pins s σ H D I q => h.run pins s σ H D I (k D σ H I.len q)⟩
theorem PSs.imI {st : List Stmt} {t t' : TS} (h : PSs X st t) (k : ∀ D σ H, σ.length = X.N.length → t' D σ H → t D σ H) : PSs X st t' := ⟨fun pins s σ H D I q => h.run pins s σ H D I (k D σ H I.len q)⟩
theorem Bx.put {i : Nat} {s : S} {v : V} (hb : Bx fx env σ) (hs : s.isBL = false) (q : put i s env = some env') : Bx fx env' (σ.set i (some v)) := fun j t z k => by
  obtain ⟨rfl, hi, _⟩ := put_eq q
  by_cases hj : j = i
  · subst hj
    rw [List.getElem?_set_self hi] at z
    cases z
    rw [hs] at k
    cases k
  · rw [List.getElem?_set_ne (Ne.symm hj)] at z ⊢
    exact hb j t z k
/-- a statement context -/
structure SOk (P : Program) (w : World) (K : PySem.W.Frag) (mg : Str → Option Value) (base : Heap) (G : GT) (lv : Nat) (c : Cf) (PN : Addr → Addr → Option Addr → Prop) (W : WX) (X : Cx) : Prop where
  ok : XOk P w K mg base G lv c PN W X
  own : G.hot = false → PassesOwn (model X.prog X.w) X.A X.env X.xe
  stk : X.stack = X.env :: X.outer
  frm : X.env.frame = some X.env.locals
theorem rss_nil : PSs X [] (RSs K adr G callB PN W h .nil) := by
  refine PSs.imI pss_nil fun D σ H hlen hr => ?_
  obtain ⟨B, F, env, fx, hs, hb, ho⟩ := hr
  rw [exSs] at ho
  exact ho σ H F Same.rfl' hb hs
theorem rss_cons {st : Stmt} {rest : List Stmt} {s : Sx} {rs : Sxs} (h1 : PS X st (RS K adr G callB PN W h s)) (h2 : PSs X rest (RSs K adr G callB PN W h rs)) : PSs X (st :: rest) (RSs K adr G callB PN W h (.cons s rs)) := by
  refine PSs.imI (pss_cons h1 h2) fun D σ H hlen hr => ?_
  obtain ⟨B, F, env, fx, hs, hb, ho⟩ := hr
  rw [exSs] at ho
  refine ⟨B, F, env, fx, hs, hb, ?_⟩
  cases q : exS G callB s h env with
  | next e =>
    rw [q] at ho
    exact fun σ' H' F' s' hb' g => ⟨B, F', e, fx, g, hb', OutS.later ho s'⟩
  | ret r e => rw [q] at ho; exact ho
  | brk e => rw [q] at ho; exact ho
  | cont e => rw [q] at ho; exact ho
  | exc c fs e => rw [q] at ho; exact ho
  | bad => rw [q] at ho; exact ho
theorem rs_dead {st : Stmt} : PS X st (RS K adr G callB PN W h .dead) := ⟨fun pins s σ H D I hr => by
  obtain ⟨B, F, env, fx, hs, hb, ho⟩ := hr
  rw [exS] at ho
  exact ho.elim⟩
theorem rs_pass : PS X (.Pass pos) (RS K adr G callB PN W h .pass) := PS.imI ps_pass fun D σ H hlen hr => by
  obtain ⟨B, F, env, fx, hs, hb, ho⟩ := hr
  rw [exS] at ho
  exact ho σ H F Same.rfl' hb hs
theorem rs_brk : PS X (.Break pos) (RS K adr G callB PN W h .brk) := PS.imI ps_break fun D σ H hlen hr => by
  obtain ⟨B, F, env, fx, hs, hb, ho⟩ := hr
  rw [exS] at ho
  exact ho σ H F Same.rfl' hb hs
theorem rs_cont : PS X (.Continue pos) (RS K adr G callB PN W h .cont) := PS.imI ps_continue fun D σ H hlen hr => by
  obtain ⟨B, F, env, fx, hs, hb, ho⟩ := hr
  rw [exS] at ho
  exact ho σ H F Same.rfl' hb hs
theorem no_ts {i : Nat} : ∀ t ∈ ([] : List (R × V)), t.1 ≠ .sl i := fun t m => (by cases m)
/-- the store of a value -/
theorem set_read {i : Nat} (hi : i < σ.length) (hr : RS K adr G callB PN W h (.set i a) D σ H) : RE K adr (G.at h) (callB h) PN W a σ H fun v H1 => D.nx (σ.set i (some v)) H1 := by
  obtain ⟨B, F, env, fx, hs, hb, ho⟩ := hr
  rw [exS] at ho
  refine ⟨B, F, env, [], hs, (OutS.to hb (ev_pre a env) ho).imp fun r e _ ⟨hb1, ho⟩ v H1 F1 s1 g => ?_⟩
  cases q1 : toS r e with
  | none => rw [q1] at ho; exact ho.elim
  | some z =>
    obtain ⟨s, e'⟩ := z
    rw [q1] at ho
    have ho : OutS K adr PN W B F fx D (SR.nx (put i s e')) := ho
    cases q2 : put i s e' with
    | none => rw [q2] at ho; exact ho.elim
    | some e3 =>
      rw [q2] at ho
      obtain ⟨F2, s2, g2⟩ := g.putS q1 q2 hi no_ts
      obtain ⟨p1, p2⟩ := pre_toS q1
      exact ho _ H1 F2 (s1.trans s2) ((hb1.pre p1).put p2 q2) g2
theorem rs_set {i : Nat} {x : Str} {e : Expr} (hX : XOk P w K mg base (G.at h) lv c PN W X) (hN : c.N[i]? = some x) (hl : SetOk c x) (he : PE X e (RE K adr (G.at h) (callB h) PN W a)) (hsw : swapsWith e (some (.Name x pos2)) pos.line X.env = pure false) :
    PS X (.Assign [.Name x pos2] e pos) (RS K adr G callB PN W h (.set i a)) := by
  refine PS.imI (ps_set (i := i) (by rw [hX.hN]; exact hX.nd) (by rw [hX.hN]; exact hN) (by rw [hX.hs]; exact hl.imp (fun z => z) (fun z => z.1)) he hsw ?_) fun D σ H hlen hr => ?_
  · rcases hl with hl | hl
    · exact .inr (by rw [hX.hs]; exact hl)
    · exact .inl (by rw [hX.fnc]; exact hl.2)
  · rw [hX.hN] at hlen
    exact set_read (by rw [hlen]; exact (List.getElem?_eq_some_iff.mp hN).1) hr
theorem rs_setLc {i : Nat} {x : Str} {vs : List Nat} {g : Tg} {it : Itx} {cnd : Tx} {el : Ex} {elt tg iter : Expr} {ifs : List Expr} {scope : Scope} {own : List (Str × Nat)} (hX : XOk P w K mg base (G.at h) lv c PN W X) (hN : c.N[i]? = some x) (hl : c.sc.names.lookup x = some .local) (hown : own.map (·.2) = vs) (ok : BlkOk c.N c.sc scope own) (hgv : ∀ i ∈ g.vars, i ∈ vs)
    (hsw : swapsWith (.ListComp elt [⟨tg, iter, ifs, 0⟩] scope pos) (some (.Name x pos2)) pos3.line X.env = pure true)
    (hi : (G.at h).hot = false → PI X tg iter (RI K adr (G.at h) (callB h) PN W it)) (hg : (G.at h).hot = false → ∀ X', XOk P w K mg base (G.at h) lv (c.blk scope) PN (fun _ _ _ _ => False) X' → PG X' tg (RG K adr PN (c.blk scope) g))
    (ht : (G.at h).hot = false → ∀ X', XOk P w K mg base (G.at h) lv (c.blk scope) PN (fun _ _ _ _ => False) X' → PTs X' ifs (RT K adr (G.at h) (callB h) PN (fun _ _ _ _ => False) cnd)) (he : (G.at h).hot = false → ∀ X', XOk P w K mg base (G.at h) lv (c.blk scope) PN (fun _ _ _ _ => False) X' → PE X' elt (RE K adr (G.at h) (callB h) PN (fun _ _ _ _ => False) el))
    (hfold : ∀ x, foldedSetIterable iter X.env x = pure x) : PS X (.Assign [.Name x pos2] (.ListComp elt [⟨tg, iter, ifs, 0⟩] scope pos) pos3) (RS K adr G callB PN W h (.set i (.comp vs g it cnd el))) := by
  cases hh : (G.at h).hot with
  | true =>
    refine ⟨fun pins s σ H D I hr => ?_⟩
    obtain ⟨B, F, env, fx, hs, hb, ho⟩ := hr
    rw [exS, ev, if_pos hh] at ho
    exact ho.elim
  | false =>
    refine PS.imI (ps_setLc (i := i) (hX.calm hh) (by rw [hX.hN]; exact hX.nd) (by rw [hX.hN]; exact hN) (by rw [hX.hs]; exact hl) hsw (hi hh) (by rw [hX.hN, hX.hs]; exact ok) (fun s H C cl fp => hg hh _ (hX.blk hh)) (fun s H C cl fp => ht hh _ (hX.blk hh)) (fun s H C cl fp => he hh _ (hX.blk hh)) hfold) fun D σ H hlen hr => ?_
    rw [hX.hN] at hlen
    rw [hown]
    exact comp_read hh hgv (set_read (by rw [hlen]; exact (List.getElem?_eq_some_iff.mp hN).1) hr)
theorem rs_ret {e : Expr} (he : PE X e (RE K adr (G.at h) (callB h) PN W a)) : PS X (.Return (some e) pos) (RS K adr G callB PN W h (.ret a)) := by
  refine PS.imI (ps_ret he) fun D σ H hlen hr => ?_
  obtain ⟨B, F, env, fx, hs, hb, ho⟩ := hr
  rw [exS] at ho
  exact ⟨B, F, env, [], hs, (OutS.to hb (ev_pre a env) ho).imp fun r e _ ⟨hb1, ho⟩ v H1 F1 s1 g => ho v σ H1 F1 s1 hb1 g⟩
theorem rs_retN : PS X (.Return none pos) (RS K adr G callB PN W h .retN) := by
  refine PS.imI ps_retN fun D σ H hlen hr => ?_
  obtain ⟨B, F, env, fx, hs, hb, ho⟩ := hr
  rw [exS] at ho
  exact ho .non σ H F Same.rfl' hb (hs.data rfl)
theorem rs_ex {e : Expr} (he : PE X e (RE K adr (G.at h) (callB h) PN W a)) (hsw : swapsWith e none pos.line X.env = pure false) : PS X (.Expr e pos) (RS K adr G callB PN W h (.ex a)) := by
  refine PS.imI (ps_expr he hsw) fun D σ H hlen hr => ?_
  obtain ⟨B, F, env, fx, hs, hb, ho⟩ := hr
  rw [exS] at ho
  exact ⟨B, F, env, [], hs, (OutS.to hb (ev_pre a env) ho).imp fun r e _ ⟨hb1, ho⟩ v H1 F1 s1 g => ho σ H1 F1 s1 hb1 g.pop⟩
theorem rs_if {e : Expr} {t : Tx} {p q : List Stmt} {sa sb : Sxs} (hc : PT X e (RT K adr (G.at h) (callB h) PN W t)) (ha : PSs X p (RSs K adr G callB PN W h sa)) (hb : PSs X q (RSs K adr G callB PN W h sb)) : PS X (.If e p q pos) (RS K adr G callB PN W h (.ifs t sa sb)) := by
  refine PS.imI (ps_if hc ha hb) fun D σ H hlen hr => ?_
  obtain ⟨B, F, env, fx, hs, hb, ho⟩ := hr
  rw [exS] at ho
  refine ⟨B, F, env, [], hs, (OutS.to hb (evT_pre t env) ho).imp fun k e _ ⟨hb1, ho⟩ H1 F1 s1 g => ?_⟩
  cases k with
  | true => exact ⟨B, F1, e, fx, g, hb1, OutS.later ho s1⟩
  | false => exact ⟨B, F1, e, fx, g, hb1, OutS.later ho s1⟩
end
end Ky
end
section
set_option Elab.async false
set_option linter.all false
set_option maxRecDepth 100000
set_option maxHeartbeats 1000000
/-! Ky, part Za: pairs of names, op=, loops. -/
namespace Ky
open PySem PySem.Spec PyProof.Rows L2
section
variable {P : Program} {w : World} {K : PySem.W.Frag} {mg : Str → Option Value} {base : Heap} {adr : Str → Addr} {G : GT} {fn : Str → Option Fn} {callB : Bool → Str → List S → CR} {lv : Nat} {c : Cf} {PN : Addr → Addr → Option Addr → Prop} {W : WX} {X : Cx} {h : Bool}
variable {a b d : Ex} {es : Exs} {p q r : Expr} {ps : List Expr} {pos pos2 pos3 pos4 : Pos}
variable {B F F' H H' : Hp} {env e1 env' : Env} {σ σ' : St} {ts : List (R × V)} {fx : Nat → Option (Option V)} {D : Ends}

theorem asgN_bx {is : List Nat} : ∀ {ds : List Ky.D} {env e' : Env} {σ' : St}, ds.length = is.length → Bx fx env σ → asgN is ds env = some e' → (∀ j, j ∉ is → σ'[j]? = σ[j]?) → Bx fx e' σ' := by
  have go : ∀ (l : List (Nat × Ky.D)) (env e' : Env), l.foldl (fun e p => e.bind (put p.1 (.v p.2))) (some env) = some e' → ∀ (j : Nat) (s : S), e'[j]? = some (some s) → s.isBL = true → env[j]? = some (some s) ∧ j ∉ l.map (·.1) := by
    intro l
    induction l with
    | nil => intro env e' q j s z k; cases q; exact ⟨z, by simp⟩
    | cons p l ih =>
      intro env e' q j s z k
      rw [List.foldl_cons, Option.bind_some] at q
      cases q1 : put p.1 (.v p.2) env with
      | none => rw [q1, asgN_none] at q; cases q
      | some e2 =>
        rw [q1] at q
        obtain ⟨y1, y2⟩ := ih e2 e' q j s z k
        obtain ⟨rfl, hi, _⟩ := put_eq q1
        by_cases hj : j = p.1
        · rw [hj, List.getElem?_set_self hi] at y1; cases y1; cases k
        · rw [List.getElem?_set_ne (Ne.symm hj)] at y1
          exact ⟨y1, by rw [List.map_cons, List.mem_cons, not_or]; exact ⟨hj, y2⟩⟩
  intro ds env e' σ' hl hb q hσ j s z k
  obtain ⟨y1, y2⟩ := go _ _ _ q j s z k
  rw [List.map_fst_zip (by omega)] at y2
  rw [hσ j y2]
  exact hb j s y1 k
theorem asg_bx {g : Tg} {d : Ky.D} (hb : Bx fx env σ) (q : asgT g d env = some env') (hσ : ∀ j, j ∉ g.vars → σ'[j]? = σ[j]?) : Bx fx env' σ' := by
  cases g with
  | nm i =>
    intro j s z k
    have q : put i (.v d) env = some env' := q
    obtain ⟨rfl, hi, _⟩ := put_eq q
    by_cases hj : j = i
    · subst hj; rw [List.getElem?_set_self hi] at z; cases z; cases k
    · rw [List.getElem?_set_ne (Ne.symm hj)] at z
      rw [hσ j (by simp [Tg.vars, hj])]
      exact hb j s z k
  | tp is =>
    unfold asgT at q
    simp only at q
    cases d <;> try (cases q; done)
    simp only at q
    split at q
    · rename_i hl
      exact asgN_bx hl hb q hσ
    · cases q
theorem rs_asg {tg e : Expr} {is : List Nat} (hX : XOk P w K mg base (G.at h) lv c PN W X) (hg : PG X tg (RG K adr PN c (.tp is))) (he : PE X e (RE K adr (G.at h) (callB h) PN W a)) (hsw : swapsWithSole [tg] e pos.line X.env = pure false) (hw : swappedStores [tg] e X.env = pure none) (h1 : (assignEach [tg] X.env).map (·.2) = [assign tg X.env]) :
    PS X (.Assign [tg] e pos) (RS K adr G callB PN W h (.asg is a)) := by
  refine PS.imI (ps_asg he hg hsw hw h1) fun D σ H hlen hr => ?_
  obtain ⟨B, F, env, fx, hs, hb, ho⟩ := hr
  rw [exS] at ho
  split at ho
  · exact ho.elim
  refine ⟨B, F, env, [], hs, (OutS.to hb (ev_pre a env) ho).imp fun r e _ ⟨hb1, ho⟩ v H1 F1 s1 g => ?_⟩
  cases q1 : r.dat e with
  | none => rw [q1] at ho; exact ho.elim
  | some d =>
    rw [q1] at ho
    have ho2 : OutS K adr PN W B F fx D (SR.nx (asgT (.tp is) d e)) := ho
    clear ho
    cases q2 : asgT (.tp is) d e with
    | none => rw [q2] at ho2; exact ho2.elim
    | some e3 =>
      rw [q2] at ho2
      intro hlen2
      have hd : ∃ ds, d = .tup ds := by
        unfold asgT at q2
        cases d <;> first | exact ⟨_, rfl⟩ | cases q2
      obtain ⟨ds, rfl⟩ := hd
      have rep := (TAt.viewH g List.mem_cons_self q1).tupR
      exact ⟨B, F1, e, [], .tup ds, e3, g.pop.data rep, q2, fun t m => (by cases m), fun σ' k1 k2 g2 => ho2 σ' H1 F1 s1 (asg_bx hb1 q2 k1) g2⟩
/-- x op= y, whole numbers -/
theorem augR (o : Operator) : OpR X (inplaceOp o) (fun x y H Q => ∃ i j k, x = .int i ∧ y = .int j ∧ augD o i j = some k ∧ Q (.int k) H) := by
  cases o with
  | Add => exact OpR.im iop_add fun x y H Q ⟨i, j, k, e1, e2, e3, q⟩ => by cases e3; exact ⟨i, j, e1, e2, q⟩
  | Sub => exact OpR.im iop_sub fun x y H Q ⟨i, j, k, e1, e2, e3, q⟩ => by cases e3; exact ⟨i, j, e1, e2, q⟩
  | Mult =>
    have op : OpR X (inplaceOp .Mult) (rI (fun i j => mulB i j = true) fun i j => .int (i * j)) := opI fun _ _ _ _ _ _ _ hc q => imul_int q (mulB_ok hc)
    exact OpR.im op fun x y H Q ⟨i, j, k, e1, e2, e3, q⟩ => by
      obtain ⟨z, e⟩ := ite_some e3
      subst e
      exact ⟨i, j, e1, e2, z, q⟩
  | FloorDiv =>
    exact OpR.im iop_fdivW fun x y H Q ⟨i, j, k, e1, e2, e3, q⟩ => by
      obtain ⟨z, e⟩ := ite_some e3
      subst e
      unfold divB at z
      rw [Bool.and_eq_true] at z
      exact ⟨i, j, e1, e2, ⟨of_decide_eq_true z.1, of_decide_eq_true z.2⟩, q⟩
  | Mod =>
    exact OpR.im iop_mod fun x y H Q ⟨i, j, k, e1, e2, e3, q⟩ => by
      obtain ⟨z, e⟩ := ite_some e3
      subst e
      exact ⟨i, j, e1, e2, z, q⟩
  | _ => exact OpR.im op_none fun x y H Q ⟨_, _, _, _, _, e, _⟩ => by cases e
theorem rs_aug {i : Nat} {x : Str} {o : Operator} {e : Expr} (hX : XOk P w K mg base (G.at h) lv c PN W X) (hN : c.N[i]? = some x) (hl : SetOk c x) (he : PE X e (RE K adr (G.at h) (callB h) PN W a)) : PS X (.AugAssign (.Name x pos2) o e pos) (RS K adr G callB PN W h (.aug i o a)) := by
  refine PS.imI (ps_aug (i := i) (by rw [hX.hN]; exact hX.nd) (by rw [hX.hN]; exact hN) (by rw [hX.hs]; exact hl.imp (fun z => z) (fun z => z.1)) he (augR o) ?_) fun D σ H hlen hr => ?_
  · rcases hl with hl | hl
    · exact .inr (by rw [hX.hs]; exact hl)
    · exact .inl (by rw [hX.fnc]; exact hl.2)
  · rw [hX.hN] at hlen
    obtain ⟨B, F, env, fx, hs, hb, ho⟩ := hr
    rw [exS] at ho
    split at ho
    · rename_i xi q0
      obtain ⟨v0, hσ, hv⟩ := hs.sl i _ q0
      have hv : v0 = .int xi := hv
      subst hv
      refine ⟨.int xi, hσ, B, F, env, [], hs, (OutS.to hb (ev_pre a env) ho).imp fun r e _ ⟨hb1, ho⟩ v H1 F1 s1 g => ?_⟩
      cases q1 : r.dat e with
      | none => rw [q1] at ho; exact ho.elim
      | some d =>
        rw [q1] at ho
        cases d <;> try exact ho.elim
        rename_i y
        have hv := (TAt.viewH g List.mem_cons_self q1).int
        have hv : v = .int y := hv
        have ho : OutS K adr PN W B F fx D (match augD o xi y with | some z => SR.nx (put i (.v (.int z)) e) | none => .bad) := ho
        cases q2 : augD o xi y with
        | none => rw [q2] at ho; exact ho.elim
        | some z =>
          rw [q2] at ho
          have ho : OutS K adr PN W B F fx D (SR.nx (put i (.v (.int z)) e)) := ho
          cases q3 : put i (.v (.int z)) e with
          | none => rw [q3] at ho; exact ho.elim
          | some e3 =>
            rw [q3] at ho
            have hi : i < σ.length := by rw [hlen]; exact (List.getElem?_eq_some_iff.mp hN).1
            exact ⟨xi, y, z, rfl, hv, q2, ho _ H1 F1 s1 (hb1.put rfl q3) ((g.pop.data (d := .int z) (v := .int z) rfl).putV q3 hi no_ts)⟩
    · exact ho.elim
end
end Ky
end
section
set_option Elab.async false
set_option linter.all false
set_option maxRecDepth 100000
set_option maxHeartbeats 1000000
/-! Ky, part Zb: loops. -/
namespace Ky
open PySem PySem.Spec PyProof.Rows L2
section
variable {P : Program} {w : World} {K : PySem.W.Frag} {mg : Str → Option Value} {base : Heap} {adr : Str → Addr} {G : GT} {fn : Str → Option Fn} {callB : Bool → Str → List S → CR} {lv : Nat} {c : Cf} {PN : Addr → Addr → Option Addr → Prop} {W : WX} {X : Cx} {h : Bool}
variable {a b d : Ex} {es : Exs} {p q r : Expr} {ps : List Expr} {pos pos2 pos3 pos4 : Pos}
variable {B F F' H H' : Hp} {env e1 env' : Env} {σ σ' : St} {ts : List (R × V)} {fx : Nat → Option (Option V)} {D : Ends}

/-- what a loop over the rest comes to -/
def endF (e : Env) (is : List Nat) (x : SR) : SR := match x with
  | .next e2 => SR.nx (unlock e is e2)
  | .ret r e2 => (match unlock e is e2 with | some e3 => .ret r e3 | none => .bad)
  | .exc c fs e2 => (match unlock e is e2 with | some e3 => .exc c fs e3 | none => .bad)
  | _ => .bad
/-- behind the walk the lent slots are as before -/
theorem Bx.walked {e e2 e3 : Env} {is : List Nat} (hb : Bx fx e σ) (hb2 : Bx (fun j => if j ∈ is then σ[j]? else fx j) e2 σ') (hp : Pre (lock is e) e2) (u : unlock e is e2 = some e3) : Bx fx e3 σ' := fun j s q k => by
  rcases unlock_get u j with ⟨g1, g2⟩ | ⟨m, o, o', g1, ⟨z, y⟩ | ⟨z, y⟩⟩
  · rw [g1] at q
    have h1 := hb2 j s q k
    by_cases m : j ∈ is
    · simp only [if_pos m] at h1
      obtain ⟨s', q', k'⟩ := hp.bl j s q k
      rcases lock_get is e j with l | ⟨_, o, l1, _⟩
      · rw [l] at q'
        rw [h1]
        exact hb j s' q' k'
      · rcases l1 with l1 | l1
        · exact absurd l1 (g2 m o).1
        · exact absurd l1 (g2 m o).2
    · simp only [if_neg m] at h1
      exact h1
  · rw [y] at q; cases q; cases k
  · have h1 := hb2 j _ g1 rfl
    simp only [if_pos m] at h1
    rw [h1]
    exact hb j _ z rfl
theorem rs_for {tg iter : Expr} {body : List Stmt} {g : Tg} {it : Itx} {bd : Sxs} (hX : SOk P w K mg base (G.at h) lv c PN W X) (hi : (G.at h).hot = false → PI X tg iter (RI K adr (G.at h) (callB h) PN W it)) (hg : (G.at h).hot = false → PG X tg (RG K adr PN c g)) (hb : PSs X body (RSs K adr G callB PN W h bd)) (hfold : ∀ x, foldedSetIterable iter X.env x = pure x) :
    PS X (.For tg iter body [] pos) (RS K adr G callB PN W h (.for g it bd)) := by
  cases hh : h with
  | true =>
    refine ⟨fun pins s σ H D I hr => ?_⟩
    obtain ⟨B, F, env, fx, hs, hb, ho⟩ := hr
    rw [exS, if_pos rfl] at ho
    exact ho.elim
  | false =>
    subst hh
    refine PS.imI (ps_for (hX.own rfl) (hX.ok.calm rfl) (hi rfl) (hg rfl) hb hfold) fun D σ H hlen hr => ?_
    obtain ⟨B, F, env, fx, hs, hbx, ho⟩ := hr
    rw [exS, if_neg Bool.false_ne_true] at ho
    refine ⟨B, F, env, [], hs, (OutS.to hbx (evI_pre it env) ho).imp fun p e _ ⟨hb1, ho⟩ J H1 F1 lk s1 g1 hw hlk => ?_⟩
    obtain ⟨ds, is⟩ := p
    generalize htn : (fun d e1 => match asgT g d e1 with | some e2 => exSs G callB bd false e2 | none => SR.bad) = turn at ho
    have tpre : ∀ d e, (turn d e).all (Pre e) := fun d e1 => by
      rw [← htn]
      show SR.all (Pre e1) (match asgT g d e1 with | some e2 => exSs G callB bd false e2 | none => SR.bad)
      split
      · rename_i e2 q; exact SR.all_imp (exSs_pre bd false e2) fun _ g => (pre_asg q).trans g
      · trivial
    have ho : OutS K adr PN W B F fx D (endF e is (loopF turn ds (lock is e))) := ho
    have hbl : Bx (fun j => if j ∈ is then σ[j]? else fx j) (lock is e) σ := fun j s q k => by
      by_cases m : j ∈ is
      · simp only [if_pos m]
      · simp only [if_neg m]
        rcases lock_get is e j with l | ⟨m2, _⟩
        · rw [l] at q; exact hb1 j s q k
        · exact absurd m2 m
    have hlast := loopF_pre (env0 := lock is e) tpre
    refine ⟨fun i m σ2 Hh => m = ds.length - i ∧ i ≤ ds.length ∧ ∃ env' F', Same F1 F' ∧ StT K adr PN B F' env' σ2 Hh [] ∧ Bx (fun j => if j ∈ is then σ[j]? else fx j) env' σ2 ∧ Pre (lock is e) env' ∧ OutS K adr PN W B F fx D (endF e is (loopF turn (ds.drop i) env')),
      ⟨ds.length, by simp, Nat.zero_le _, lock is e, F1, Same.rfl', g1, hbl, Pre.rfl', ho⟩, ?_⟩
    rintro i m σ2 Hh ⟨rfl, hil, env', F', sF, gi, hb2, hp2, hout⟩
    have lko : LkOk env' σ2 lk := fun x mx => by
      obtain ⟨j, z1, z2⟩ := hlk x mx
      have z3 := hp2.lk j _ z1
      have h1 := hb2 j _ z3 rfl
      have h2 := hbl j _ z1 rfl
      exact ⟨j, z3, by rw [h1, ← h2]; exact z2⟩
    obtain ⟨hstop, hitem⟩ := hw F' Hh sF gi.sf gi.sb (lk_get gi lko)
    have nextOut : ∀ {e2 : Env} {σ3 : St} {H3 F3 : Hp}, Same F1 F3 → StT K adr PN B F3 e2 σ3 H3 [] → Bx (fun j => if j ∈ is then σ[j]? else fx j) e2 σ3 → Pre (lock is e) e2 → OutS K adr PN W B F fx D (SR.nx (unlock e is e2)) → D.nx σ3 H3 := fun {e2 σ3 H3 F3} sx gx bx px ox => by
      cases q : unlock e is e2 with
      | none => rw [q] at ox; exact ox.elim
      | some e3 => rw [q] at ox; exact ox σ3 H3 F3 (s1.trans sx) (hb1.walked bx px q) (gx.unlocked q)
    by_cases hlt : i < ds.length
    · rw [List.drop_eq_getElem_cons hlt] at hout
      obtain ⟨hgo, hyld⟩ := hitem i ds[i] (List.getElem?_eq_getElem hlt)
      refine .inr ⟨hgo, fun σ3 H3 => (ds.length - (i + 1) = ds.length - (i + 1) ∧ i + 1 ≤ ds.length ∧ ∃ env' F', Same F1 F' ∧ StT K adr PN B F' env' σ3 H3 [] ∧ Bx (fun j => if j ∈ is then σ[j]? else fx j) env' σ3 ∧ Pre (lock is e) env' ∧ OutS K adr PN W B F fx D (endF e is (loopF turn (ds.drop (i + 1)) env'))), fun σ3 H3 hx => ⟨ds.length - (i + 1), by omega, hx⟩, fun x H3 y => ?_⟩
      obtain ⟨F3, hnew⟩ := hyld x H3 y
      have g3 := gi.push hnew
      have tp := tpre ds[i] env'
      unfold loopF at hout
      rw [← htn] at hout tp
      have hout : OutS K adr PN W B F fx D (endF e is (match (match asgT g ds[i] env' with | some e2 => exSs G callB bd false e2 | none => SR.bad) with
        | .next e => loopF turn (ds.drop (i + 1)) e
        | .cont e => loopF turn (ds.drop (i + 1)) e
        | .brk e => .next e
        | r => r)) := by rw [← htn]; exact hout
      have tp : SR.all (Pre env') (match asgT g ds[i] env' with | some e2 => exSs G callB bd false e2 | none => SR.bad) := tp
      cases hasg : asgT g ds[i] env' with
      | none => rw [hasg] at hout; exact hout.elim
      | some ea =>
        rw [hasg] at hout tp
        intro hlen2
        refine ⟨B, F3, env', [], ds[i], ea, g3, hasg, fun t m => (by cases m), fun σ3 k1 k2 g4 => ?_⟩
        refine ⟨B, F3, ea, (fun j => if j ∈ is then σ[j]? else fx j), g4, asg_bx hb2 hasg k1, ?_⟩
        have hout : OutS K adr PN W B F fx D (endF e is (match exSs G callB bd false ea with
          | .next e => loopF turn (ds.drop (i + 1)) e
          | .cont e => loopF turn (ds.drop (i + 1)) e
          | .brk e => .next e
          | r => r)) := hout
        have tp : SR.all (Pre env') (exSs G callB bd false ea) := tp
        cases hbd : exSs G callB bd false ea with
        | next e5 =>
          rw [hbd] at hout tp
          exact fun σ5 H5 F5 s5 b5 g5 => ⟨rfl, hlt, e5, F5, sF.trans (hnew.sf.trans s5), g5, b5, hp2.trans tp, hout⟩
        | cont e5 =>
          rw [hbd] at hout tp
          exact fun σ5 H5 F5 s5 b5 g5 => ⟨rfl, hlt, e5, F5, sF.trans (hnew.sf.trans s5), g5, b5, hp2.trans tp, hout⟩
        | brk e5 =>
          rw [hbd] at hout tp
          exact fun σ5 H5 F5 s5 b5 g5 => nextOut (sF.trans (hnew.sf.trans s5)) g5 b5 (hp2.trans tp) hout
        | ret r e5 =>
          rw [hbd] at hout tp
          have hout : OutS K adr PN W B F fx D (match unlock e is e5 with | some e3 => .ret r e3 | none => .bad) := hout
          cases q : unlock e is e5 with
          | none => rw [q] at hout; exact hout.elim
          | some e6 =>
            rw [q] at hout
            exact fun v σ5 H5 F5 s5 b5 g5 => hout v σ5 H5 F5 (s1.trans (sF.trans (hnew.sf.trans s5))) (hb1.walked b5 (hp2.trans tp) q) (g5.unlocked q)
        | exc cx fs e5 =>
          rw [hbd] at hout tp
          have hout : OutS K adr PN W B F fx D (match unlock e is e5 with | some e3 => .exc cx fs e3 | none => .bad) := hout
          cases q : unlock e is e5 with
          | none => rw [q] at hout; exact hout.elim
          | some e6 =>
            rw [q] at hout
            exact fun cls d σ5 H5 F5 s5 b5 g5 ex => hout cls d σ5 H5 F5 (s1.trans (sF.trans (hnew.sf.trans s5))) (hb1.walked b5 (hp2.trans tp) q) (g5.unlocked q) ex
        | bad => rw [hbd] at hout; exact hout.elim
    · have hi : i = ds.length := by omega
      subst hi
      rw [List.drop_length] at hout
      exact .inl ⟨hstop, nextOut sF gi hb2 hp2 hout⟩
theorem rs_while {e : Expr} {t : Tx} {body : List Stmt} {bd : Sxs} (hX : SOk P w K mg base (G.at h) lv c PN W X) (hc : PT X e (RT K adr (G.at h) (callB h) PN W t)) (hb : PSs X body (RSs K adr G callB PN W h bd)) : PS X (.While e body [] pos) (RS K adr G callB PN W h (.while t bd)) := by
  cases hh : h with
  | true =>
    refine ⟨fun pins s σ H D I hr => ?_⟩
    obtain ⟨B, F, env, fx, hs, hb, ho⟩ := hr
    rw [exS, if_pos rfl] at ho
    exact ho.elim
  | false =>
    subst hh
    refine PS.imI (ps_while (hX.own rfl) hc hb) fun D σ H hlen hr => ?_
    obtain ⟨B, F, env, fx, hs, hbx, ho⟩ := hr
    rw [exS, if_neg Bool.false_ne_true] at ho
    refine ⟨fun m σ2 H2 => ∃ env' F', StT K adr PN B F' env' σ2 H2 [] ∧ Bx fx env' σ2 ∧ OutS K adr PN W B F' fx D (loopW (evT (G.at false) (callB false) t) (exSs G callB bd false) m env'), ⟨G.lf, env, F, hs, hbx, ho⟩, ?_⟩
    rintro m σ2 H2 ⟨env', F', gi, hb2, hout⟩
    cases m with
    | zero => exact hout.elim
    | succ m =>
      have hout : OutS K adr PN W B F' fx D ((evT (G.at false) (callB false) t env').to fun b e => if b = true then (match exSs G callB bd false e with
        | .next e => loopW (evT (G.at false) (callB false) t) (exSs G callB bd false) m e
        | .cont e => loopW (evT (G.at false) (callB false) t) (exSs G callB bd false) m e
        | .brk e => .next e
        | r => r) else .next e) := hout
      refine ⟨B, F', env', [], gi, (OutS.to hb2 (evT_pre t env') hout).imp fun k e5 _ ⟨hb3, ho⟩ H3 F3 s3 g3 => ?_⟩
      cases k with
      | false =>
        rw [if_neg Bool.false_ne_true] at ho ⊢
        exact ho σ2 H3 F3 s3 hb3 g3
      | true =>
        rw [if_pos rfl] at ho ⊢
        have ho := OutS.later ho s3
        refine ⟨fun σ4 H4 => ∃ env' F', StT K adr PN B F' env' σ4 H4 [] ∧ Bx fx env' σ4 ∧ OutS K adr PN W B F' fx D (loopW (evT (G.at false) (callB false) t) (exSs G callB bd false) m env'), fun σ4 H4 hx => ⟨m, Nat.lt_succ_self m, hx⟩, B, F3, e5, fx, g3, hb3, ?_⟩
        cases hbd : exSs G callB bd false e5 with
        | next e6 => rw [hbd] at ho; exact fun σ5 H5 F5 s5 b5 g5 => ⟨e6, F5, g5, b5, OutS.later ho s5⟩
        | cont e6 => rw [hbd] at ho; exact fun σ5 H5 F5 s5 b5 g5 => ⟨e6, F5, g5, b5, OutS.later ho s5⟩
        | brk e6 => rw [hbd] at ho; exact ho
        | ret r e6 => rw [hbd] at ho; exact ho
        | exc cx fs e6 => rw [hbd] at ho; exact ho
        | bad => rw [hbd] at ho; exact ho
end
end Ky
end
section
set_option Elab.async false
set_option linter.all false
set_option maxRecDepth 100000
set_option maxHeartbeats 1000000
/-! Ky, part Zc: xs[k] = e, self.f = e, a, b = x, y. -/
namespace Ky
open PySem PySem.Spec PyProof.Rows L2
section
variable {P : Program} {w : World} {K : PySem.W.Frag} {mg : Str → Option Value} {base : Heap} {adr : Str → Addr} {G : GT} {fn : Str → Option Fn} {callB : Bool → Str → List S → CR} {lv : Nat} {c : Cf} {PN : Addr → Addr → Option Addr → Prop} {W : WX} {X : Cx} {h : Bool}
variable {a b d : Ex} {es : Exs} {p q r : Expr} {ps : List Expr} {pos pos2 pos3 pos4 : Pos}
variable {B F F' H H' : Hp} {env e1 env' : Env} {σ σ' : St} {ts : List (R × V)} {fx : Nat → Option (Option V)} {D : Ends}

theorem isLs_cases {o : Option (Option S)} (h : isLs o = true) : ∃ xs s, o = some (some s) ∧ (s = .own (.L xs) ∨ s = .bor (.L xs)) := by
  cases o with
  | none => cases h
  | some o =>
    cases o with
    | none => cases h
    | some s =>
      cases s with
      | own o => cases o with
        | L xs => exact ⟨xs, _, rfl, .inl rfl⟩
        | I _ _ => cases h
      | bor o => cases o with
        | L xs => exact ⟨xs, _, rfl, .inr rfl⟩
        | I _ _ => cases h
      | _ => cases h
theorem rs_setIx {i : Nat} {x : Str} {k e : Expr} {kx : Ex} (hX : XOk P w K mg base (G.at h) lv c PN W X) (hN : c.N[i]? = some x) (hv : Vis c.sc x) (h1 : (x == ("__debug__" : Str)) = false) (h2 : (x == ("__classdict__" : Str)) = false)
    (he : PE X e (RE K adr (G.at h) (callB h) PN W a)) (hk : PE X k (RE K adr (G.at h) (callB h) PN W kx)) (hix : ixPlain k = true) (hsw : swapsWith e (some (.Subscript (.Name x pos2) k pos3)) pos.line X.env = pure false) :
    PS X (.Assign [.Subscript (.Name x pos2) k pos3] e pos) (RS K adr G callB PN W h (.setIx i kx a)) := by
  have pg := pg_sub (pos := pos3) (pe_var (pos := pos2) (by rw [hX.hN]; exact hN) (by rw [hX.hs]; exact hv) h1 h2) hk (set_list (X := X)) (fun v => by
    rw [assign]
    cases k <;> first | rfl | (cases hix; done))
  refine PS.imI (ps_asg he pg hsw rfl rfl) fun D σ H hlen hr => ?_
  obtain ⟨B, F, env, fx, hs, hb, ho⟩ := hr
  rw [exS] at ho
  refine ⟨B, F, env, [], hs, (OutS.to hb (ev_pre a env) ho).imp fun r e _ ⟨hb1, ho⟩ v H1 F1 s1 g => ?_⟩
  cases q1 : frz r e with
  | none => rw [q1] at ho; exact ho.elim
  | some z =>
    obtain ⟨d, e'⟩ := z
    rw [q1] at ho
    obtain ⟨F2, s2, g2⟩ := g.frz1 q1
    have hb2 := hb1.pre (pre_frz q1)
    have ho : OutS K adr PN W B F fx D (if isLs e'[i]? then (ev (G.at h) (callB h) kx e').to fun rk e2 => (match rk.dat e2 with
      | some (.int n) => (match e2[i]? with
        | some (some (.own (.L xs))) => (match ixN xs.length n with | some j => .next (e2.set i (some (.own (.L (xs.set j d))))) | none => .bad)
        | some (some (.bor (.L xs))) => (match ixN xs.length n with | some j => .next (e2.set i (some (.bor (.L (xs.set j d))))) | none => .bad)
        | _ => .bad)
      | _ => .bad) else .bad) := ho
    split at ho
    · rename_i hls
      have ho := OutS.later ho (s1.trans s2)
      have slot : ∃ p, σ[i]? = some (some (V.ref p)) := by
        have h0 : ∃ xs s, e'[i]? = some (some s) ∧ (s = .own (.L xs) ∨ s = .bor (.L xs)) := isLs_cases hls
        obtain ⟨xs, s, e0, k0⟩ := h0
        obtain ⟨v0, hσ, hat⟩ := g2.sl i s e0
        rcases k0 with rfl | rfl <;> (obtain ⟨p, ev, _⟩ := hat; subst ev; exact ⟨p, hσ⟩)
      obtain ⟨p, hσ⟩ := slot
      refine ⟨.ref p, hσ, B, F2, e', [(R.v d, v)], g2, (OutS.to hb2 (ev_pre kx e') ho).imp fun rk e2 _ ⟨hb3, ho⟩ vk H3 F3 s3 g3 => ?_⟩
      have ho := OutS.later ho s3
      cases q3 : rk.dat e2 with
      | none => rw [q3] at ho; exact ho.elim
      | some dk =>
        rw [q3] at ho
        cases dk <;> try exact ho.elim
        rename_i n
        have hvk := (TAt.viewH g3 List.mem_cons_self q3).int
        have hvk : vk = .int n := hvk
        have rd : Rep K adr F3 d v := g3.tm (R.v d, v) (List.mem_cons_of_mem _ List.mem_cons_self)
        have fin : ∀ (s : S) (mk : O → S) (xs : List Ky.D), e2[i]? = some (some s) → s = mk (.L xs) → (mk = S.own ∨ mk = S.bor) → OutS K adr PN W B F3 fx D (match ixN xs.length n with | some j => .next (e2.set i (some (mk (.L (xs.set j d))))) | none => .bad) → rSetL (.ref p) vk v H3 fun H4 => D.nx σ H4 := fun s mk xs e5 es' hmk ho => by
          cases q4 : ixN xs.length n with
          | none => rw [q4] at ho; exact ho.elim
          | some j =>
            rw [q4] at ho
            obtain ⟨v1, hσ1, hat⟩ := g3.sl i s e5
            rw [hσ] at hσ1; cases hσ1
            have hobj : ∃ vs, H3 p = some (.lst vs) ∧ RepL K adr F3 xs vs := by
              subst es'
              rcases hmk with rfl | rfl
              · obtain ⟨a', e1, _, _, vs, e2, e3⟩ := hat; cases e1; exact ⟨vs, e2, e3⟩
              · obtain ⟨a', e1, _, _, vs, e2, e3⟩ := hat; cases e1; exact ⟨vs, e2, e3⟩
            obtain ⟨vs, k1, k2⟩ := hobj
            have hset : RepL K adr F3 (xs.set j d) (vs.set j v) := by first | exact RepL.set k2 rd j | exact RepL.set j k2 rd | exact RepL.set rd k2 j | exact RepL.set k2 j rd
            refine ⟨p, vs, n, j, rfl, hvk, k1, by rw [k2.length]; exact q4, ?_⟩
            refine ho σ _ F3 Same.rfl' ?_ (g3.pop.pop.setObj (s' := mk (.L (xs.set j d))) (o := .L xs) (o' := .L (xs.set j d)) e5 hσ ?_ ⟨_, upd_same, hset⟩)
            · intro j2 t z kz
              by_cases hj : j2 = i
              · subst hj
                refine hb3 j2 s e5 ?_
                rw [List.getElem?_set_self (List.getElem?_eq_some_iff.mp e5).1] at z
                cases z
                subst es'
                rcases hmk with rfl | rfl
                · cases kz
                · rfl
              · rw [List.getElem?_set_ne (Ne.symm hj)] at z; exact hb3 j2 t z kz
            · subst es'
              rcases hmk with rfl | rfl
              · exact .inl ⟨rfl, rfl⟩
              · exact .inr ⟨rfl, rfl⟩
        have ho : OutS K adr PN W B F3 fx D (match e2[i]? with
          | some (some (.own (.L xs))) => (match ixN xs.length n with | some j => .next (e2.set i (some (.own (.L (xs.set j d))))) | none => .bad)
          | some (some (.bor (.L xs))) => (match ixN xs.length n with | some j => .next (e2.set i (some (.bor (.L (xs.set j d))))) | none => .bad)
          | _ => .bad) := ho
        split at ho
        · rename_i xs e1; exact fin _ S.own xs e1 rfl (.inl rfl) ho
        · rename_i xs e1; exact fin _ S.bor xs e1 rfl (.inr rfl) ho
        · exact ho.elim
    · exact ho.elim
theorem putF_new {f : Str} {v : V} : ∀ {fs : List (Str × V)}, fs.lookup f = none → putF f v fs = fs ++ [(f, v)]
  | [], _ => rfl
  | (g, x) :: r, e => by
    rw [List.lookup_cons] at e
    cases hb : f == g with
    | true => rw [hb] at e; cases e
    | false =>
      rw [hb] at e
      have hne : g ≠ f := fun z => by rw [z] at hb; simp at hb
      unfold putF
      rw [if_neg hne, putF_new e]
      rfl
theorem RepF.app : ∀ {fs gs : List (Str × Ky.D)} {us vs : List (Str × V)}, RepF K adr F fs us → RepF K adr F gs vs → RepF K adr F (fs ++ gs) (us ++ vs)
  | [], _, us, _, h, g => by have h : us = [] := h; subst h; exact g
  | (x, d) :: fs, gs, us, vs, h, g => by
    obtain ⟨v, r, rfl, h1, h2⟩ := h
    exact ⟨v, _, rfl, h1, RepF.app h2 g⟩
theorem RepF.len : ∀ {fs : List (Str × Ky.D)} {us : List (Str × V)}, RepF K adr F fs us → us.length = fs.length
  | [], us, h => by have h : us = [] := h; subst h; rfl
  | (x, d) :: fs, us, h => by
    obtain ⟨v, r, rfl, h1, h2⟩ := h
    simp [RepF.len h2]
theorem rs_setFld {i : Nat} {x f : Str} {e : Expr} (hf : Facts P w K mg base adr (G.at h) fn (callB h) lv) (hX : XOk P w K mg base (G.at h) lv c PN W X) (hN : c.N[i]? = some x) (hv : Vis c.sc x) (h1 : (x == ("__debug__" : Str)) = false) (h2 : (x == ("__classdict__" : Str)) = false)
    (he : PE X e (RE K adr (G.at h) (callB h) PN W a)) (hsw : swapsWith e (some (.Attribute (.Name x pos2) f pos3)) pos.line X.env = pure false) :
    PS X (.Assign [.Attribute (.Name x pos2) f pos3] e pos) (RS K adr G callB PN W h (.setFld i f a)) := by
  refine PS.imI (ps_fld (pe_var (pos := pos2) (by rw [hX.hN]; exact hN) (by rw [hX.hs]; exact hv) h1 h2) he hsw) fun D σ H hlen hr => ?_
  obtain ⟨B, F, env, fx, hs, hb, ho⟩ := hr
  rw [exS] at ho
  refine ⟨B, F, env, [], hs, (OutS.to hb (ev_pre a env) ho).imp fun r e _ ⟨hb1, ho⟩ v H1 F1 s1 g => ?_⟩
  cases q1 : frz r e with
  | none => rw [q1] at ho; exact ho.elim
  | some z =>
    obtain ⟨d, e'⟩ := z
    rw [q1] at ho
    obtain ⟨F2, s2, g2⟩ := g.frz1 q1
    have hb2 := hb1.pre (pre_frz q1)
    have ho : OutS K adr PN W B F fx D (match e'[i]? with
      | some (some (.bor (.I c fs))) => if fs.length < 900 && (fs.lookup f).isNone && ((G.at h).flds c).contains f then .next (e'.set i (some (.bor (.I c (fs ++ [(f, d)]))))) else .bad
      | _ => .bad) := ho
    split at ho
    · rename_i cc fs q2
      split at ho
      · rename_i hc
        rw [Bool.and_eq_true, Bool.and_eq_true] at hc
        obtain ⟨⟨c1, c2⟩, c3⟩ := hc
        have ho := OutS.later ho (s1.trans s2)
        obtain ⟨hcl, na⟩ := hf.flds cc f (by simpa using c3)
        obtain ⟨v0, hσ, p, ev, hB, hF, dx, vs, hp, hr⟩ := g2.sl i _ q2
        subst ev
        have rd : Rep K adr F2 d v := g2.tm (R.v d, v) List.mem_cons_self
        have hnone : vs.lookup f = none := RepF.none hr (by simpa using c2)
        refine ⟨.ref p, hσ, p, adr cc, dx, vs, rfl, hp, by rw [hX.hK]; exact (hf.cl.own cc hcl).cls, by rw [hX.hK]; exact na, by rw [RepF.len hr]; have := of_decide_eq_true c1; omega, ?_⟩
        rw [putF_new hnone]
        refine ho σ _ F2 Same.rfl' ?_ (g2.pop.setObj (s' := .bor (.I cc (fs ++ [(f, d)]))) (o := .I cc fs) (o' := .I cc (fs ++ [(f, d)])) q2 hσ (.inr ⟨rfl, rfl⟩) ⟨dx, _, upd_same, RepF.app hr ⟨v, [], rfl, rd, rfl⟩⟩)
        intro j2 t z kz
        by_cases hj : j2 = i
        · subst hj; exact hb2 j2 _ q2 rfl
        · rw [List.getElem?_set_ne (Ne.symm hj)] at z; exact hb2 j2 t z kz
      · exact ho.elim
    · exact ho.elim
end
end Ky
end
section
set_option Elab.async false
set_option linter.all false
set_option maxRecDepth 100000
set_option maxHeartbeats 1000000
/-! Ky, part Zd: a def keeps its promise. -/
namespace Ky
open PySem PySem.Spec PyProof.Rows L2
section
variable {P : Program} {w : World} {K : PySem.W.Frag} {mg : Str → Option Value} {base : Heap} {adr : Str → Addr} {G : GT} {fn : Str → Option Fn} {lv : Nat} {c : Cf} {PN : Addr → Addr → Option Addr → Prop} {W : WX} {X : Cx} {h : Bool}
variable {B F F' H H' : Hp} {env e1 env' : Env} {σ σ' : St} {ts : List (R × V)} {fx : Nat → Option (Option V)} {D : Ends}

/-- the slots at a def's start -/
def startE (f : Fn) (ss : List S) : Env := (ss ++ (fillD f ss.length).map S.v).map some ++ List.replicate (f.N.length - f.ps.length) none
theorem RepL.map0 {ds : List Ky.D} {vs : List V} (h : RepL K adr H0 ds vs) : RepL K adr F ds vs := RepL.mono same0 _ _ h
theorem start_st {f : Fn} {ss : List S} {vs1 dvs : List V} (hl : ss.length = vs1.length) (hd : RepL K adr H0 (fillD f ss.length) dvs) (hn : (vs1 ++ dvs).length = f.ps.length) (hs : StT K adr PN0 B F (ss.map some) (vs1.map some) H []) :
    StT K adr PN0 B F (startE f ss) (L2.start f.N (vs1 ++ dvs)) H [] := by
  have hdl := hd.length
  have sget : ∀ (i : Nat) (s : S), (startE f ss)[i]? = some (some s) → (i < ss.length ∧ ss[i]? = some s) ∨ (ss.length ≤ i ∧ ∃ d, (fillD f ss.length)[i - ss.length]? = some d ∧ s = .v d) := fun i s q => by
    unfold startE at q
    by_cases h1 : i < (ss ++ (fillD f ss.length).map S.v).length
    · rw [List.getElem?_append_left (by rw [List.length_map]; exact h1), List.getElem?_map] at q
      by_cases h2 : i < ss.length
      · rw [List.getElem?_append_left h2] at q
        cases z : ss[i]? with
        | none => rw [z] at q; cases q
        | some t => rw [z] at q; cases q; exact .inl ⟨h2, rfl⟩
      · rw [List.getElem?_append_right (by omega), List.getElem?_map] at q
        cases z : (fillD f ss.length)[i - ss.length]? with
        | none => rw [z] at q; cases q
        | some d => rw [z] at q; cases q; exact .inr ⟨by omega, d, rfl, rfl⟩
    · rw [List.getElem?_append_right (by rw [List.length_map]; omega), List.getElem?_replicate] at q
      split at q <;> cases q
  have vget : ∀ (i : Nat) (v : V), (vs1 ++ dvs)[i]? = some v → (L2.start f.N (vs1 ++ dvs))[i]? = some (some v) := fun i v q => by
    have hi := (List.getElem?_eq_some_iff.mp q).1
    unfold L2.start
    rw [List.getElem?_append_left (by rw [List.length_map]; exact hi), List.getElem?_map, q]
    rfl
  have ob : ∀ i a, ObS (startE f ss) (L2.start f.N (vs1 ++ dvs)) i a → ObS (ss.map some) (vs1.map some) i a := fun i a ⟨⟨s, q1, q2⟩, q3⟩ => by
    rcases sget i s q1 with ⟨l, g⟩ | ⟨l, d, _, rfl⟩
    · refine ⟨⟨s, by rw [List.getElem?_map, g] <;> rfl, q2⟩, ?_⟩
      have hv : vs1[i]? = some (vs1[i]'(by omega)) := List.getElem?_eq_getElem (by omega)
      have := vget i _ (by rw [List.getElem?_append_left (by omega)]; exact hv)
      rw [this] at q3
      rw [List.getElem?_map, hv]
      exact q3
    · cases q2
  refine ⟨hs.sb, hs.sf, hs.dj, fun i s q => ?_, fun t m => (by cases m), fun i j a n q1 q2 => hs.d1 i j a n (ob i a q1) (ob j a q2), fun i a q z => (by cases z), List.Pairwise.nil⟩
  rcases sget i s q with ⟨l, g⟩ | ⟨l, d, g, rfl⟩
  · obtain ⟨v, g1, g2⟩ := hs.sl i s (by rw [List.getElem?_map, g] <;> rfl)
    refine ⟨v, vget i v ?_, g2⟩
    rw [List.getElem?_append_left (by omega)]
    exact un_some g1
  · obtain ⟨v, g1, g2⟩ := RepL.get (RepL.map0 (F := F) hd) g
    refine ⟨v, vget i v ?_, g2⟩
    rw [List.getElem?_append_right (by omega), ← hl]
    exact g1
/-- the lent slots among the arguments -/
theorem outs_get : ∀ {ss : List S} {env : Env} {os : List O}, outs ss env = some os → os.length = borN ss ∧ ∀ (i : Nat) (o : O), (argsE ss os)[i]? = some (some (.bor o)) → (∃ o', ss[i]? = some (.bor o')) ∧ env[i]? = some (some (.bor o))
  | [], env, os, h => by
    have h : some [] = some os := by cases env <;> exact h
    cases h
    exact ⟨rfl, fun i o q => by cases q⟩
  | s :: ss, [], os, h => by cases s <;> cases h
  | s :: ss, e :: env, os, h => by
    by_cases hb : ∃ o, s = .bor o
    · obtain ⟨o, rfl⟩ := hb
      cases e with
      | none => exact absurd (show (none : Option (List O)) = some os from h) (by simp)
      | some t =>
        cases t with
        | bor o2 =>
          have h : (outs ss env).map (o2 :: ·) = some os := h
          cases q : outs ss env with
          | none => rw [q] at h; cases h
          | some os2 =>
            rw [q] at h
            cases h
            obtain ⟨g1, g2⟩ := outs_get q
            refine ⟨by show os2.length + 1 = borN ss + 1; rw [g1], fun i o3 z => ?_⟩
            have z : (some (S.bor o2) :: argsE ss os2)[i]? = some (some (.bor o3)) := z
            cases i with
            | zero => cases z; exact ⟨⟨o, rfl⟩, rfl⟩
            | succ i => exact g2 i o3 z
        | _ => exact absurd (show (none : Option (List O)) = some os from h) (by simp)
    · have h2 : outs ss env = some os := by cases s <;> first | exact h | exact absurd ⟨_, rfl⟩ hb
      obtain ⟨g1, g2⟩ := outs_get h2
      have e1 : borN (s :: ss) = borN ss := by cases s <;> first | rfl | exact absurd ⟨_, rfl⟩ hb
      have e2 : argsE (s :: ss) os = none :: argsE ss os := by cases s <;> first | rfl | exact absurd ⟨_, rfl⟩ hb
      refine ⟨g1.trans e1.symm, fun i o z => ?_⟩
      rw [e2] at z
      cases i with
      | zero => cases z
      | succ i => exact g2 i o z
theorem argsE_bl : ∀ {ss : List S} {os : List O} {i : Nat} {s : S}, (argsE ss os)[i]? = some (some s) → ∃ o, s = .bor o
  | [], os, i, s, h => by cases h
  | t :: ss, os, i, s, h => by
    by_cases hc : ∃ b o1 os1, t = .bor b ∧ os = o1 :: os1
    · obtain ⟨b, o1, os1, rfl, rfl⟩ := hc
      have h : (some (S.bor o1) :: argsE ss os1)[i]? = some (some s) := h
      cases i with
      | zero => cases h; exact ⟨o1, rfl⟩
      | succ i => exact argsE_bl h
    · have e : argsE (t :: ss) os = none :: argsE ss os := by
        rw [argsE]
        intro b o1 os1 e1 e2
        first | exact hc ⟨b, o1, os1, e1, e2⟩ | exact hc ⟨_, _, _, e2, e1⟩
      rw [e] at h
      cases i with
      | zero => cases h
      | succ i => exact argsE_bl h
theorem borN_map : ∀ (ds : List Ky.D), borN (ds.map S.v) = 0
  | [] => rfl
  | _ :: ds => borN_map ds
theorem borN_app : ∀ (ss : List S) (ds : List Ky.D), borN (ss ++ ds.map S.v) = borN ss
  | [], ds => borN_map ds
  | s :: ss, ds => by cases s <;> first | exact borN_app ss ds | exact congrArg (· + 1) (borN_app ss ds)
/-- what a body's end gives of a call -/
theorem fin_ends {ss : List S} {vs1 dvs : List V} {f : Fn} {Q : VK} {E : XK} (hl : ss.length = vs1.length) (hn : (vs1 ++ dvs).length = f.ps.length) {r : R} {e2 : Env} (ss2 : List Ky.D)
    (he : Ends' K adr (fin (ss ++ ss2.map S.v) r e2) ss vs1 B F Q E) {v : V} {σ' : St} {H' F' : Hp} (s1 : Same F F') (hb : Bx (fun j => (L2.start f.N (vs1 ++ dvs))[j]?) e2 σ') (g : StT K adr PN0 B F' e2 σ' H' [(r, v)]) : Q v H' := by
  unfold fin at he
  cases q : outs (ss ++ ss2.map S.v) e2 with
  | none => rw [q] at he; exact he.elim
  | some os =>
    rw [q] at he
    obtain ⟨g1, g2⟩ := outs_get q
    have bn : ∀ (ss : List S), borN (ss ++ ss2.map S.v) = borN ss := fun ss => borN_app ss ss2
    have an : ∀ (ss : List S) (os : List O) (i : Nat) (o : O), (argsE ss os)[i]? = some (some (.bor o)) → (argsE (ss ++ ss2.map S.v) os)[i]? = some (some (.bor o)) := fun ss => by
      induction ss with
      | nil => intro os i o z; cases z
      | cons s ss ih =>
        intro os i o z
        by_cases hc : ∃ b o1 os1, s = .bor b ∧ os = o1 :: os1
        · obtain ⟨b, o1, os1, rfl, rfl⟩ := hc
          have z : (some (S.bor o1) :: argsE ss os1)[i]? = some (some (.bor o)) := z
          show (some (S.bor o1) :: argsE (ss ++ ss2.map S.v) os1)[i]? = some (some (.bor o))
          cases i with
          | zero => exact z
          | succ i => exact ih os1 i o z
        · have e1 : ∀ tt : List S, argsE (s :: tt) os = none :: argsE tt os := fun tt => by
            rw [argsE]
            intro b o1 os1 e1 e2
            first | exact hc ⟨b, o1, os1, e1, e2⟩ | exact hc ⟨_, _, _, e2, e1⟩
          rw [e1] at z
          rw [List.cons_append, e1]
          cases i with
          | zero => cases z
          | succ i => exact ih os i o z
    -- the state seen from the caller
    have slots : ∀ (i : Nat) (s : S), (argsE ss os)[i]? = some (some s) → ∃ (o : O) (u : V), s = .bor o ∧ e2[i]? = some (some (.bor o)) ∧ vs1[i]? = some u ∧ σ'[i]? = some (some u) := fun i s z => by
      obtain ⟨o, rfl⟩ := argsE_bl z
      obtain ⟨⟨o', ho'⟩, y⟩ := g2 i o (an ss os i o z)
      have hi : i < ss.length := by
        have : i < (argsE ss os).length := (List.getElem?_eq_some_iff.mp z).1
        have al : ∀ (ss : List S) (os : List O), (argsE ss os).length = ss.length := fun ss => by
          induction ss with
          | nil => intro os; rfl
          | cons s ss ih =>
            intro os
            by_cases hc : ∃ b o1 os1, s = .bor b ∧ os = o1 :: os1
            · obtain ⟨b, o1, os1, rfl, rfl⟩ := hc
              exact congrArg (· + 1) (ih os1)
            · have e1 : argsE (s :: ss) os = none :: argsE ss os := by
                rw [argsE]
                intro b o1 os1 e1 e2
                first | exact hc ⟨b, o1, os1, e1, e2⟩ | exact hc ⟨_, _, _, e2, e1⟩
              rw [e1]
              exact congrArg (· + 1) (ih os)
        rwa [al] at this
      have hv : vs1[i]? = some (vs1[i]'(by omega)) := List.getElem?_eq_getElem (by omega)
      refine ⟨o, _, rfl, y, hv, ?_⟩
      rw [hb i _ y rfl]
      show (L2.start f.N (vs1 ++ dvs))[i]? = _
      unfold L2.start
      rw [List.getElem?_append_left (by rw [List.length_map, List.length_append]; omega), List.getElem?_map, List.getElem?_append_left (by omega), hv]
      rfl
    have ob : ∀ i a, ObS (argsE ss os) (vs1.map some) i a → ObS e2 σ' i a := fun i a ⟨⟨s, z1, z2⟩, z3⟩ => by
      obtain ⟨o, u, rfl, y1, y2, y3⟩ := slots i s z1
      rw [List.getElem?_map, y2] at z3
      cases z3
      exact ⟨⟨_, y1, rfl⟩, y3⟩
    have mk : ∀ (r2 : R), TAt K adr B F' H' (argsE ss os) (vs1.map some) (r2, v) → (∀ i a, ObS e2 σ' i a → tAdr (r2, v) = some a → ∀ s, e2[i]? = some (some s) → ∃ o, s = .own o) → StT K adr PN0 B F' (argsE ss os) (vs1.map some) H' [(r2, v)] := fun r2 ht hd => by
      refine ⟨g.sb, g.sf, g.dj, fun i s z => ?_, fun t m => ?_, fun i j a n q1 q2 => g.d1 i j a n (ob i a q1) (ob j a q2), fun i a q1 z => ?_, ?_⟩
      · obtain ⟨o, u, rfl, y1, y2, y3⟩ := slots i s z
        obtain ⟨w, k1, k2⟩ := g.sl i _ y1
        rw [y3] at k1; cases k1
        exact ⟨u, by rw [List.getElem?_map, y2] <;> rfl, k2⟩
      · have : t = (r2, v) := by simpa using m
        subst this; exact ht
      · cases y : tAdr (r2, v) with
        | none => simp [y] at z
        | some b =>
          have : b = a := by simpa [y, eq_comm] using z
          subst this
          obtain ⟨⟨s, z1, z2⟩, z3⟩ := q1
          obtain ⟨o, u, rfl, y1, y2, y3⟩ := slots i s z1
          obtain ⟨o', e'⟩ := hd i b (ob i b ⟨⟨_, z1, z2⟩, z3⟩) y _ y1
          cases e'
      · cases y : tAdr (r2, v) <;> simp [y]
    have len : os.length = borN ss := g1.trans (bn ss)
    cases r with
    | v d => exact he len v H' F' s1 (mk _ (g.tm _ List.mem_cons_self) fun i a _ z => by cases z)
    | own o =>
      refine he len v H' F' s1 (mk _ (g.tm _ List.mem_cons_self) fun i a o1 z s _ => ?_)
      exact absurd (List.mem_filterMap.mpr ⟨_, List.mem_cons_self, z⟩) (g.d2 i a o1)
    | sl i =>
      have he : Ends' K adr (match e2[i]? with
        | some (some (.v d)) => .ok (.v d) os
        | some (some (.own o)) => .ok (.own o) os
        | _ => .bad) ss vs1 B F Q E := he
      obtain ⟨hσ, s, hs⟩ := g.tm (R.sl i, v) List.mem_cons_self
      have hσ : σ'[i]? = some (some v) := hσ
      obtain ⟨w, k1, k2⟩ := g.sl i s hs
      rw [hσ] at k1; cases k1
      rw [hs] at he
      cases s with
      | v d => exact he len v H' F' s1 (mk _ k2 fun i a _ z => by cases z)
      | own o =>
        refine he len v H' F' s1 (mk _ k2 fun j a o1 z s hs2 => ?_)
        obtain ⟨a', ev, _⟩ := k2
        subst ev
        cases z
        by_cases hj : j = i
        · subst hj; rw [hs] at hs2; cases hs2; exact ⟨o, rfl⟩
        · exact (g.d1 j i _ hj o1 ⟨⟨_, hs, rfl⟩, hσ⟩).elim
      | _ => exact he.elim
end
end Ky
end
section
set_option Elab.async false
set_option linter.all false
set_option maxRecDepth 100000
set_option maxHeartbeats 1000000
/-! Ky, part Ze: a def's body run in calm and within an except suite. -/
namespace Ky
open PySem PySem.Spec PyProof.Rows L2
section
variable {P : Program} {w : World} {K : PySem.W.Frag} {mg : Str → Option Value} {base : Heap} {adr : Str → Addr} {G : GT} {fn : Str → Option Fn} {lv n : Nat} {h : Bool}

theorem body_start {q : Str} {f : Fn} {vs : List V} {H : Hp} {Q : VK} {E : XK} (hq : fn q = some f) (hsp : spC K adr (callF G fn (n + 1) h) q f vs H Q E) :
    RSs K adr G (callF G fn n) PN0 (fun cls d _ H' => E cls d H') h f.body { nx := fun _ H' => Q .non H', rt := Q } (L2.start f.N vs) H := by
  obtain ⟨hlen, ss, vs1, dvs, B, F, rfl, hl, hd, hs, he⟩ := hsp
  have hdl := hd.length
  have hss : (ss ++ (fillD f ss.length).map S.v).length = f.ps.length := by
    rw [List.length_append] at hlen
    rw [List.length_append, List.length_map]
    omega
  have e0 : callF G fn (n + 1) h q ss = (match exSs G (callF G fn n) f.body h (startE f ss) with
      | .next env => fin (ss ++ (fillD f ss.length).map S.v) (.v .non) env
      | .ret r env => fin (ss ++ (fillD f ss.length).map S.v) r env
      | .exc c fs _ => .exc c fs
      | _ => .bad) := by
    rw [callF, hq]
    show (if (ss ++ (fillD f ss.length).map S.v).length = f.ps.length then _ else _) = _
    rw [if_pos hss]
    rfl
  rw [e0] at he
  refine ⟨B, F, startE f ss, fun j => (L2.start f.N (vs1 ++ dvs))[j]?, start_st hl hd hlen hs, fun i s _ _ => rfl, ?_⟩
  cases hx : exSs G (callF G fn n) f.body h (startE f ss) with
  | next e => rw [hx] at he; exact fun σ' H' F' s1 bx g => fin_ends hl hlen _ he s1 bx (g.data rfl)
  | ret r e => rw [hx] at he; exact fun v σ' H' F' s1 bx g => fin_ends hl hlen _ he s1 bx g
  | exc c fs e =>
    rw [hx] at he
    exact fun cls d σ' H' F' s1 bx g ex => he cls d H' F' s1 ⟨g.sb, g.sf, g.dj, fun i s z => (by cases z), fun t m => (by cases m), fun i j a n q1 q2 => (by obtain ⟨⟨s, e, _⟩, _⟩ := q1; cases e), fun i a q1 z => (by cases z), List.Pairwise.nil⟩ ex
  | brk e => rw [hx] at he; exact he.elim
  | cont e => rw [hx] at he; exact he.elim
  | bad => rw [hx] at he; exact he.elim
/-- the context of a def's body -/
abbrev cfOf (N : List Str) (scope : Scope) : Cf := ⟨N, scope, fun _ => true⟩
theorem sok_calm {N ps : List Str} {qual : Str} {scope : Scope} {f : Addr} {cdv : Value} {A : Around} {outer : List PySem.Env} {s : Shared} {H : Hp} {E : XK} (S : FnScope N ps scope) (hr : Room (lv + 1) (A.deeper (envOfC qual scope s.heap.objs.size f cdv))) :
    SOk P w K mg base (G.at false) lv (cfOf N scope) PN0 (fun cls d _ H' => E cls d H') (cxOf (L2N.CX P w) P w K mg base N qual scope f cdv A outer s H E) where
  ok := { hP := rfl, hw := rfl, hK := rfl, hm := rfl, hb := rfl, hN := rfl, hs := rfl, nd := S.nd, rooms := L2H.roomH_of hr, calm := fun _ => rfl, roomC := fun _ => hr, hotc := fun z => (by cases z), un := (by have := hr.un; show (A.deeper _).units + 64 < cLine; omega), tk := L2N.takes_of rfl rfl rfl rfl, fnc := rfl, pn0 := fun _ _ _ _ z => z, pnk := fun _ _ _ z => z.elim }
  own := fun _ => passes_of rfl
  stk := rfl
  frm := rfl
theorem sok_hot {N ps : List Str} {qual : Str} {scope : Scope} {f : Addr} {cdv : Value} {A : Around} {outer : List PySem.Env} {s : Shared} {H : Hp} {E : XK} {p : Addr × Obj} (S : FnScope N ps scope) (hot : L2H.Hot1 A p) (hr : L2H.RoomH (lv + 1) (A.deeper (envOfC qual scope s.heap.objs.size f cdv))) :
    SOk P w K mg base (G.at true) lv (cfOf N scope) PN0 (fun cls d _ H' => E cls d H') (L2H.cxH (L2N.CX P w) P w K mg base N qual scope f cdv A outer s H E p) where
  ok := { hP := rfl, hw := rfl, hK := rfl, hm := rfl, hb := rfl, hN := rfl, hs := rfl, nd := S.nd, rooms := hr, calm := fun z => (by cases z), roomC := fun z => (by cases z), hotc := fun _ => ⟨p, hot, List.mem_cons_self⟩, un := (by have := hr.un; show (A.deeper _).units + 64 < cLine; omega), tk := L2N.takes_of rfl rfl rfl rfl, fnc := rfl, pn0 := fun z => (by cases z), pnk := fun _ _ _ z => z.elim }
  own := fun z => by cases z
  stk := rfl
  frm := rfl
theorem fn_sound {q : Str} {f : Fn} {name qual : Str} {params : Arguments} {body : List Stmt} {scope : Scope} {dV kV doc pm cdv ct oc : Value} {an od : Option Addr} {osl : Array (Option Value)} (hq : fn q = some f)
    (lk : K.lookup (adr q) = some ⟨oc, od, .func (PySem.W.fnOf name qual params body scope dV kV doc pm an cdv ct), osl⟩) (hcd : PySem.W.codeIn K cdv qual = true) (S : FnScope f.N f.ps scope)
    (hbody : ∀ (h : Bool) (W : WX) (X : Cx), SOk P w K mg base (G.at h) lv (cfOf f.N scope) PN0 W X → PSs X body (RSs K adr G (callF G fn n) PN0 W h f.body)) (h : Bool) :
    FnQ P w K mg base h (lv + 2) (adr q) (PySem.W.fnOf name qual params body scope dV kV doc pm an cdv ct) f.ps (spC K adr (callF G fn (n + 1) h) q f) where
  ok := fun hh => by
    subst hh
    refine fn_of lk hcd S (fun vs H Q E hsp => hsp.1) fun A outer s H vs Q E hr hsp => ?_
    exact ⟨_, hbody false _ _ (sok_calm S hr), body_start hq hsp⟩
  ho := fun hh => by
    subst hh
    refine L2H.fn_ofH lk hcd S (fun vs H Q E hsp => hsp.1) fun A outer s H vs Q E p hot hr hsp => ?_
    exact ⟨_, hbody true _ _ (sok_hot S hot hr), body_start hq hsp⟩
end
end Ky
end
section
set_option Elab.async false
set_option linter.all false
set_option maxRecDepth 100000
set_option maxHeartbeats 1000000
/-! Ky, part Zf: all levels of calls. -/
namespace Ky
open PySem PySem.Spec PyProof.Rows L2
/-- what is known of the program, calls apart -/
structure Stat (w : World) (K : PySem.W.Frag) (mg : Str → Option Value) (adr : Str → Addr) (G : GT) (fn : Str → Option Fn) : Prop where
  cl : ClFact K adr G
  glf : ∀ q ∈ G.gl, mg q = some (.ref (adr q)) ∧ PySem.W.keepIn K (.ref (adr q)) = true
  blf : ∀ x ∈ G.bl, mg x = none
  cst : ∀ x d, G.cst x = some d → ∃ v u, mg x = some u ∧ RelV v u ∧ Rep K adr H0 d v
  mkf : ∀ c ∈ G.cl, mg c = some (.ref (adr c)) ∧ Mk K (adr c) (adr (c ++ ".__init__"))
  meth : ∀ c m q, G.meth c m = some q → c ∈ G.cl ∧ Meth K (adr c) m (adr q)
  prop : ∀ c f q, G.prop c f = some q → c ∈ G.cl ∧ ∃ p, PropOf K (adr c) f p (adr q)
  ccon : ∀ c f d, G.ccon c f = some d → mg c = some (.ref (adr c)) ∧ ∃ mc v u, ClX.CRead K (adr c) mc ∧ ClX.CVal K (adr c) mc f v u ∧ Rep K adr H0 d v
  flds : ∀ c f, f ∈ G.flds c → c ∈ G.cl ∧ NoAttr K (adr c) f
  exk : ∀ c fs, G.exc c = some fs → XfC K (adr c) ∧ (∀ f ∈ fs, PySem.W.findIn K (.ref (adr c)) f = some none) ∧ (PySem.W.clsIn K (adr c)).isSome = true ∧ PySem.W.findIn K (.ref (adr c)) "__class__" = some (some (.builtin "object.__class__")) ∧
    PySem.W.specialIn K (.builtin "object.__class__") "__get__" = some (some (.builtin "getset_descriptor.__get__")) ∧ PySem.W.takesIn K (.builtin "object.__class__") = some true ∧ PySem.W.mroIn K (adr c) (.type "object") = some true
  exo : ∀ c fs c', G.exc c = some fs → c' ∈ G.xcl → PySem.W.kitOne K (.ref (adr c)) (.ref (adr c')) = some (G.sub c c')
  xcm : ∀ c ∈ G.xcl, mg c = some (.ref (adr c))
  exm : ∀ c fs c', G.exc c = some fs → c' ∈ G.xcl → PySem.W.exmOne K (.ref (adr c)) (.ref (adr c')) = some (G.sub c c')
  dct : ∀ x kvs, G.dct x = some kvs → ∃ a, mg x = some (.ref a) ∧ ∀ z d, kvs.lookup z = some d → ∃ v, KDct K w a z v ∧ Rep K adr H0 d v
  eqm : ∀ c q, G.eqm c = some q → c ∈ G.cl ∧ (∃ f, fn q = some f ∧ f.ps.length = 2) ∧ PySem.W.findIn K (.ref (adr c)) "__eq__" = some (some (.ref (adr q))) ∧ PySem.W.isFn K (.ref (adr q)) = true
section
variable {P : Program} {w : World} {K : PySem.W.Frag} {mg : Str → Option Value} {base : Heap} {adr : Str → Addr} {G : GT} {fn : Str → Option Fn} {lv n : Nat} {h : Bool}
/-- a def as it stands -/
structure DefAt (P : Program) (w : World) (K : PySem.W.Frag) (mg : Str → Option Value) (base : Heap) (adr : Str → Addr) (G : GT) (fn : Str → Option Fn) (q : Str) (f : Fn) (fd : FuncData) : Prop where
  run : ∃ (name qual : Str) (params : Arguments) (body : List Stmt) (scope : Scope) (dV kV doc pm cdv ct oc : Value) (an od : Option Addr) (osl : Array (Option Value)), fd = PySem.W.fnOf name qual params body scope dV kV doc pm an cdv ct ∧
    K.lookup (adr q) = some ⟨oc, od, .func fd, osl⟩ ∧ PySem.W.codeIn K cdv qual = true ∧ FnScope f.N f.ps scope ∧
    ∀ (n lv : Nat), (∀ h, Facts P w K mg base adr (G.at h) fn (callF G fn n h) lv) → ∀ (h : Bool) (W : WX) (X : Cx), SOk P w K mg base (G.at h) lv (cfOf f.N scope) PN0 W X → PSs X body (RSs K adr G (callF G fn n) PN0 W h f.body)
  bnd : ∀ n, n ≤ f.ps.length → f.ps.length ≤ n + f.dfl.length → ∃ ds dvs, Binds K fd f.ps ds ∧ Vals dvs ds ∧ RepL K adr H0 (fillD f n) dvs
  kp : PySem.W.keepIn K (.ref (adr q)) = true
theorem callF_ar (n : Nat) (h : Bool) (q : Str) (ss : List S) (nb : callF G fn n h q ss ≠ .bad) : ∃ f, fn q = some f ∧ ss.length ≤ f.ps.length ∧ f.ps.length ≤ ss.length + f.dfl.length := by
  cases n with
  | zero => exact absurd rfl nb
  | succ n =>
    cases hq : fn q with
    | none => rw [callF, hq] at nb; exact absurd rfl nb
    | some f =>
      refine ⟨f, rfl, ?_⟩
      rw [callF, hq] at nb
      have nb : (if (ss ++ (fillD f ss.length).map S.v).length = f.ps.length then _ else CR.bad) ≠ .bad := nb
      by_cases hc : (ss ++ (fillD f ss.length).map S.v).length = f.ps.length
      · rw [List.length_append, List.length_map] at hc
        unfold fillD at hc
        rw [List.length_drop] at hc
        omega
      · rw [if_neg hc] at nb; exact absurd rfl nb
theorem fnq_none {q : Str} {f : Fn} {fd : FuncData} {call : Str → List S → CR} (hc : ∀ ss, call q ss = .bad) : FnQ P w K mg base h lv (adr q) fd f.ps (spC K adr call q f) where
  ok := fun _ => ⟨fun vs H Q E hsp => hsp.1, fun A outer s H args us vs Q E _ _ _ _ hsp => by
    obtain ⟨_, ss, _, _, _, _, _, _, _, _, he⟩ := hsp
    rw [hc] at he
    exact he.elim⟩
  ho := fun _ => ⟨fun vs H Q E hsp => hsp.1, fun A outer s H args us vs Q E p _ _ _ _ _ _ hsp => by
    obtain ⟨_, ss, _, _, _, _, _, _, _, _, he⟩ := hsp
    rw [hc] at he
    exact he.elim⟩
theorem facts_of (S : Stat w K mg adr G fn) (fd : Str → FuncData) (call : Str → List Ky.S → CR) (hd : ∀ q f, fn q = some f → DefAt P w K mg base adr G fn q f (fd q)) (hk : ∀ e ∈ G.kws, ∃ f, fn e.1 = some f ∧ KwOk K adr f (fd e.1) e.2.1 e.2.2.1 e.2.2.2.1 e.2.2.2.2)
    (hr : ∀ q f, fn q = some f → FnQ P w K mg base h lv (adr q) (fd q) f.ps (spC K adr call q f)) (ha : ∀ q ss, call q ss ≠ .bad → ∃ f, fn q = some f ∧ ss.length ≤ f.ps.length ∧ f.ps.length ≤ ss.length + f.dfl.length) : Facts P w K mg base adr (G.at h) fn call lv where
  cl := ⟨S.cl.own, S.cl.oo, S.cl.bo, S.cl.ob⟩
  fnk := fun q f hq => ⟨fd q, hr q f hq, (hd q f hq).bnd⟩
  kw := fun e m => let ⟨f, hf, hk⟩ := hk e m; ⟨f, fd e.1, hf, hr _ _ hf, hk⟩
  glf := S.glf
  blf := S.blf
  cst := S.cst
  mkf := S.mkf
  meth := S.meth
  prop := S.prop
  ccon := S.ccon
  flds := S.flds
  exk := S.exk
  exo := S.exo
  xcm := S.xcm
  exm := S.exm
  ar := ha
  dct := S.dct
  kept := fun q f hq => (hd q f hq).kp
  eqm := S.eqm
/-- every level -/
theorem facts_all (S : Stat w K mg adr G fn) (fd : Str → FuncData) (hd : ∀ q f, fn q = some f → DefAt P w K mg base adr G fn q f (fd q)) (hk : ∀ e ∈ G.kws, ∃ f, fn e.1 = some f ∧ KwOk K adr f (fd e.1) e.2.1 e.2.2.1 e.2.2.2.1 e.2.2.2.2) : ∀ (n : Nat) (h : Bool), Facts P w K mg base adr (G.at h) fn (callF G fn n h) (2 * n)
  | 0, h => facts_of S fd _ hd hk (fun q f hq => fnq_none fun ss => rfl) (callF_ar 0 h)
  | n + 1, h => facts_of S fd _ hd hk (fun q f hq => by
      obtain ⟨name, qual, params, body, scope, dV, kV, doc, pm, cdv, ct, oc, an, od, osl, e, lk, hcd, sc, hb⟩ := (hd q f hq).run
      rw [e] at lk ⊢
      exact fn_sound hq lk hcd sc (hb n (2 * n) (facts_all S fd hd hk n)) h) (callF_ar (n + 1) h)
end
end Ky
end
section
set_option Elab.async false
set_option linter.all false
set_option maxRecDepth 100000
set_option maxHeartbeats 1000000
/-! Ky, part Zg: does an own tree tell what is written. -/
namespace Ky
open PySem PySem.Spec PyProof.Rows L2
def visB (c : Cf) (x : Str) : Bool := match c.sc.names.lookup x with | some .local => true | some .cell => true | some .free => true | _ => false
def glB (c : Cf) (x : Str) : Bool := match c.sc.names.lookup x with | some .globalImplicit => true | _ => false
def setB (c : Cf) (x : Str) : Bool := match c.sc.names.lookup x with | some .local => true | some .cell => c.fn x | _ => false
def locB (c : Cf) (x : Str) : Bool := match c.sc.names.lookup x with | some .local => true | _ => false
def nmB (c : Cf) (i : Nat) (x : Str) : Bool := decide (c.N[i]? = some x) && visB c x && !(x == ("__debug__" : Str)) && !(x == ("__classdict__" : Str))
def gB (c : Cf) (x : Str) : Bool := glB c x && !(x == ("__debug__" : Str))
/-- a built-in name that the module leaves alone -/
def bB (G : GT) (c : Cf) (x : Str) : Bool := gB c x && G.bl.contains x
def litB : D → Expr → Bool
  | .int i, .Constant (.int j) _ _ => i == j
  | .str x, .Constant (.str y) _ _ => x == y
  | .bl b, .Constant (.bool d) _ _ => b == d
  | .non, .Constant .none _ _ => true
  | _, _ => false
def nmsB (c : Cf) : List Nat → List Expr → Bool
  | [], [] => true
  | i :: is, .Name x _ :: es => decide (c.N[i]? = some x) && setB c x && nmsB c is es
  | _, _ => false
def tgB (c : Cf) : Tg → Expr → Bool
  | .nm i, .Name x _ => decide (c.N[i]? = some x) && setB c x
  | .tp is, .Tuple es _ _ => nmsB c is es
  | _, _ => false
def biS (b : Bi) : Str := biN b
def tyB (G : GT) (c : Cf) : Ty → Expr → Bool
  | .ty n, .Name x _ => x == (n : Str) && bB G c x && okTy.contains n
  | .cl d, .Name x _ => x == d && gB c x && G.cl.contains d
  | _, _ => false
def tysB (G : GT) (c : Cf) : List Ty → List Expr → Bool
  | [], [] => true
  | t :: ts, e :: es => tyB G c t e && tysB G c ts es
  | _, _ => false
def xclB (G : GT) (c : Cf) : List Str → List Expr → Bool
  | [], [] => true
  | t :: ts, .Name x _ :: es => x == t && gB c x && G.xcl.contains t && xclB G c ts es
  | _, _ => false
/-- the slots of a block's names -/
def ownOf (N : List Str) (vs : List Nat) : List (Str × Nat) := vs.filterMap fun v => (N[v]?).map fun x => (x, v)
def isYes : Tx → Bool | .yes => true | _ => false
def noFold : Expr → Bool | .Set .. => false | _ => true
section
variable (G : GT)
mutual
def mE : Ex → Cf → Expr → Bool
  | .var i, c, e => match e with | .Name x _ => nmB c i x | _ => false
  | .cst d, c, e => litB d e
  | .glb x, c, e => match e with | .Name y _ => x == y && gB c x && (G.cst x).isSome | _ => false
  | .bin o a b, c, e => match e with | .BinOp p o' q _ => o == o' && mE a c p && mE b c q | _ => false
  | .neg a, c, e => match e with | .UnaryOp .USub p _ => mE a c p | _ => false
  | .nt a, c, e => match e with | .UnaryOp .Not p _ => mE a c p | _ => false
  | .cmp o a b, c, e => match e with | .Compare p [o'] [q] _ => o == o' && mE a c p && mE b c q && !behindInMarks o' q | _ => false
  | .cm2 o o' a b d, c, e => match e with | .Compare p [x, y] [q, r] _ => o == x && o' == y && mE a c p && mE b c q && mE d c r && !lastMarks [x, y] [q, r] | _ => false
  | .an a b, c, e => match e with
    | .BoolOp .And [p, q] _ => mE a c p && mE b c q
    | .BoolOp .And (p :: q :: r :: rest) pos => mE a c p && mE b c (.BoolOp .And (q :: r :: rest) pos)
    | _ => false
  | .or a b, c, e => match e with
    | .BoolOp .Or [p, q] _ => mE a c p && mE b c q
    | .BoolOp .Or (p :: q :: r :: rest) pos => mE a c p && mE b c (.BoolOp .Or (q :: r :: rest) pos)
    | _ => false
  | .ite t a b, c, e => match e with | .IfExp p q r _ => mT t c p && mE a c q && mE b c r | _ => false
  | .tup es, c, e => match e with | .Tuple ps _ _ => mA es c ps | _ => false
  | .lst es, c, e => match e with | .List ps _ => mA es c ps | _ => false
  | .idx a b, c, e => match e with | .Subscript p q _ => mE a c p && mE b c q && ixPlain q | _ => false
  | .slc a lo hi, c, e => match e with | .Subscript p (.Slice l h none _) _ => mE a c p && mO lo c l && mO hi c h | _ => false
  | .rev a, c, e => match e with | .Subscript p (.Slice none none (some (.UnaryOp .USub (.Constant (.int 1) _ _) _)) _) _ => mE a c p | _ => false
  | .call q es, c, e => match e with | .Call (.Name x _) ps [] _ => x == q && gB c x && G.gl.contains x && mA es c ps | _ => false
  | .callk j es zs, c, e => match e with
    | .Call (.Name x _) ps kws _ => (match G.kws[j]? with
      | some (q, _, ks, _, _) => x == q && gB c x && G.gl.contains x && mA es c ps && mK zs c kws && (kws.map (·.arg) == ks.map some)
      | none => false)
    | _ => false
  | .calv i es, c, e => match e with | .Call (.Name x _) ps [] _ => nmB c i x && mA es c ps | _ => false
  | .mk d es, c, e => match e with | .Call (.Name x _) ps [] _ => x == d && gB c x && mA es c ps | _ => false
  | .meth m o es, c, e => match e with | .Call (.Attribute q n apos) ps [] pos => m == n && mE o c q && attrPlain q && decide (ps.length < 30) && (apos.endLine == pos.line) && mA es c ps | _ => false
  | .fld o f, c, e => match e with | .Attribute q g _ => f == g && mE o c q && attrPlain q | _ => false
  | .ccon d f, c, e => match e with | .Attribute (.Name x _) g _ => x == d && f == g && gB c x && (G.ccon d f).isSome | _ => false
  | .bi b es, c, e => match e with | .Call (.Name x _) (p :: ps) [] _ => x == biS b && bB G c x && mA es c (p :: ps) | _ => false
  | .isi a t, c, e => match e with | .Call (.Name x _) [q, r] [] _ => x == ("isinstance" : Str) && bB G c x && mE a c q && notStar q && tyB G c t r | _ => false
  | .isis a ts, c, e => match e with | .Call (.Name x _) [q, .Tuple ps _ _] [] _ => x == ("isinstance" : Str) && bB G c x && mE a c q && notStar q && tysB G c ts ps && decide (ts.length ≤ 100) && !ts.isEmpty | _ => false
  | .mut m i es, c, e => match e with | .Call (.Attribute (.Name x _) n apos) ps [] pos => nmB c i x && n == muN m && (apos.endLine == pos.line) && decide (ps.length < 30) && mA es c ps | _ => false
  | .comp vs g it cnd el, c, e => match e with
    | .ListComp elt [⟨tg, iter, ifs, 0⟩] scope _ => blkC c.N c.sc scope (ownOf c.N vs) && decide ((ownOf c.N vs).map (·.2) = vs) && g.vars.all vs.contains && mI it c tg iter && tgB (c.blk scope) g tg && (match ifs with | [] => isYes cnd | [t] => mT cnd (c.blk scope) t | _ => false) && mE el (c.blk scope) elt && noFold iter
    | _ => false
  | .efld i f, c, e => match e with | .Attribute (.Name x _) g _ => f == g && nmB c i x | _ => false
  | .cdx x a, c, e => match e with | .Subscript (.Name y _) q _ => x == y && gB c x && (G.dct x).isSome && mE a c q && ixPlain q | _ => false
  | .eisi i t, c, e => match e with | .Call (.Name x _) [.Name y _, .Name z _] [] _ => x == ("isinstance" : Str) && bB G c x && nmB c i y && z == t && gB c t | _ => false
  | .eisis i ts, c, e => match e with | .Call (.Name x _) [.Name y _, .Tuple ps _ _] [] _ => x == ("isinstance" : Str) && bB G c x && nmB c i y && xclB G c ts ps && decide (ts.length ≤ 100) | _ => false
  | .rg1 tp a, c, e => match e with | .Call (.Name x _) [.Call (.Name y _) [p] [] _] [] _ => x == tpN tp && y == ("range" : Str) && bB G c x && bB G c y && mE a c p && notStar p | _ => false
  | .rg2 tp a b, c, e => match e with | .Call (.Name x _) [.Call (.Name y _) [p, q] [] _] [] _ => x == tpN tp && y == ("range" : Str) && bB G c x && bB G c y && mE a c p && notStar p && mE b c q && notStar q | _ => false
  | .dead, c, e => true
def mK : Exs → Cf → List Keyword → Bool
  | .nil, c, ks => ks.isEmpty
  | .cons a es, c, ks => match ks with | k :: ks => mE a c k.value && mK es c ks | [] => false
def mA : Exs → Cf → List Expr → Bool
  | .nil, c, ps => ps.isEmpty
  | .cons a es, c, ps => match ps with | p :: ps => mE a c p && notStar p && mA es c ps | [] => false
def mO : Ox → Cf → Option Expr → Bool
  | .no, c, o => o.isNone
  | .so a, c, o => match o with | some p => mE a c p | none => false
def mT : Tx → Cf → Expr → Bool
  | .yes, c, e => false
  | .an a b, c, e => match e with
    | .BoolOp .And [p, q] _ => mT a c p && mT b c q
    | .BoolOp .And (p :: q :: r :: rest) pos => mT a c p && mT b c (.BoolOp .And (q :: r :: rest) pos)
    | _ => false
  | .or a b, c, e => match e with
    | .BoolOp .Or [p, q] _ => mT a c p && mT b c q
    | .BoolOp .Or (p :: q :: r :: rest) pos => mT a c p && mT b c (.BoolOp .Or (q :: r :: rest) pos)
    | _ => false
  | .nt a, c, e => match e with | .UnaryOp .Not p _ => mT a c p | _ => false
  | .cmp o a b, c, e => match e with | .Compare p [o'] [q] _ => o == o' && mE a c p && mE b c q && !behindInMarks o' q | _ => false
  | .cm2 o o' a b d, c, e => match e with | .Compare p [x, y] [q, r] _ => o == x && o' == y && mE a c p && mE b c q && mE d c r && !lastMarks [x, y] [q, r] | _ => false
  | .val a, c, e => mE a c e && testPlain e
def mI : Itx → Cf → Expr → Expr → Bool
  | .seq a, c, tg, e => mE a c e
  | .rng1 a, c, tg, e => match e with | .Call (.Name x _) [q] [] _ => x == ("range" : Str) && bB G c x && mE a c q && notStar q | _ => false
  | .rng2 a b, c, tg, e => match e with | .Call (.Name x _) [q, r] [] _ => x == ("range" : Str) && bB G c x && mE a c q && notStar q && mE b c r && notStar r | _ => false
  | .zip a b, c, tg, e => match tg, e with | .Tuple _ _ _, .Call (.Name x _) [q, r] [] _ => x == ("zip" : Str) && bB G c x && mE a c q && notStar q && mE b c r && notStar r | _, _ => false
  | .enum a, c, tg, e => match tg, e with | .Tuple _ _ _, .Call (.Name x _) [q] [] _ => x == ("enumerate" : Str) && bB G c x && mE a c q && notStar q | _, _ => false
end
end
example : mE ⟨fun _ => none, fun _ _ => none, fun _ _ => none, fun _ _ => none, fun _ => none, fun _ => none, fun _ _ => false, [], [], [], fun _ => [], fun _ => none, [], [], 0, false⟩ (.bin .Add (.cst (.int 1)) (.cst (.int 2))) ⟨[], default, fun _ => true⟩ (.BinOp (.Constant (.int 1) 0 default) .Add (.Constant (.int 2) 0 default) default) = true := by decide +kernel
end Ky
end
section
set_option Elab.async false
set_option linter.all false
set_option maxRecDepth 100000
set_option maxHeartbeats 4000000
/-! Ky, part Zh: what is told is what runs: expressions. -/
namespace Ky
open PySem PySem.Spec PyProof.Rows L2
section
variable {P : Program} {w : World} {K : PySem.W.Frag} {mg : Str → Option Value} {base : Heap} {adr : Str → Addr} {G : GT} {fn : Str → Option Fn} {call : Str → List S → CR} {lv : Nat} {hot : Bool} {c : Cf} {PN : Addr → Addr → Option Addr → Prop} {W : WX} {X : Cx}
theorem and3 {a b : Bool} (h : (a && b) = true) : a = true ∧ b = true := by rw [Bool.and_eq_true] at h; exact h
theorem not_t {b : Bool} (h : (!b) = true) : b = false := by cases b <;> first | rfl | cases h
theorem visB_ok {x : Str} (h : visB c x = true) : Vis c.sc x := by
  unfold visB at h
  split at h
  · exact .inl ‹_›
  · exact .inr (.inl ‹_›)
  · exact .inr (.inr ‹_›)
  · cases h
theorem nmB_ok {i : Nat} {x : Str} (h : nmB c i x = true) : c.N[i]? = some x ∧ Vis c.sc x ∧ (x == ("__debug__" : Str)) = false ∧ (x == ("__classdict__" : Str)) = false := by
  unfold nmB at h
  obtain ⟨h, h4⟩ := and3 h
  obtain ⟨h, h3⟩ := and3 h
  obtain ⟨h1, h2⟩ := and3 h
  exact ⟨of_decide_eq_true h1, visB_ok h2, not_t h3, not_t h4⟩
theorem gB_ok {x : Str} (hX : XOk P w K mg base (G.at hot) lv c PN W X) (h : gB c x = true) : Gl X x ∧ (x == ("__debug__" : Str)) = false := by
  unfold gB at h
  obtain ⟨h1, h2⟩ := and3 h
  refine ⟨?_, not_t h2⟩
  unfold glB at h1
  split at h1
  · rename_i q
    show X.env.scope.names.lookup x = _
    rw [hX.hs]
    exact q
  · cases h1
theorem bB_ok {x : Str} (hf : Facts P w K mg base adr (G.at hot) fn call lv) (hX : XOk P w K mg base (G.at hot) lv c PN W X) (h : bB G c x = true) : Gl X x ∧ mg x = none := by
  unfold bB at h
  obtain ⟨h1, h2⟩ := and3 h
  exact ⟨(gB_ok hX h1).1, hf.blf x (List.contains_iff_mem.mp h2)⟩
theorem setB_ok {x : Str} (h : setB c x = true) : SetOk c x := by
  unfold setB at h
  split at h
  · exact .inl ‹_›
  · exact .inr ⟨‹_›, h⟩
  · cases h
theorem litB_ok {d : D} {e : Expr} (h : litB d e = true) : PE X e (RE K adr (G.at hot) call PN W (.cst d)) := by
  unfold litB at h
  split at h
  · rw [beq_iff_eq] at h; subst h; exact re_lit pe_int fun F => rfl
  · have h := beq_iff_eq.mp h; subst h; exact re_lit pe_str fun F => rfl
  · have h := beq_iff_eq.mp h; subst h; exact re_lit pe_bl fun F => rfl
  · exact re_lit pe_non fun F => rfl
  · cases h
theorem nmsB_ok : ∀ {is : List Nat} {es : List Expr}, nmsB c is es = true → NmsOk c is es
  | [], [], _ => .nil
  | i :: is, .Name x p :: es, h => by
    have h : (decide (c.N[i]? = some x) && setB c x && nmsB c is es) = true := h
    obtain ⟨h, h3⟩ := and3 h
    obtain ⟨h1, h2⟩ := and3 h
    exact .cons (of_decide_eq_true h1) (setB_ok h2) (nmsB_ok h3)
theorem tgB_ok {g : Tg} {e : Expr} (hX : XOk P w K mg base (G.at hot) lv c PN W X) (hc : (G.at hot).hot = false) (h : tgB c g e = true) : PG X e (RG K adr PN c g) := by
  unfold tgB at h
  split at h
  · obtain ⟨h1, h2⟩ := and3 h
    exact rg_nm hX (of_decide_eq_true h1) (setB_ok h2)
  · exact rg_tp hX hc (nmsB_ok h)
  · cases h
theorem tyB_ok {t : Ty} {e : Expr} (hf : Facts P w K mg base adr (G.at hot) fn call lv) (hX : XOk P w K mg base (G.at hot) lv c PN W X) (h : tyB G c t e = true) : PE X e (tC (tyV' adr t)) ∧ notStar e = true := by
  unfold tyB at h
  split at h
  · rename_i n x p
    obtain ⟨h, h3⟩ := and3 h
    obtain ⟨h1, h2⟩ := and3 h
    have h1 := beq_iff_eq.mp h1
    subst h1
    obtain ⟨g1, g2⟩ := bB_ok hf hX h2
    have hn : n ∈ okTy := by simpa using h3
    have five : bootBuiltins (n : Str) = some (.type n) ∧ (n : Str) ≠ "__name__" ∧ ((n : Str) == ("__debug__" : Str)) = false := by
      have : ∀ n ∈ okTy, bootBuiltins (n : Str) = some (.type n) ∧ (n : Str) ≠ "__name__" ∧ ((n : Str) == ("__debug__" : Str)) = false := by decide +kernel
      exact this n hn
    exact ⟨pe_bltn g1 (by rw [hX.hm]; exact g2) five.1 rfl five.2.1 five.2.2, rfl⟩
  · rename_i d x p
    obtain ⟨h, h3⟩ := and3 h
    obtain ⟨h1, h2⟩ := and3 h
    have h1 := beq_iff_eq.mp h1
    subst h1
    obtain ⟨g1, g2⟩ := gB_ok hX h2
    exact ⟨pe_glob (v := .ref (adr x)) (u := .ref (adr x)) g1 (by rw [hX.hm]; exact (hf.mkf x (List.contains_iff_mem.mp h3)).1) rfl g2, rfl⟩
  · cases h
theorem tysB_ok (hf : Facts P w K mg base adr (G.at hot) fn call lv) (hX : XOk P w K mg base (G.at hot) lv c PN W X) : ∀ {ts : List Ty} {es : List Expr}, tysB G c ts es = true → PA X es (tCs (ts.map (tyV' adr)))
  | [], [], _ => pa_cs_nil
  | t :: ts, e :: es, h => by
    have h : (tyB G c t e && tysB G c ts es) = true := h
    obtain ⟨h1, h2⟩ := and3 h
    obtain ⟨g1, g2⟩ := tyB_ok hf hX h1
    exact pa_cs g1 (tysB_ok hf hX h2) g2
theorem xclB_ok (hf : Facts P w K mg base adr (G.at hot) fn call lv) (hX : XOk P w K mg base (G.at hot) lv c PN W X) : ∀ {ts : List Str} {es : List Expr}, xclB G c ts es = true → PA X es (tCs (ts.map fun t => V.ref (adr t)))
  | [], [], _ => pa_cs_nil
  | t :: ts, .Name x p :: es, h => by
    have h : (x == t && gB c x && G.xcl.contains t && xclB G c ts es) = true := h
    obtain ⟨h, h4⟩ := and3 h
    obtain ⟨h, h3⟩ := and3 h
    obtain ⟨h1, h2⟩ := and3 h
    have h1 := beq_iff_eq.mp h1
    subst h1
    obtain ⟨g1, g2⟩ := gB_ok hX h2
    exact pa_cs (pe_glob (v := .ref (adr x)) (u := .ref (adr x)) g1 (by rw [hX.hm]; exact hf.xcm x (List.contains_iff_mem.mp h3)) rfl g2) (xclB_ok hf hX h4) rfl
theorem re_dead {e : Expr} : PE X e (RE K adr (G.at hot) call PN W .dead) := ⟨fun pins s σ H Q I h => by
  obtain ⟨B, F, env, ts, hs, ho⟩ := h
  rw [ev] at ho
  exact ho.elim⟩
theorem noFold_ok {e : Expr} {env : PySem.Env} (h : noFold e = true) : ∀ x, foldedSetIterable e env x = pure x := fun x => by
  cases e <;> first | rfl | (cases h; done)
end
end Ky
end
section
set_option Elab.async false
set_option linter.all false
set_option maxRecDepth 100000
set_option maxHeartbeats 4000000
/-! Ky, part Zi: what is told is what runs: all expressions. -/
namespace Ky
open PySem PySem.Spec PyProof.Rows L2
section
variable {P : Program} {w : World} {K : PySem.W.Frag} {mg : Str → Option Value} {base : Heap} {adr : Str → Addr} {G : GT} {fn : Str → Option Fn} {call : Str → List S → CR} {lv : Nat} {hot : Bool}
mutual
theorem mE_ok : ∀ (a : Ex) {c : Cf} {e : Expr} {PN : Addr → Addr → Option Addr → Prop} {W : WX} {X : Cx}, Facts P w K mg base adr (G.at hot) fn call lv → XOk P w K mg base (G.at hot) lv c PN W X → mE G a c e = true → PE X e (RE K adr (G.at hot) call PN W a)
  | .var i, c, e, PN, W, X, hf, hX, h => by
    unfold mE at h
    split at h
    · obtain ⟨h1, h2, h3, h4⟩ := nmB_ok h; exact re_var hX h1 h2 h3 h4
    · cases h
  | .cst d, c, e, PN, W, X, hf, hX, h => by unfold mE at h; exact litB_ok h
  | .glb x, c, e, PN, W, X, hf, hX, h => by
    unfold mE at h
    split at h
    · obtain ⟨h, h3⟩ := and3 h
      obtain ⟨h1, h2⟩ := and3 h
      have h1 := beq_iff_eq.mp h1
      subst h1
      obtain ⟨g1, g2⟩ := gB_ok hX h2
      exact re_glb hf hX g1 g2 h3
    · cases h
  | .bin o a b, c, e, PN, W, X, hf, hX, h => by
    unfold mE at h
    split at h
    · obtain ⟨h, h3⟩ := and3 h
      obtain ⟨h1, h2⟩ := and3 h
      have h1 := beq_iff_eq.mp h1
      subst h1
      exact re_bin hX (mE_ok a hf hX h2) (mE_ok b hf hX h3)
    · cases h
  | .neg a, c, e, PN, W, X, hf, hX, h => by
    unfold mE at h
    split at h
    · exact re_neg (mE_ok a hf hX h)
    · cases h
  | .nt a, c, e, PN, W, X, hf, hX, h => by
    unfold mE at h
    split at h
    · exact re_nt (mE_ok a hf hX h)
    · cases h
  | .cmp o a b, c, e, PN, W, X, hf, hX, h => by
    unfold mE at h
    split at h
    · obtain ⟨h, h4⟩ := and3 h
      obtain ⟨h, h3⟩ := and3 h
      obtain ⟨h1, h2⟩ := and3 h
      have h1 := beq_iff_eq.mp h1
      subst h1
      exact re_cmp hf hX (mE_ok a hf hX h2) (mE_ok b hf hX h3) (not_t h4)
    · cases h
  | .cm2 o o' a b d, c, e, PN, W, X, hf, hX, h => by
    unfold mE at h
    split at h
    · obtain ⟨h, h6⟩ := and3 h
      obtain ⟨h, h5⟩ := and3 h
      obtain ⟨h, h4⟩ := and3 h
      obtain ⟨h, h3⟩ := and3 h
      obtain ⟨h1, h2⟩ := and3 h
      have h1 := beq_iff_eq.mp h1
      have h2 := beq_iff_eq.mp h2
      subst h1 h2
      exact re_cm2 hf hX (mE_ok a hf hX h3) (mE_ok b hf hX h4) (mE_ok d hf hX h5) (not_t h6)
    · cases h
  | .an a b, c, e, PN, W, X, hf, hX, h => by
    unfold mE at h
    split at h
    · obtain ⟨h1, h2⟩ := and3 h
      exact re_an (mE_ok a hf hX h1) (pe_one (mE_ok b hf hX h2))
    · obtain ⟨h1, h2⟩ := and3 h
      exact re_an (mE_ok a hf hX h1) (mE_ok b hf hX h2)
    · cases h
  | .or a b, c, e, PN, W, X, hf, hX, h => by
    unfold mE at h
    split at h
    · obtain ⟨h1, h2⟩ := and3 h
      exact re_or (mE_ok a hf hX h1) (pe_one (mE_ok b hf hX h2))
    · obtain ⟨h1, h2⟩ := and3 h
      exact re_or (mE_ok a hf hX h1) (mE_ok b hf hX h2)
    · cases h
  | .ite t a b, c, e, PN, W, X, hf, hX, h => by
    unfold mE at h
    split at h
    · obtain ⟨h, h3⟩ := and3 h
      obtain ⟨h1, h2⟩ := and3 h
      exact re_ite (mT_ok t hf hX h1).1 (mE_ok a hf hX h2) (mE_ok b hf hX h3)
    · cases h
  | .tup es, c, e, PN, W, X, hf, hX, h => by
    unfold mE at h
    split at h
    · exact re_tup (mA_ok es hf hX h).1
    · cases h
  | .lst es, c, e, PN, W, X, hf, hX, h => by
    unfold mE at h
    split at h
    · exact re_lst (mA_ok es hf hX h).1
    · cases h
  | .idx a b, c, e, PN, W, X, hf, hX, h => by
    unfold mE at h
    split at h
    · obtain ⟨h, h3⟩ := and3 h
      obtain ⟨h1, h2⟩ := and3 h
      exact re_idx hX (mE_ok a hf hX h1) (mE_ok b hf hX h2) h3
    · cases h
  | .slc a lo hi, c, e, PN, W, X, hf, hX, h => by
    unfold mE at h
    split at h
    · obtain ⟨h, h3⟩ := and3 h
      obtain ⟨h1, h2⟩ := and3 h
      exact re_slc hX (mE_ok a hf hX h1) (mO_ok lo hf hX h2) (mO_ok hi hf hX h3)
    · cases h
  | .rev a, c, e, PN, W, X, hf, hX, h => by
    unfold mE at h
    split at h
    · exact re_rev hX (mE_ok a hf hX h)
    · cases h
  | .call q es, c, e, PN, W, X, hf, hX, h => by
    unfold mE at h
    split at h
    · obtain ⟨h, h4⟩ := and3 h
      obtain ⟨h, h3⟩ := and3 h
      obtain ⟨h1, h2⟩ := and3 h
      have h1 := beq_iff_eq.mp h1
      subst h1
      obtain ⟨g1, g2⟩ := gB_ok hX h2
      obtain ⟨k1, k2⟩ := mA_ok es hf hX h4
      exact re_call hf hX g1 (List.contains_iff_mem.mp h3) g2 k1 k2.1
    · cases h
  | .callk j es zs, c, e, PN, W, X, hf, hX, h => by
    unfold mE at h
    split at h
    · rename_i x p1 ps kws p2
      split at h
      · rename_i q n ks ar ds hj
        obtain ⟨h, h6⟩ := and3 h
        obtain ⟨h, h5⟩ := and3 h
        obtain ⟨h, h4⟩ := and3 h
        obtain ⟨h, h3⟩ := and3 h
        obtain ⟨h1, h2⟩ := and3 h
        have h1 := beq_iff_eq.mp h1
        subst h1
        obtain ⟨g1, g2⟩ := gB_ok hX h2
        obtain ⟨k1, k2⟩ := mA_ok es hf hX h4
        exact re_callk hf hX hj g1 (List.contains_iff_mem.mp h3) g2 k1 k2.1 (mK_ok zs hf hX h5) (beq_iff_eq.mp h6)
      · cases h
    · cases h
  | .calv i es, c, e, PN, W, X, hf, hX, h => by
    unfold mE at h
    split at h
    · obtain ⟨h1, h2⟩ := and3 h
      obtain ⟨g1, g2, g3, g4⟩ := nmB_ok h1
      obtain ⟨k1, k2⟩ := mA_ok es hf hX h2
      exact re_calv hf hX g1 g2 g3 g4 k1 k2.1
    · cases h
  | .mk d es, c, e, PN, W, X, hf, hX, h => by
    unfold mE at h
    split at h
    · obtain ⟨h, h3⟩ := and3 h
      obtain ⟨h1, h2⟩ := and3 h
      have h1 := beq_iff_eq.mp h1
      subst h1
      obtain ⟨g1, g2⟩ := gB_ok hX h2
      obtain ⟨k1, k2⟩ := mA_ok es hf hX h3
      exact re_mk hf hX g1 g2 k1 k2.1
    · cases h
  | .meth m o es, c, e, PN, W, X, hf, hX, h => by
    unfold mE at h
    split at h
    · obtain ⟨h, h6⟩ := and3 h
      obtain ⟨h, h5⟩ := and3 h
      obtain ⟨h, h4⟩ := and3 h
      obtain ⟨h, h3⟩ := and3 h
      obtain ⟨h1, h2⟩ := and3 h
      have h1 := beq_iff_eq.mp h1
      subst h1
      obtain ⟨k1, k2⟩ := mA_ok es hf hX h6
      exact re_meth hf hX (mE_ok o hf hX h2) h3 (of_decide_eq_true h4) h5 k1 k2.1
    · cases h
  | .fld o f, c, e, PN, W, X, hf, hX, h => by
    unfold mE at h
    split at h
    · obtain ⟨h, h3⟩ := and3 h
      obtain ⟨h1, h2⟩ := and3 h
      have h1 := beq_iff_eq.mp h1
      subst h1
      exact re_fld hf hX (mE_ok o hf hX h2) h3
    · cases h
  | .ccon d f, c, e, PN, W, X, hf, hX, h => by
    unfold mE at h
    split at h
    · obtain ⟨h, h4⟩ := and3 h
      obtain ⟨h, h3⟩ := and3 h
      obtain ⟨h1, h2⟩ := and3 h
      have h1 := beq_iff_eq.mp h1
      have h2 := beq_iff_eq.mp h2
      subst h1 h2
      obtain ⟨g1, g2⟩ := gB_ok hX h3
      exact re_ccon hf hX g1 g2 h4
    · cases h
  | .bi b es, c, e, PN, W, X, hf, hX, h => by
    unfold mE at h
    split at h
    · obtain ⟨h, h3⟩ := and3 h
      obtain ⟨h1, h2⟩ := and3 h
      obtain ⟨g1, g2⟩ := bB_ok hf hX h2
      obtain ⟨k1, k2⟩ := mA_ok es hf hX h3
      exact re_bi hX g1 g2 (beq_iff_eq.mp h1) k1 k2.1
    · cases h
  | .isi a t, c, e, PN, W, X, hf, hX, h => by
    unfold mE at h
    split at h
    · obtain ⟨h, h5⟩ := and3 h
      obtain ⟨h, h4⟩ := and3 h
      obtain ⟨h, h3⟩ := and3 h
      obtain ⟨h1, h2⟩ := and3 h
      have h1 := beq_iff_eq.mp h1
      subst h1
      obtain ⟨g1, g2⟩ := bB_ok hf hX h2
      obtain ⟨k1, k2⟩ := tyB_ok hf hX h5
      exact re_isi hf hX g1 g2 (mE_ok a hf hX h3) h4 k1 k2
    · cases h
  | .isis a ts, c, e, PN, W, X, hf, hX, h => by
    unfold mE at h
    split at h
    · obtain ⟨h, h7⟩ := and3 h
      obtain ⟨h, h6⟩ := and3 h
      obtain ⟨h, h5⟩ := and3 h
      obtain ⟨h, h4⟩ := and3 h
      obtain ⟨h, h3⟩ := and3 h
      obtain ⟨h1, h2⟩ := and3 h
      have h1 := beq_iff_eq.mp h1
      subst h1
      obtain ⟨g1, g2⟩ := bB_ok hf hX h2
      exact re_isis hf hX g1 g2 (mE_ok a hf hX h3) h4 (tysB_ok hf hX h5) (of_decide_eq_true h6) (fun z => by subst z; cases h7)
    · cases h
  | .mut m i es, c, e, PN, W, X, hf, hX, h => by
    unfold mE at h
    split at h
    · obtain ⟨h, h5⟩ := and3 h
      obtain ⟨h, h4⟩ := and3 h
      obtain ⟨h, h3⟩ := and3 h
      obtain ⟨h1, h2⟩ := and3 h
      obtain ⟨g1, g2, g3, g4⟩ := nmB_ok h1
      obtain ⟨k1, k2⟩ := mA_ok es hf hX h5
      exact re_mut hX g1 g2 g3 g4 (beq_iff_eq.mp h2) h3 k1 k2.1 (of_decide_eq_true h4) k2.2
    · cases h
  | .comp vs g it cnd el, c, e, PN, W, X, hf, hX, h => by
    unfold mE at h
    split at h
    · rename_i elt tg iter ifs scope pos
      obtain ⟨h, h8⟩ := and3 h
      obtain ⟨h, h7⟩ := and3 h
      obtain ⟨h, h6⟩ := and3 h
      obtain ⟨h, h5⟩ := and3 h
      obtain ⟨h, h4⟩ := and3 h
      obtain ⟨h, h3⟩ := and3 h
      obtain ⟨h1, h2⟩ := and3 h
      refine re_comp hX (of_decide_eq_true h2) (blkOk_by h1) (fun i m => by have := List.all_eq_true.mp h3 i m; simpa using this) (fun _ => mI_ok it hf hX h4) (fun hc X' hX' => tgB_ok hX' hc h5) (fun hc X' hX' => ?_) (fun hc X' hX' => mE_ok el hf hX' h7) (noFold_ok h8)
      split at h6
      · have hy : cnd = .yes := by cases cnd <;> first | rfl | cases h6
        subst hy
        exact ⟨fun pins s σ H Q I hr => pts_nil.run pins s σ H Q I (by
          obtain ⟨B, F, env, ts, hs, ho⟩ := hr
          rw [evT] at ho
          exact ho H F Same.rfl' hs)⟩
      · exact pts_one (mT_ok cnd hf hX' h6).1
      · cases h6
    · cases h
  | .efld i f, c, e, PN, W, X, hf, hX, h => by
    unfold mE at h
    split at h
    · obtain ⟨h1, h2⟩ := and3 h
      have h1 := beq_iff_eq.mp h1
      subst h1
      obtain ⟨g1, g2, g3, g4⟩ := nmB_ok h2
      exact re_efld hf hX g1 g2 g3 g4
    · cases h
  | .cdx x a, c, e, PN, W, X, hf, hX, h => by
    unfold mE at h
    split at h
    · obtain ⟨h, h5⟩ := and3 h
      obtain ⟨h, h4⟩ := and3 h
      obtain ⟨h, h3⟩ := and3 h
      obtain ⟨h1, h2⟩ := and3 h
      have h1 := beq_iff_eq.mp h1
      subst h1
      obtain ⟨g1, g2⟩ := gB_ok hX h2
      exact re_cdx hf hX g1 g2 h3 (mE_ok a hf hX h4) h5
    · cases h
  | .eisi i t, c, e, PN, W, X, hf, hX, h => by
    unfold mE at h
    split at h
    · obtain ⟨h, h5⟩ := and3 h
      obtain ⟨h, h4⟩ := and3 h
      obtain ⟨h, h3⟩ := and3 h
      obtain ⟨h1, h2⟩ := and3 h
      have h1 := beq_iff_eq.mp h1
      have h4 := beq_iff_eq.mp h4
      subst h1 h4
      obtain ⟨g1, g2⟩ := bB_ok hf hX h2
      obtain ⟨k1, k2, k3, k4⟩ := nmB_ok h3
      obtain ⟨k5, k6⟩ := gB_ok hX h5
      exact re_eisi hf hX k1 k2 k3 k4 g1 g2 k5 k6
    · cases h
  | .eisis i ts, c, e, PN, W, X, hf, hX, h => by
    unfold mE at h
    split at h
    · obtain ⟨h, h5⟩ := and3 h
      obtain ⟨h, h4⟩ := and3 h
      obtain ⟨h, h3⟩ := and3 h
      obtain ⟨h1, h2⟩ := and3 h
      have h1 := beq_iff_eq.mp h1
      subst h1
      obtain ⟨g1, g2⟩ := bB_ok hf hX h2
      obtain ⟨k1, k2, k3, k4⟩ := nmB_ok h3
      exact re_eisis hf hX k1 k2 k3 k4 g1 g2 (fun _ => xclB_ok hf hX h4) (of_decide_eq_true h5)
    · cases h
  | .rg1 tp a, c, e, PN, W, X, hf, hX, h => by
    unfold mE at h
    split at h
    · obtain ⟨h, h6⟩ := and3 h
      obtain ⟨h, h5⟩ := and3 h
      obtain ⟨h, h4⟩ := and3 h
      obtain ⟨h, h3⟩ := and3 h
      obtain ⟨h1, h2⟩ := and3 h
      have h1 := beq_iff_eq.mp h1
      have h2 := beq_iff_eq.mp h2
      subst h1; subst h2
      obtain ⟨g1, g2⟩ := bB_ok hf hX h3
      obtain ⟨g3, g4⟩ := bB_ok hf hX h4
      exact re_rg1 hX g1 g2 g3 g4 (mE_ok a hf hX h5) h6
    · cases h
  | .rg2 tp a b, c, e, PN, W, X, hf, hX, h => by
    unfold mE at h
    split at h
    · obtain ⟨h, h8⟩ := and3 h
      obtain ⟨h, h7⟩ := and3 h
      obtain ⟨h, h6⟩ := and3 h
      obtain ⟨h, h5⟩ := and3 h
      obtain ⟨h, h4⟩ := and3 h
      obtain ⟨h, h3⟩ := and3 h
      obtain ⟨h1, h2⟩ := and3 h
      have h1 := beq_iff_eq.mp h1
      have h2 := beq_iff_eq.mp h2
      subst h1; subst h2
      obtain ⟨g1, g2⟩ := bB_ok hf hX h3
      obtain ⟨g3, g4⟩ := bB_ok hf hX h4
      exact re_rg2 hX g1 g2 g3 g4 (mE_ok a hf hX h5) h6 (mE_ok b hf hX h7) h8
    · cases h
  | .dead, c, e, PN, W, X, hf, hX, h => re_dead
theorem mK_ok : ∀ (a : Exs) {c : Cf} {ks : List Keyword} {PN : Addr → Addr → Option Addr → Prop} {W : WX} {X : Cx}, Facts P w K mg base adr (G.at hot) fn call lv → XOk P w K mg base (G.at hot) lv c PN W X → mK G a c ks = true → PK X ks (RA K adr (G.at hot) call PN W a)
  | .nil, c, ks, PN, W, X, hf, hX, h => by
    unfold mK at h
    cases ks with
    | nil => exact rk_nil
    | cons _ _ => cases h
  | .cons a es, c, ks, PN, W, X, hf, hX, h => by
    unfold mK at h
    split at h
    · rename_i k ks
      obtain ⟨h1, h2⟩ := and3 h
      obtain ⟨nm, e, kp⟩ := k
      exact rk_cons (mE_ok a hf hX h1) (mK_ok es hf hX h2)
    · cases h
theorem mA_ok : ∀ (a : Exs) {c : Cf} {ps : List Expr} {PN : Addr → Addr → Option Addr → Prop} {W : WX} {X : Cx}, Facts P w K mg base adr (G.at hot) fn call lv → XOk P w K mg base (G.at hot) lv c PN W X → mA G a c ps = true → PA X ps (RA K adr (G.at hot) call PN W a) ∧ ps.all notStar = true ∧ (ps = [] → a = .nil)
  | .nil, c, ps, PN, W, X, hf, hX, h => by
    unfold mA at h
    cases ps with
    | nil => exact ⟨ra_nil, rfl, fun _ => rfl⟩
    | cons _ _ => cases h
  | .cons a es, c, ps, PN, W, X, hf, hX, h => by
    unfold mA at h
    split at h
    · obtain ⟨h, h3⟩ := and3 h
      obtain ⟨h1, h2⟩ := and3 h
      obtain ⟨k1, k2, k3⟩ := mA_ok es hf hX h3
      exact ⟨ra_cons (mE_ok a hf hX h1) k1 h2, by rw [List.all_cons, h2, k2]; rfl, fun z => by cases z⟩
    · cases h
theorem mO_ok : ∀ (a : Ox) {c : Cf} {o : Option Expr} {PN : Addr → Addr → Option Addr → Prop} {W : WX} {X : Cx}, Facts P w K mg base adr (G.at hot) fn call lv → XOk P w K mg base (G.at hot) lv c PN W X → mO G a c o = true → PO X o (RO K adr (G.at hot) call PN W a)
  | .no, c, o, PN, W, X, hf, hX, h => by
    unfold mO at h
    cases o with
    | none => exact ro_no
    | some _ => cases h
  | .so a, c, o, PN, W, X, hf, hX, h => by
    unfold mO at h
    split at h
    · exact ro_so (mE_ok a hf hX h)
    · cases h
theorem mT_ok : ∀ (t : Tx) {c : Cf} {e : Expr} {PN : Addr → Addr → Option Addr → Prop} {W : WX} {X : Cx}, Facts P w K mg base adr (G.at hot) fn call lv → XOk P w K mg base (G.at hot) lv c PN W X → mT G t c e = true → PT X e (RT K adr (G.at hot) call PN W t) ∧ (∀ op vs pos, e = .BoolOp op vs pos → PW X e (RT K adr (G.at hot) call PN W t))
  | .yes, c, e, PN, W, X, hf, hX, h => by unfold mT at h; cases h
  | .an a b, c, e, PN, W, X, hf, hX, h => by
    unfold mT at h
    have key : PW X e (RT K adr (G.at hot) call PN W (.an a b)) := by
      split at h
      · obtain ⟨h1, h2⟩ := and3 h
        exact rt_an (mT_ok a hf hX h1).1 (pw_and1 (mT_ok b hf hX h2).1)
      · obtain ⟨h1, h2⟩ := and3 h
        exact rt_an (mT_ok a hf hX h1).1 ((mT_ok b hf hX h2).2 _ _ _ rfl)
      · cases h
    exact ⟨key.pt, fun _ _ _ _ => key⟩
  | .or a b, c, e, PN, W, X, hf, hX, h => by
    unfold mT at h
    have key : PW X e (RT K adr (G.at hot) call PN W (.or a b)) := by
      split at h
      · obtain ⟨h1, h2⟩ := and3 h
        exact rt_or (mT_ok a hf hX h1).1 (pw_or1 (mT_ok b hf hX h2).1)
      · obtain ⟨h1, h2⟩ := and3 h
        exact rt_or (mT_ok a hf hX h1).1 ((mT_ok b hf hX h2).2 _ _ _ rfl)
      · cases h
    exact ⟨key.pt, fun _ _ _ _ => key⟩
  | .nt a, c, e, PN, W, X, hf, hX, h => by
    unfold mT at h
    split at h
    · exact ⟨rt_nt (mT_ok a hf hX h).1, fun _ _ _ z => by cases z⟩
    · cases h
  | .cmp o a b, c, e, PN, W, X, hf, hX, h => by
    unfold mT at h
    split at h
    · obtain ⟨h, h4⟩ := and3 h
      obtain ⟨h, h3⟩ := and3 h
      obtain ⟨h1, h2⟩ := and3 h
      have h1 := beq_iff_eq.mp h1
      subst h1
      exact ⟨rt_cmp hf hX (mE_ok a hf hX h2) (mE_ok b hf hX h3) (not_t h4), fun _ _ _ z => by cases z⟩
    · cases h
  | .cm2 o o' a b d, c, e, PN, W, X, hf, hX, h => by
    unfold mT at h
    split at h
    · obtain ⟨h, h6⟩ := and3 h
      obtain ⟨h, h5⟩ := and3 h
      obtain ⟨h, h4⟩ := and3 h
      obtain ⟨h, h3⟩ := and3 h
      obtain ⟨h1, h2⟩ := and3 h
      have h1 := beq_iff_eq.mp h1
      have h2 := beq_iff_eq.mp h2
      subst h1 h2
      exact ⟨rt_cm2 hf hX (mE_ok a hf hX h3) (mE_ok b hf hX h4) (mE_ok d hf hX h5) (not_t h6), fun _ _ _ z => by cases z⟩
    · cases h
  | .val a, c, e, PN, W, X, hf, hX, h => by
    unfold mT at h
    obtain ⟨h1, h2⟩ := and3 h
    exact ⟨rt_val hX (mE_ok a hf hX h1) h2, fun _ _ _ z => by subst z; cases h2⟩
theorem mI_ok : ∀ (t : Itx) {c : Cf} {tg e : Expr} {PN : Addr → Addr → Option Addr → Prop} {W : WX} {X : Cx}, Facts P w K mg base adr (G.at hot) fn call lv → XOk P w K mg base (G.at hot) lv c PN W X → mI G t c tg e = true → PI X tg e (RI K adr (G.at hot) call PN W t)
  | .seq a, c, tg, e, PN, W, X, hf, hX, h => by unfold mI at h; exact ri_seq hX (mE_ok a hf hX h)
  | .rng1 a, c, tg, e, PN, W, X, hf, hX, h => by
    unfold mI at h
    split at h
    · obtain ⟨h, h4⟩ := and3 h
      obtain ⟨h, h3⟩ := and3 h
      obtain ⟨h1, h2⟩ := and3 h
      have h1 := beq_iff_eq.mp h1
      subst h1
      obtain ⟨g1, g2⟩ := bB_ok hf hX h2
      exact ri_rng1 hX g1 g2 (mE_ok a hf hX h3) h4
    · cases h
  | .rng2 a b, c, tg, e, PN, W, X, hf, hX, h => by
    unfold mI at h
    split at h
    · obtain ⟨h, h6⟩ := and3 h
      obtain ⟨h, h5⟩ := and3 h
      obtain ⟨h, h4⟩ := and3 h
      obtain ⟨h, h3⟩ := and3 h
      obtain ⟨h1, h2⟩ := and3 h
      have h1 := beq_iff_eq.mp h1
      subst h1
      obtain ⟨g1, g2⟩ := bB_ok hf hX h2
      exact ri_rng2 hX g1 g2 (mE_ok a hf hX h3) h4 (mE_ok b hf hX h5) h6
    · cases h
  | .zip a b, c, tg, e, PN, W, X, hf, hX, h => by
    unfold mI at h
    split at h
    · obtain ⟨h, h6⟩ := and3 h
      obtain ⟨h, h5⟩ := and3 h
      obtain ⟨h, h4⟩ := and3 h
      obtain ⟨h, h3⟩ := and3 h
      obtain ⟨h1, h2⟩ := and3 h
      have h1 := beq_iff_eq.mp h1
      subst h1
      obtain ⟨g1, g2⟩ := bB_ok hf hX h2
      exact ri_zip hX g1 g2 (mE_ok a hf hX h3) h4 (mE_ok b hf hX h5) h6
    · cases h
  | .enum a, c, tg, e, PN, W, X, hf, hX, h => by
    unfold mI at h
    split at h
    · obtain ⟨h, h4⟩ := and3 h
      obtain ⟨h, h3⟩ := and3 h
      obtain ⟨h1, h2⟩ := and3 h
      have h1 := beq_iff_eq.mp h1
      subst h1
      obtain ⟨g1, g2⟩ := bB_ok hf hX h2
      exact ri_enum hX g1 g2 (mE_ok a hf hX h3) h4
    · cases h
end
end
end Ky
end
section
set_option Elab.async false
set_option linter.all false
set_option maxRecDepth 100000
set_option maxHeartbeats 2000000
/-! Ky, part Zk: try. -/
namespace Ky
open PySem PySem.Spec PyProof.Rows L2
section
variable {P : Program} {w : World} {K : PySem.W.Frag} {mg : Str → Option Value} {base : Heap} {adr : Str → Addr} {G : GT} {fn : Str → Option Fn} {callB : Bool → Str → List S → CR} {lv : Nat} {c : Cf} {PN PN' : Addr → Addr → Option Addr → Prop} {W : WX} {X : Cx} {h : Bool}
variable {B F F' H H' : Hp} {env e1 env' : Env} {σ σ' : St} {ts : List (R × V)} {fx : Nat → Option (Option V)} {D : Ends}
/-- the pinned errors told otherwise, where no slot holds one -/
theorem StT.pn (h : StT K adr PN B F env σ H ts) (hx : ∀ (i : Nat) (cc : Str) (fs : List (Str × Ky.D)), env[i]? ≠ some (some (.x cc fs))) : StT K adr PN' B F env σ H ts := by
  refine ⟨h.sb, h.sf, h.dj, fun i s q => ?_, h.tm, h.d1, h.d2, h.d3⟩
  obtain ⟨v, h1, h2⟩ := h.sl i s q
  refine ⟨v, h1, ?_⟩
  cases s with
  | x cc fs => exact absurd q (hx i cc fs)
  | v d => exact h2
  | own o => exact h2
  | bor o => exact h2
  | lk o => exact h2
  | ro o => exact h2
theorem StT.dropX (h : StT K adr PN B F env σ H ts) (ht : ∀ t ∈ ts, ∀ i, t.1 ≠ .sl i) : StT K adr PN' B F (dropX env) σ H ts :=
  (h.relab (env' := Ky.dropX env) (fun j s q => ⟨s, (dropX_get q).1, fun _ z => z, fun z => z⟩) (fun t m i e => absurd e (ht t m i))).pn fun i cc fs q => (dropX_get q).2 cc fs rfl
/-- the context of an except suite -/
theorem suite_ok {a : Addr} {oe : Obj} {C : Addr} {d : Option Addr} {pn : List (Addr × Obj)} (hX : SOk P w K mg base (G.at false) lv c PN W X) (hz : L2N.Zn (.ref C) d oe) (hf : ∃ vs, oe.data = .fields vs) :
    SOk P w K mg base (G.at true) lv c (fun a' C' d' => a' = a ∧ C' = C ∧ d' = d) (fun _ _ _ _ => False) (X.suite a ((a, oe) :: pn)) where
  ok := { hP := hX.ok.hP, hw := hX.ok.hw, hK := hX.ok.hK, hm := hX.ok.hm, hb := hX.ok.hb, hN := hX.ok.hN, hs := hX.ok.hs, nd := hX.ok.nd, rooms := ⟨hX.ok.rooms.dp, hX.ok.rooms.un⟩, calm := fun z => (by cases z), roomC := fun z => (by cases z),
          hotc := fun _ => by
            obtain ⟨vs, hv⟩ := hf
            exact ⟨(a, oe), ⟨rfl, vs, hv, hz.2.2 vs hv⟩, List.mem_cons_self⟩,
          un := hX.ok.un, tk := fun u s' ⟨_, _, _, _, _, _, _, _, _, _, _, _, _, _, _, _, z⟩ => z.elim, fnc := hX.ok.fnc, pn0 := fun z => (by cases z),
          pnk := fun a' C' d' ⟨e1, e2, e3⟩ => ⟨oe, by rw [e1]; exact List.mem_cons_self, by rw [e2, e3]; exact hz, hf⟩ }
  own := fun z => by cases z
  stk := hX.stk
  frm := hX.frm
theorem body_ok {pn : List (Addr × Obj)} {xe : Value → Shared → Prop} {W' : WX} (hX : SOk P w K mg base (G.at false) lv c PN W X) (tk : L2N.Takes (X.tr pn xe) W') (po : PassesOwn (model X.prog X.w) X.A X.env xe) :
    SOk P w K mg base (G.at false) lv c PN W' (X.tr pn xe) where
  ok := { hP := hX.ok.hP, hw := hX.ok.hw, hK := hX.ok.hK, hm := hX.ok.hm, hb := hX.ok.hb, hN := hX.ok.hN, hs := hX.ok.hs, nd := hX.ok.nd, rooms := hX.ok.rooms, calm := hX.ok.calm, roomC := hX.ok.roomC, hotc := fun z => (by cases z),
          un := hX.ok.un, tk := tk, fnc := hX.ok.fnc, pn0 := hX.ok.pn0, pnk := fun a' C' d' z => absurd z (hX.ok.pn0 rfl a' C' d') }
  own := fun _ => po
  stk := hX.stk
  frm := hX.frm
theorem rs_try {cN n : Str} {i : Nat} {b hd : Sxs} {body suite : List Stmt} {b₀ : Stmt} {np pos pos' : Pos} (hf : ∀ h, Facts P w K mg base adr (G.at h) fn (callB h) lv) (hX : SOk P w K mg base (G.at h) lv c PN W X) (hN : c.N[i]? = some n) (hl : c.sc.names.lookup n = some .local) (hg : Gl X cN) (h1 : (cN == ("__debug__" : Str)) = false) (hx : cN ∈ G.xcl)
    (hb : h = false → ∀ W' X', SOk P w K mg base (G.at false) lv c PN W' X' → PSs X' body (RSs K adr G callB PN W' false b))
    (hs : ∀ PN' W' X', SOk P w K mg base (G.at true) lv c PN' W' X' → PSs X' (b₀ :: suite) (RSs K adr G callB PN' W' true hd)) :
    PS X (.Try body [.ExceptHandler (some (.Name cN np)) (some n) (b₀ :: suite) pos'] [] [] pos) (RS K adr G callB PN W h (.try1 b cN i hd)) := by
  cases hh : h with
  | true =>
    refine ⟨fun pins s σ H D I hr => ?_⟩
    obtain ⟨B, F, env, fx, hs, hb, ho⟩ := hr
    rw [exS, if_pos rfl] at ho
    exact ho.elim
  | false =>
    subst hh
    have hX0 := hX
    have key := L2N.ps_try_as (X := X) (i := i) (n := n) (x := cN) (c := .ref (adr cN)) (np := np) (pos := pos) (pos' := pos') (suite := suite) (b₀ := b₀) (Wout := W) (tb := fun W' => RSs K adr G callB PN W' false b)
      (ts := fun a cls d D σ H => σ.length = X.N.length → ∃ C, cls = .ref C ∧ RSs K adr G callB (fun a' C' d' => a' = a ∧ C' = C ∧ d' = d) (fun _ _ _ _ => False) true hd D σ H)
      hX.stk hX.frm (by rw [hX.ok.hN]; exact hX.ok.nd) (by rw [hX.ok.hN]; exact hN) (by show X.env.scope.names.lookup n = _; rw [hX.ok.hs]; exact hl) ⟨hg, h1, .inl (by rw [hX.ok.hm]; exact (hf false).xcm cN hx)⟩ hX.ok.tk (fun W' pn xe tk po => hb rfl W' _ (body_ok hX0 tk po)) (fun a oe cls d pn hz hfl => ⟨fun pins s σ H D I q => by
        obtain ⟨C, eC, q2⟩ := q I.len
        subst eC
        exact (hs _ _ _ (suite_ok hX0 hz hfl)).run pins s σ H D I q2⟩)
    refine PS.imI key fun D σ H hlen hr => ?_
    obtain ⟨B, F, env, fx, hst, hbx, ho⟩ := hr
    rw [exS, if_neg Bool.false_ne_true] at ho
    refine ⟨B, F, env, fx, hst, hbx, ?_⟩
    cases hbd : exSs G callB b false env with
    | next e => rw [hbd] at ho; exact ho
    | ret r e => rw [hbd] at ho; exact ho
    | brk e => rw [hbd] at ho; exact ho
    | cont e => rw [hbd] at ho; exact ho
    | bad => rw [hbd] at ho; exact ho
    | exc c' fs e =>
      rw [hbd] at ho
      have ho : OutS K adr PN W B F fx D (if (G.exc c').isSome && G.xcl.contains cN then (if G.sub c' cN then (match put i (.x c' fs) e with
          | some e1 => (match exSs G callB hd true e1 with
            | .next e2 => .next (dropX (e2.set i none))
            | .ret r e2 => (match frz r e2 with | some (d, e3) => .ret (.v d) (dropX (e3.set i none)) | none => .bad)
            | .brk e2 => .brk (dropX (e2.set i none))
            | .cont e2 => .cont (dropX (e2.set i none))
            | .exc _ _ _ => .bad
            | .bad => .bad)
          | none => .bad) else .exc c' fs e) else .bad) := ho
      intro cls d σ' H' F' s1 bx g ex
      obtain ⟨rfl, hdx⟩ := ex
      split at ho
      · rename_i hc
        rw [Bool.and_eq_true] at hc
        obtain ⟨l, hle⟩ := Option.isSome_iff_exists.mp hc.1
        refine ⟨G.sub c' cN, by rw [hX.ok.hK]; exact (hf false).exm c' l cN hle hx, fun hsub a ha => ?_, fun hsub => ?_⟩
        · rw [if_pos hsub] at ho
          intro hlen2
          refine ⟨adr c', rfl, ?_⟩
          cases hput : put i (.x c' fs) e with
          | none => rw [hput] at ho; exact ho.elim
          | some e1 =>
            rw [hput] at ho
            obtain ⟨qe, ql, _⟩ := put_eq hput
            have noX : ∀ (j : Nat) (cc : Str) (gs : List (Str × Ky.D)), e[j]? ≠ some (some (.x cc gs)) := fun j cc gs z => by
              obtain ⟨v, _, a2, d2, _, z2, _⟩ := g.sl j _ z
              exact hX.ok.pn0 rfl _ _ _ z2
            have hil : i < σ'.length := by
              rw [List.length_set, hX.ok.hN] at hlen2
              rw [hlen2]; exact (List.getElem?_eq_some_iff.mp hN).1
            have g1 : StT K adr (fun a' C' d' => a' = a ∧ C' = adr c' ∧ d' = d) B F' (e.set i (some (.x c' fs))) (σ'.set i (some (.ref a))) H' [] :=
              (g.pn noX).set1 ql hil ⟨a, d, rfl, ⟨rfl, rfl, rfl⟩, hdx⟩ (fun _ _ z => by cases z) no_ts
            rw [← qe] at g1
            have ho : OutS K adr PN W B F' fx D (match exSs G callB hd true e1 with
              | .next e2 => .next (dropX (e2.set i none))
              | .ret r e2 => (match frz r e2 with | some (d, e3) => .ret (.v d) (dropX (e3.set i none)) | none => .bad)
              | .brk e2 => .brk (dropX (e2.set i none))
              | .cont e2 => .cont (dropX (e2.set i none))
              | .exc _ _ _ => .bad
              | .bad => .bad) := OutS.later ho s1
            have goBx : ∀ {e2 : Env} {σ4 : St}, Bx fx e2 σ4 → Bx fx (dropX (e2.set i none)) (σ4.set i none) := fun {e2 σ4} b4 j t z k => by
              have z := (dropX_get z).1
              have hj : j ≠ i := fun ej => by
                subst ej
                by_cases l : j < e2.length
                · rw [List.getElem?_set_self l] at z; cases z
                · rw [List.getElem?_eq_none (by rw [List.length_set]; omega)] at z; cases z
              rw [List.getElem?_set_ne (Ne.symm hj)] at z ⊢
              exact b4 j t z k
            have goSt : ∀ {PN2 : Addr → Addr → Option Addr → Prop} {e2 : Env} {σ4 : St} {H4 F4 : Hp}, StT K adr PN2 B F4 e2 σ4 H4 [] → StT K adr PN B F4 (dropX (e2.set i none)) (σ4.set i none) H4 [] := fun {PN2 e2 σ4 H4 F4} g4 =>
              (g4.wiped (vs := [i]) (fun t m => (by cases m))).dropX (fun t m => (by cases m))
            refine ⟨B, F', e1, fx, g1, bx.put rfl hput, ?_⟩
            cases hsu : exSs G callB hd true e1 with
            | next e2 => rw [hsu] at ho; exact fun σ4 H4 F4 s4 b4 g4 => ho _ H4 F4 s4 (goBx b4) (goSt g4)
            | brk e2 => rw [hsu] at ho; exact fun σ4 H4 F4 s4 b4 g4 => ho _ H4 F4 s4 (goBx b4) (goSt g4)
            | cont e2 => rw [hsu] at ho; exact fun σ4 H4 F4 s4 b4 g4 => ho _ H4 F4 s4 (goBx b4) (goSt g4)
            | exc _ _ _ => rw [hsu] at ho; exact ho.elim
            | bad => rw [hsu] at ho; exact ho.elim
            | ret r e2 =>
              rw [hsu] at ho
              have ho : OutS K adr PN W B F' fx D (match frz r e2 with | some (d, e3) => .ret (.v d) (dropX (e3.set i none)) | none => .bad) := ho
              intro v σ4 H4 F4 s4 b4 g4
              cases hfz : frz r e2 with
              | none => rw [hfz] at ho; exact ho.elim
              | some z =>
                obtain ⟨dd, e3⟩ := z
                rw [hfz] at ho
                obtain ⟨F5, s5, g5⟩ := g4.frz1 hfz
                have rd : Rep K adr F5 dd v := g5.tm _ List.mem_cons_self
                exact ho v _ H4 F5 (s4.trans s5) (goBx (b4.pre (pre_frz hfz))) ((goSt g5.pop).data rd)
        · rw [if_neg (by rw [hsub]; exact Bool.false_ne_true)] at ho
          exact ho _ d σ' H' F' s1 bx g ⟨rfl, hdx⟩
      · exact ho.elim
end
end Ky
end
section
set_option Elab.async false
set_option linter.all false
set_option maxRecDepth 100000
set_option maxHeartbeats 2000000
/-! Ky, part Zl: own errors are made: an __init__ of the form super().__init__(text); self.f = f .. -/
namespace Ky
open PySem PySem.Spec PyProof.Rows L2
/-- self.f = f, .. -/
def asgB : List Str → List Stmt → Bool
  | [], [] => true
  | f :: fs, .Assign [.Attribute (.Name s _) g _] (.Name y _) _ :: r => s == ("self" : Str) && g == f && y == f && asgB fs r
  | _, _ => false
def initB (fs : List Str) (body : List Stmt) : Bool := match body with
  | .Expr (.Call (.Attribute (.Call (.Name x _) [] [] _) m apos) [.Constant (.str _) _ _] [] pos) _ :: rest => x == ("super" : Str) && m == ("__init__" : Str) && (apos.endLine == pos.line) && asgB fs rest
  | _ => false
/-- the names of such an __init__ -/
def initSc (fs : List Str) (sc : Scope) : Bool :=
  (match sc.kind with | .function => true | _ => false) && !sc.isCoroutine && !sc.isGenerator && (sc.names.lookup ("super" : Str) == some NameKind.globalImplicit) && (sc.names.lookup ("__class__" : Str) == some NameKind.free) && sc.names.all (fun y => !(y.2 == NameKind.cell)) &&
  (("self" : Str) :: fs).all (fun f => sc.names.lookup f == some NameKind.local && !(f == ("__debug__" : Str)))
structure XInit (P : Program) (K : PySem.W.Frag) (mg : Str → Option Value) (C : Addr) (fs : List Str) : Prop where
  ox : OexC K C
  ex : ∃ (fI cc cda : Addr) (name qual file : Str) (tf : Tok) (params : Arguments) (body : List Stmt) (scope : Scope) (dV kV doc pm ct oc ccl cl : Value) (an od cdd cld : Option Addr) (osl ccs csl : Array (Option Value)) (vs : Array Value) (a0 : PySem.Arg),
    PySem.W.findIn K (.ref C) "__init__" = some (some (.ref fI)) ∧ PySem.W.typeIn K (.ref fI) = some (.type "function") ∧
    K.lookup fI = some ⟨oc, od, .func (PySem.W.ksFn name qual params body scope dV kV doc pm an (.ref cda) ct cc), osl⟩ ∧ PySem.W.codeIn K (.ref cda) qual = true ∧
    K.lookup cda = some ⟨ccl, cdd, .fields vs, ccs⟩ ∧ vs[2]? = some (.str file tf) ∧ ((P.main.file : Str) == file) = true ∧
    K.lookup cc = some ⟨cl, cld, .cell (some (.ref C)), csl⟩ ∧ initB fs body = true ∧ initSc fs scope = true ∧
    (params.posonlyargs ++ params.args).head? = some a0 ∧ a0.arg = "self" ∧
    ∀ (us : List Value), us.length = fs.length + 1 → bindArgs (PySem.W.ksFn name qual params body scope dV kV doc pm an (.ref cda) ct cc) ⟨us, []⟩ = pure ((("self" : Str) :: fs).zip us)
  top : (P.main.scope.names.lookup ("super" : Str)).isSome = false
  sup : mg "super" = none
  sub : PySem.W.subIn K (.ref C) (.type "ValueError") = some true
  mro : PySem.W.mroIn K C (.ref C) = some true
  sin : PySem.W.ks_superIn K C C "__init__" = some (some (.builtin "ValueError.__init__"))
  nop : PySem.W.nsIn K cStatics "thirdparty.any" = some none
  fld : ∀ f ∈ fs, PySem.W.findIn K (.ref C) f = some none
  nd : (("self" : Str) :: fs).Nodup
  len : fs.length ≤ 900
/-- an error's record -/
abbrev recO (C t : Addr) (d : Option Addr) : Obj := { cls := .ref C, dict := d, data := .fields #[.ref t, .none, .none, .none, .bool false, .none] }
section
variable {prog : Program} {w : World} {A : Around} {E : Value → Shared → Prop} {s : Shared} {h : Heap} {g : Array GenState} {dr : Drawn} {t : Nat} {os : OsState} {C e u : Addr} {K : PySem.W.Frag}
theorem superAt {M : Model} {c : Code} {o : Expr} {m : Str} {apos pos : Pos} {ps : List Expr} {env : PySem.Env} {Q : Value → Shared → Prop} (hn : ps.all notStar = true) (hl : ps.length < 30) (hline : (apos.endLine == pos.line) = true)
    (h : PySem.wpAt M A c (attributeBase o m env (eval o env)) (fun ov s1 => wpAny M A (getMethod ov m (do return (← importBound o env).getD true)) (fun fx s2 => wpAny M A (callWith pos fx.1 fx.2 (backTo pos (starEach ps env)) []) Q E s2) E s1) E s) :
    PySem.wpAt M A c (eval (.Call (.Attribute o m apos) ps [] pos) env) Q E s := by
  rw [arm_eval_Call]
  refine PySem.wpAt_bind (PySem.wpAt_mono h (fun ov s1 h1 => PySem.wpAt_of_wpAny (wpAny_bind (wpAny_standAt ?_))) fun _ _ e => e)
  have hpos : methodCallPos true o env apos pos = pure pos := by unfold methodCallPos; simp [hline]
  unfold methodCall
  rw [methForm hn hl, hpos]
  refine wpAny_bind (wpAny_holding (wpAny_mono h1 (fun fx s2 h2 => ?_) fun _ _ x => x))
  exact wpAny_bind (wpAny_pure h2)
/-- ValueError.__init__ bound to the error, called with one text -/
theorem call_mw {t0 : Addr} {rest : List Value} {Q : Value → Shared → Prop} (T : OexC K C) (X : K.In h) (he : h.get? e = some (recO C t0 none)) (hu : h.get? u = some (PySem.W.kxs_mw "ValueError.__init__" e)) (hrest : rest.length ≤ sizeLine)
    (hq : ∀ h' t1, (∀ b o, b ≠ e → h.get? b = some o → h'.get? b = some o) → h'.get? e = some (recO C t1 none) → Q .none ⟨h', g, dr, t, os⟩) :
    wpAny (model prog w) A (call (.ref u) rest) Q E ⟨h, g, dr, t, os⟩ := by
  obtain ⟨nm, q, N, bs, bm, sn, sub, ab, col, dd, k0, k1, k2, k3, k5, hC, hbm⟩ := T.cls
  have hC := X _ _ hC
  refine wpAny_call (codeAny_of_tree ?_)
  show wpAny _ A.in1 (callAny (.ref u) ⟨rest, []⟩) _ _ _
  simp only [callAny]
  refine wpAny_bind (wpAny_load hu ?_)
  simp only [PySem.W.kxs_mw, show (Value.type "method-wrapper" == Value.type "method" || Value.type "method-wrapper" == Value.type "builtin_function_or_method" || Value.type "method-wrapper" == Value.type "method-wrapper") = true by decide, if_true]
  refine PySem.W.KFB.if_so (by decide) ?_
  refine wpAny_bind (PySem.W.check_bound_init F.excBase_ValueError.toExcCallFacts hC he rfl ?_)
  refine wpAny_bind (wpAny_pure (wpAny_pure ?_))
  refine ⟨PySem.plainId_quiet F.excBase_ValueError.init.plain _, codeAny_builtin F.excBase_ValueError.initEntry ?_⟩
  exact PySem.W.exc_init_tree (cls := .ref C) (t0 := t0) (dv := none) (c2 := .none) (c3 := .none) (b4 := .bool false) he hrest fun h' k e' _ => hq h' _ k e'
/-- the fields are laid -/
theorem flds_run {env : PySem.Env} {zs : List (Str × Value)} {m : Str → Option Value} {h0 b0 : Heap} (T : OexC K C) (hk : env.scope.kind = .function) (hself : env.kindOf "self" = some .local) (mself : m "self" = some (.ref e))
    (hb : K.In b0) (hbe : b0.get? e = none) (hb0 : ∀ b o, b0.get? b = some o → h0.get? b = some o) (hL : h0.objs.size ≤ env.locals) (he0 : e ≠ env.locals) (he1 : ∃ o, h0.get? e = some o) {Q : Flow → Shared → Prop}
    (hq : ∀ h' d t1 tk, (∀ b o, b ≠ e → h0.get? b = some o → h'.get? b = some o) → h'.get? e = some (recO C t1 d) → (match d with | none => zs = [] | some dx => zs ≠ [] ∧ h0.objs.size ≤ dx ∧ ∃ mA, h'.Ns1 dx mA ∧ ∀ y, mA y = zs.lookup y) → Q .next ⟨h', g, dr, tk, os⟩) :
    ∀ (rest : List Str) (body : List Stmt) (pre : List Str) (h : Heap) (d : Option Addr) (t1 : Addr) (tk : Tok), asgB rest body = true → (∀ f ∈ rest, env.kindOf f = some .local ∧ (f == ("__debug__" : Str)) = false ∧ (∃ v, m f = some v ∧ zs.lookup f = some v) ∧ PySem.W.findIn K (.ref C) f = some none) →
      (∀ y, y ∉ pre ++ rest → zs.lookup y = none) → (pre ++ rest).length ≤ 900 → (pre ++ rest = [] ↔ zs = []) →
      (∀ b o, b ≠ e → h0.get? b = some o → h.get? b = some o) → h.Ns env.locals m → h.get? e = some (recO C t1 d) →
      (match d with | none => pre = [] | some dx => pre ≠ [] ∧ h0.objs.size ≤ dx ∧ dx ≠ env.locals ∧ ∃ mA, h.Ns1 dx mA ∧ ∀ y, mA y = if y ∈ pre then zs.lookup y else none) →
      wpAny (model prog w) A (execs body env) Q E ⟨h, g, dr, tk, os⟩
  | [], body, pre, h, d, t1, tk, ha, hr, hz, hlen, hemp, hkp, hn, he, hd => by
    have e1 : body = [] := by
      cases body with
      | nil => rfl
      | cons _ _ => unfold asgB at ha; cases ha
    subst e1
    refine wpAny_execs_nil (hq h d t1 tk hkp he ?_)
    rw [List.append_nil] at hz hemp
    cases d with
    | none => exact hemp.mp hd
    | some dx =>
      obtain ⟨hp, h1, _, mA, h2, h3⟩ := hd
      refine ⟨fun z => hp (hemp.mpr z), h1, mA, h2, fun y => ?_⟩
      rw [h3 y]
      split
      · rfl
      · rename_i hy; exact (hz y hy).symm
  | f :: rest, body, pre, h, d, t1, tk, ha, hr, hz, hlen, hemp, hkp, hn, he, hd => by
    unfold asgB at ha
    split at ha
    · rename_i e0; cases e0
    · rename_i f' fs' sN p1 gN p2 yN p3 p4 r e0
      cases e0
      simp only [Bool.and_eq_true, beq_iff_eq] at ha
      obtain ⟨⟨⟨a1, a2⟩, a3⟩, a4⟩ := ha
      subst a1; subst a2; subst a3
      obtain ⟨k1, k2, ⟨v, k3, k4⟩, k5⟩ := hr yN List.mem_cons_self
      have hKin : K.In h := fun b o q => hkp b o (fun z => by subst z; rw [hb _ _ q] at hbe; cases hbe) (hb0 _ _ (hb _ _ q))
      obtain ⟨nm, q, N, bs, bm, sn, sub, ab, col, dd, c0, c1, c2, c3, c5, hC, hbm⟩ := T.cls
      have hcl : PySem.W.clsIn K C = some { name := nm, bases := bs, mro := .ref C :: bm, ns := N, qualname := q, hasDict := true, slotNames := sn, subclasses := sub, abstract := ab, collection := col, hasDel := false } := by unfold PySem.W.clsIn; rw [hC] <;> rfl
      have eq1 : pre ++ yN :: rest = (pre ++ [yN]) ++ rest := by simp
      have hmem : ∀ y, (y ∈ pre ++ [yN]) ↔ (y = yN ∨ y ∈ pre) := fun y => by simp; exact Or.comm
      refine wpAny_execs_cons (plainObj_wpAny_Assign_Attribute (wpAny_Name (wpAny_loadName_local hk k1 hn k3 (wpAny_Name (wpAny_loadName_local hk hself hn mself ?_) (by decide))) k2) rfl)
      have hns : ∀ {h' : Heap}, (∀ o, h.get? env.locals = some o → h'.get? env.locals = some o) → h'.Ns env.locals m := fun k => by
        obtain ⟨o, es, ep, z1, z2⟩ := hn
        exact ⟨o, es, ep, k _ z1, z2⟩
      have hLlt : env.locals < h.objs.size := hn.lt
      have hsz : h0.objs.size ≤ h.objs.size := Nat.le_trans hL (Nat.le_of_lt hLlt)
      cases d with
      | none =>
        have hd : pre = [] := hd
        subst hd
        refine PySem.W.set_plain hKin (ox := recO C t1 none) (od := none) ⟨he, rfl, rfl, trivial⟩ T.sa ?_
        refine PySem.HandSPX.exc_osa hKin he hcl (show PySem.HandSPX.refsVE (.ref C :: bm) = true from hbm) rfl k5 (fun h' tk' dx k dn dne hx hn' => ?_)
        refine flds_run T hk hself mself hb hbe hb0 hL he0 he1 hq rest r [yN] h' (some dx) t1 tk' a4 (fun y hy => hr y (List.mem_cons_of_mem _ hy)) hz hlen hemp (fun b o n q => k b o n (hkp b o n q)) (hns fun o q => k _ _ (Ne.symm he0) q) hx ⟨by simp, Nat.le_trans hsz dn, fun z => ?_, _, hn', fun y => ?_⟩
        · rw [z] at dn; exact absurd (Nat.lt_of_lt_of_le hLlt dn) (Nat.lt_irrefl _)
        · by_cases hy : y = yN
          · rw [if_pos hy, if_pos (by simp [hy]), hy, k4]
          · rw [if_neg hy, if_neg (by simp [hy])]
      | some dx =>
        obtain ⟨d0, d1, d2, mA, d3, d4⟩ := hd
        have hwi : Within mA pre := fun y hy => by
          rw [d4] at hy
          by_cases z : y ∈ pre
          · exact z
          · rw [if_neg z] at hy; exact absurd rfl hy
        obtain ⟨oD, esD, epD, hoD, _⟩ := d3
        have hoD : h.get? dx = some oD := hoD
        have hedx : e ≠ dx := fun z => by
          obtain ⟨o, q⟩ := he1
          have q := Heap.lt_size q
          rw [z] at q
          exact absurd (Nat.lt_of_lt_of_le q d1) (Nat.lt_irrefl _)
        refine PySem.W.set_plain hKin (ox := recO C t1 (some dx)) (od := some oD) ⟨he, rfl, rfl, hoD⟩ T.sa ?_
        refine PySem.OEX.osa_old hKin he ⟨oD, esD, epD, hoD, by assumption⟩ hwi (by rw [List.length_append] at hlen; omega) hcl (show PySem.HandSPX.refsVE (.ref C :: bm) = true from hbm) rfl k5 (fun h' tk' k hn' => ?_)
        refine flds_run T hk hself mself hb hbe hb0 hL he0 he1 hq rest r (pre ++ [yN]) h' (some dx) t1 tk' a4 (fun y hy => hr y (List.mem_cons_of_mem _ hy)) (by rw [← eq1]; exact hz) (by rw [← eq1]; exact hlen) (by rw [← eq1]; exact hemp) (fun b o n q => k b o (fun z => ?_) (hkp b o n q)) (hns fun o q => k _ _ (Ne.symm d2) q) (k _ _ hedx he) ⟨by simp, d1, d2, _, hn', fun y => ?_⟩
        · have q := Heap.lt_size q
          rw [z] at q
          exact absurd (Nat.lt_of_lt_of_le q d1) (Nat.lt_irrefl _)
        · by_cases hy : y = yN
          · rw [if_pos hy, if_pos ((hmem y).mpr (.inl hy)), hy, k4]
          · rw [if_neg hy, d4 y]
            by_cases hp : y ∈ pre
            · rw [if_pos hp, if_pos ((hmem y).mpr (.inr hp))]
            · rw [if_neg hp, if_neg (fun z => ((hmem y).mp z).elim hy hp)]
    · cases ha
end
theorem lk_rev : ∀ {l : List (Str × Value)}, (l.map (·.1)).Nodup → ∀ y, l.reverse.lookup y = l.lookup y
  | [], _, _ => rfl
  | p :: l, nd, y => by
    rw [List.map_cons, List.nodup_cons] at nd
    have ih := lk_rev nd.2 y
    rw [List.reverse_cons, List.lookup_append, ih]
    obtain ⟨a, v⟩ := p
    by_cases h : y = a
    · subst h
      have hn : l.lookup y = none := by
        cases q : l.lookup y with
        | none => rfl
        | some u => exact absurd (List.mem_map_of_mem (f := (·.1)) (PySem.mem_of_lookup q)) nd.1
      rw [hn]
      simp [List.lookup]
    · have e : (y == a) = false := by simpa using h
      simp [List.lookup, e]
theorem lk_zip : ∀ {ks : List Str} {us : List Value} {f : Str}, f ∈ ks → us.length = ks.length → ∃ v, (ks.zip us).lookup f = some v
  | [], _, _, m, _ => by cases m
  | k :: ks, [], _, _, h => by cases h
  | k :: ks, u :: us, f, m, h => by
    by_cases e : f = k
    · subst e; exact ⟨u, by simp [List.lookup]⟩
    · have q : (f == k) = false := by simpa using e
      obtain ⟨v, hv⟩ := lk_zip (us := us) (List.mem_of_ne_of_mem e m) (by simpa using h)
      exact ⟨v, by simp [List.lookup, q, hv]⟩
theorem map_zip {ks : List Str} {us : List Value} (h : us.length = ks.length) : (ks.zip us).map (·.1) = ks := List.map_fst_zip (by omega)
theorem initSc_ok {fs : List Str} {sc : Scope} (h : initSc fs sc = true) : sc.kind = .function ∧ sc.isCoroutine = false ∧ sc.isGenerator = false ∧ sc.names.lookup ("super" : Str) = some .globalImplicit ∧ sc.names.lookup ("__class__" : Str) = some .free ∧
    (∀ y ∈ sc.names, y.2 ≠ .cell) ∧ ∀ f ∈ (("self" : Str) :: fs), sc.names.lookup f = some .local ∧ (f == ("__debug__" : Str)) = false := by
  unfold initSc at h
  obtain ⟨h, h7⟩ := and3 h
  obtain ⟨h, h6⟩ := and3 h
  obtain ⟨h, h5⟩ := and3 h
  obtain ⟨h, h4⟩ := and3 h
  obtain ⟨h, h3⟩ := and3 h
  obtain ⟨h1, h2⟩ := and3 h
  refine ⟨?_, by simpa using h2, by simpa using h3, by simpa using h4, by simpa using h5, fun y hy => ?_, fun f hf => ?_⟩
  · split at h1
    · assumption
    · cases h1
  · have := List.all_eq_true.mp h6 y hy
    simpa using this
  · have := List.all_eq_true.mp h7 f hf
    simpa using this
section
variable {P : Program} {w : World} {K : PySem.W.Frag} {mg mb : Str → Option Value} {C : Addr} {fs : List Str}
theorem init_code (XI : XInit P K mg C fs) : ∃ fI, PySem.W.findIn K (.ref C) "__init__" = some (some (.ref fI)) ∧ PySem.W.typeIn K (.ref fI) = some (.type "function") ∧
    ∀ (A : Around) (s : Shared) (e t0 : Addr) (us : List Value) (b0 : Heap) (R : Result → Shared → Prop), A.depth < recursionLimit → K.In b0 → b0.Ns mainGlobals mg → b0.Ns builtinsNs mb → mb "super" = some (.type "super") → b0.NoLimit → (∀ b o, b0.get? b = some o → s.heap.get? b = some o) → b0.get? e = none →
      s.heap.get? e = some (recO C t0 none) → us.length = fs.length →
      (∀ h' d t1 tk, (∀ b o, b ≠ e → s.heap.get? b = some o → h'.get? b = some o) → h'.get? e = some (recO C t1 d) → (match d with | none => fs.zip us = [] | some dx => fs.zip us ≠ [] ∧ s.heap.objs.size ≤ dx ∧ ∃ mA, h'.Ns1 dx mA ∧ ∀ y, mA y = (fs.zip us).lookup y) → R (.ok (.ret .none)) ⟨h', s.gens, s.drawn, tk, s.os⟩) →
      codeAny (model P w) A (.call (.ref fI) ⟨.ref e :: us, []⟩) R s := by
  obtain ⟨fI, cc, cda, name, qual, file, tf, params, body, scope, dV, kV, doc, pm, ct, oc, ccl, cl, an, od, cdd, cld, osl, ccs, csl, vs, a0, x1, x2, x3, x4, x5, x6, x7, x8, x9, x10, x11, x12, x13⟩ := XI.ex
  refine ⟨fI, x1, x2, fun A s e t0 us b0 R hroom hb hg hbl hbs hlim hk0 hbe he hl hR => ?_⟩
  have X : K.In s.heap := fun b o q => hk0 _ _ (hb _ _ q)
  obtain ⟨s1, s2, s3, s4, s5, s6, s7⟩ := initSc_ok x10
  unfold initB at x9
  split at x9
  · rename_i xN p0 p1 mN apos txt j p2 pos p3 rest
    simp only [Bool.and_eq_true, beq_iff_eq] at x9
    obtain ⟨⟨⟨y1, y2⟩, y3⟩, y4⟩ := x9
    subst y1; subst y2
    have hzl : (Value.ref e :: us).length = fs.length + 1 := by simp [hl]
    have nd1 : (((("self" : Str) :: fs).zip (Value.ref e :: us)).map (·.1)).Nodup := by rw [map_zip (by simp [hl])]; exact XI.nd
    refine ks_codeAny_call_defAt (binds := (("self" : Str) :: fs).zip (Value.ref e :: us)) hroom (X _ _ x3) rfl (hlim.keeps hk0) (PySem.W.codeRec_of X x4) rfl (.of_eq (x13 _ hzl)) s6 (fun y hy => ?_) (fun h1 hns hk1 => ?_) s2 s3 s1
    · obtain ⟨y1, y2⟩ := y
      exact (s7 _ (List.of_mem_zip hy).1).1
    · obtain ⟨nm, q, N, bs, bm, sn, sub, ab, col, dd, c0, c1, c2, c3, c5, hC, hbm⟩ := XI.ox.cls
      have hcl : PySem.W.clsIn K C = some { name := nm, bases := bs, mro := .ref C :: bm, ns := N, qualname := q, hasDict := true, slotNames := sn, subclasses := sub, abstract := ab, collection := col, hasDel := false } := by unfold PySem.W.clsIn; rw [hC] <;> rfl
      have look : ∀ y, (fun x => ((("self" : Str) :: fs).zip (Value.ref e :: us)).reverse.lookup x) y = (((("self" : Str), Value.ref e) :: fs.zip us)).lookup y := fun y => lk_rev nd1 y
      have mself : (fun x => ((("self" : Str) :: fs).zip (Value.ref e :: us)).reverse.lookup x) "self" = some (.ref e) := by rw [look]; simp [List.lookup]
      have nself : ("self" : Str) ∉ fs := (List.nodup_cons.mp XI.nd).1
      have mf : ∀ f ∈ fs, ∃ v, (fun x => ((("self" : Str) :: fs).zip (Value.ref e :: us)).reverse.lookup x) f = some v ∧ (fs.zip us).lookup f = some v := fun f hf => by
        obtain ⟨v, hv⟩ := lk_zip (us := us) hf hl
        refine ⟨v, ?_, hv⟩
        rw [look]
        have q : (f == ("self" : Str)) = false := by
          simp only [beq_eq_false_iff_ne, ne_eq]
          rintro rfl
          exact nself hf
        simp [List.lookup, q, hv]
      have heL : e ≠ s.heap.objs.size := Nat.ne_of_lt (Heap.lt_size he)
      have X1 : K.In h1 := X.keeps hk1
      have he1 := hk1 _ _ he
      obtain ⟨hh, g, dr, tk, os⟩ := s
      refine ks_wpAt_execs_cons (ks_wpAt_Expr_any (superAt rfl (show (1 : Nat) < 30 by decide) (by simpa using y3) (ks_wpAt_super_base s4 s5 (by decide) rfl (X1 _ _ x3) rfl x11 rfl (X1 _ _ x5) rfl x6 x7 XI.top ?_)) (by unfold interactive; rw [show (callEnv (PySem.W.ksFn name qual params _ scope dV kV doc pm an (Value.ref cda) ct cc) hh.objs.size fI).scope.kind = .function from s1]; rfl) rfl)
      refine PySem.W.ks_loadName_global s1 s4 (Calls.loadGlobal_builtin ((hg.keeps hk0).keeps hk1) XI.sup ((hbl.keeps hk0).keeps hk1) hbs ⟨rfl, ?_⟩)
      refine wpAny_loadName_free s1 s5 rfl ⟨_, X1 _ _ x8, rfl⟩ ?_
      refine wpAny_loadName_local s1 (by rw [x12]; exact (s7 "self" List.mem_cons_self).1) hns (by rw [x12]; exact mself) ?_
      refine ks_wpAny_isType_cls (X1 _ _ hC) rfl ⟨rfl, ?_⟩
      refine ks_wpAny_call_super (X1 _ _ hC) rfl he1 rfl (fun c z => by cases z) (PySem.W.looks_mroIn X1 XI.mro) (fun h2 e2 k2 => ?_)
      have X2 := X1.keeps k2
      have he2 := k2 _ _ he1
      have hxC : e ≠ C := fun z => by
        have h2 := X1 _ _ hC
        rw [← z, he1] at h2
        cases h2
      have hI : PySem.W.Looks (model P w) h2 (isInstance (.ref e) (.type "ValueError")) true := (PySem.W.InstAt.type (ox := recO C t0 none) (od := none) ⟨he2, rfl, rfl, trivial⟩).andThen (PySem.W.looks_subIn X2 XI.sub)
      have hsin := XI.sin
      unfold PySem.W.ks_superIn at hsin
      rw [hcl] at hsin
      refine PySem.W.kxs_getMethod PySem.W.kxs_ValueError e2 (PySem.W.looks_opaque X2 XI.nop) (l₀ := .ref C :: bm) (fun A Q E s k q => wpAny_bind ((PySem.W.looks_clsIn X2 hcl) A _ E s k (wpAny_pure q))) rfl X2 hsin hI hxC (by decide) ?_
      have hm3 : (h2.push (PySem.W.kxs_mw "ValueError.__init__" e)).get? h2.objs.size = some (PySem.W.kxs_mw "ValueError.__init__" e) := Heap.get?_push_size _ rfl
      have he3 : (h2.push (PySem.W.kxs_mw "ValueError.__init__" e)).get? e = some (recO C t0 none) := Heap.get?_push_of_some _ he2
      refine PySem.W.kxs_callWith (i := "ValueError.__init__") (x := e) rfl (evalArgs_pl rfl (Calls.spliced_cons (Calls.Constant_str (k := j) (pos := p2) (Calls.spliced_nil ⟨hm3, ?_⟩))))
      refine call_mw XI.ox (X2.keeps fun b o q => Heap.get?_push_of_some _ q) he3 hm3 (by simp [sizeLine_eq]) fun h4 t4 k4 e4 => ?_
      refine PySem.wpAt_of_wpAny ?_
      have kall : ∀ b o, b ≠ e → hh.get? b = some o → h4.get? b = some o := fun b o n q => k4 b o n (Heap.get?_push_of_some _ (k2 _ _ (hk1 _ _ q)))
      have hns4 : h4.Ns hh.objs.size (fun x => ((("self" : Str) :: fs).zip (Value.ref e :: us)).reverse.lookup x) := by
        obtain ⟨o, es, ep, z1, z2⟩ := hns
        exact ⟨o, es, ep, k4 _ _ (Ne.symm heL) (Heap.get?_push_of_some _ (k2 _ _ z1)), z2⟩
      refine flds_run (env := callEnv (PySem.W.ksFn name qual params _ scope dV kV doc pm an (Value.ref cda) ct cc) hh.objs.size fI) (zs := fs.zip us) (h0 := hh) (b0 := b0) XI.ox s1 (s7 "self" List.mem_cons_self).1 mself hb hbe hk0 (Nat.le_refl _) heL ⟨_, he⟩ (fun h' d t1 tk q1 q2 q3 => hR h' d t1 tk q1 q2 q3) fs rest [] h4 none t4 _ y4
        (fun f hf => ⟨(s7 f (List.mem_cons_of_mem _ hf)).1, (s7 f (List.mem_cons_of_mem _ hf)).2, mf f hf, XI.fld f hf⟩) (fun y hy => ?_) (by simpa using XI.len) ⟨fun z => ?_, fun z => ?_⟩ kall hns4 e4 rfl
      · cases q : (fs.zip us).lookup y with
        | none => rfl
        | some v => exact absurd (List.of_mem_zip (PySem.mem_of_lookup q)).1 (by simpa using hy)
      · have z : fs = [] := by simpa using z
        rw [z]; rfl
      · have z := congrArg List.length z
        rw [List.length_zip, hl] at z
        exact List.length_eq_zero_iff.mp (by simpa using z)
  · cases x9
end
end Ky
end
section
set_option Elab.async false
set_option linter.all false
set_option maxRecDepth 100000
set_option maxHeartbeats 2000000
/-! Ky, part Zm: raise. -/
namespace Ky
open PySem PySem.Spec PyProof.Rows L2
theorem lookup_putG {β : Type} (f g : Str) (y : β) (fs : List (Str × β)) : ((f, y) :: fs).lookup g = if g = f then some y else fs.lookup g := by
  by_cases h : g = f
  · subst h; rw [if_pos rfl]; simp [List.lookup]
  · have e : (g == f) = false := by simpa using h
    rw [if_neg h]; simp [List.lookup, e]
theorem relO_zip : ∀ {ks : List Str} {vs : List V} {us : List Value}, Vals vs us → ∀ f, RelO ((ks.zip vs).lookup f) ((ks.zip us).lookup f)
  | [], _, _, _, f => by simp [List.lookup, RelO]
  | k :: ks, _, _, .nil, f => by simp [List.lookup, RelO]
  | k :: ks, _, _, @Paired.cons _ _ _ v u vs us r rs, f => by
    show RelO (((k, v) :: ks.zip vs).lookup f) (((k, u) :: ks.zip us).lookup f)
    rw [lookup_putG, lookup_putG]
    by_cases h : f = k
    · rw [if_pos h, if_pos h]; exact r
    · rw [if_neg h, if_neg h]; exact relO_zip rs f
section
variable {P : Program} {w : World} {K : PySem.W.Frag} {mg : Str → Option Value} {base : Heap} {adr : Str → Addr} {G : GT} {fn : Str → Option Fn} {call : Str → List S → CR} {lv : Nat} {c : Cf} {PN : Addr → Addr → Option Addr → Prop} {W : WX} {X : Cx}
/-- C(..) is an error with these fields -/
def tWeb (C : Addr) (fs : List Str) (ta : TA) : St → Hp → XK → Prop := fun σ H Q => ta σ H fun vs H1 => vs.length = fs.length ∧ (fs = [] → Q (.ref C) none H1) ∧ (fs ≠ [] → ∀ d, H1 d = none → Q (.ref C) (some d) (upd H1 d (.xd (fs.zip vs))))
theorem pmk_web {x : Str} {p pos : Pos} {ps : List Expr} {ta : TA} {C : Addr} {fs : List Str} (XI : XInit X.prog X.K X.mg C fs) (hr : Room 1 X.A) (hg : Gl X x) (hm : X.mg x = some (.ref C)) (ha : PA X ps ta) (hn : ps.all notStar = true) (hdb : (x == ("__debug__" : Str)) = false) :
    L2N.PMk X (.Call (.Name x p) ps [] pos) (tWeb C fs ta) := by
  intro pins s σ H Q I h
  have T := XI.ox
  obtain ⟨nm, q, N, bs, bm, sn, sub, ab, col, dd, k0, k1, k2, k3, k5, hC, hbm⟩ := T.cls
  obtain ⟨fI, i1, i2, run⟩ := init_code (w := X.w) (mb := Classical.choose I.ok.mod.blt) XI
  refine wpAny_Call_Name_kw (ld_glob I hg hm ?_ hdb)
  refine PySem.W.callWith_of (P := fun h => X.K.In h) ?_ (PySem.W.keeps_K T.kC) (evalArgs_pl (star_any hn) (thn (ha.run pos pins s σ H _ I h) fun us s1 ⟨vs, H1, I1, r1, hlen, q0, q1⟩ => ⟨I1.kIn, ?_⟩))
  · rw [star_any hn]
    rfl
  show wpAny _ _ (call (.ref C) us) _ _ _
  obtain ⟨hp, g, dr, tk, os⟩ := s1
  have hus : us.length ≤ sizeLine := by
    have := Paired.length r1
    have := XI.len
    rw [sizeLine_eq]
    omega
  have bk : ∀ b o, X.base.get? b = some o → ((hp.push (PySem.W.kdv_tup us)).push (PySem.HandSPX.excO C hp.objs.size)).get? b = some o := fun b o e => Heap.get?_push_of_some _ (Heap.get?_push_of_some _ (I1.bk b o e))
  have be : X.base.get? (hp.objs.size + 1) = none := by
    cases z : X.base.get? (hp.objs.size + 1) with
    | none => rfl
    | some o =>
      have := Heap.lt_size (I1.bk _ _ z)
      exact absurd (Nat.lt_trans (Nat.lt_succ_self _) this) (Nat.lt_irrefl _)
  have hget : ((hp.push (PySem.W.kdv_tup us)).push (PySem.HandSPX.excO C hp.objs.size)).get? (hp.objs.size + 1) = some (PySem.HandSPX.excO C hp.objs.size) := by heap_get
  obtain ⟨b1, b2⟩ := Classical.choose_spec I.ok.mod.blt
  refine wpAny_call (PySem.HandSPX.call_own F.excBase_ValueError (fun Y => PySem.HandSPX.refsVE_contains Y bm hbm) (I1.kIn _ _ hC) (PySem.W.looks_findIn I1.kIn i1) (fun self => PySem.W.bind_fn I1.kIn self i2) hus
    (run _ _ _ hp.objs.size us X.base _ (by rw [make_depth]; have := hr.dp; omega) I.ok.mod.kin I.ok.mod.glob b1 ((b2 "super" (by decide)).trans (by decide +kernel)) I.ok.mod.nolimit bk be hget (by rw [← Paired.length r1, hlen]) fun h' d t1 tk' kp he hd => ⟨rfl, ?_⟩))
  have kall : ∀ b o, hp.get? b = some o → h'.get? b = some o := fun b o z => kp b o (fun y => by
      subst y
      exact absurd (Nat.lt_trans (Nat.lt_succ_self _) (Heap.lt_size z)) (Nat.lt_irrefl _)) (Heap.get?_push_of_some _ (Heap.get?_push_of_some _ z))
  obtain ⟨G, g1', g2'⟩ := restrict h' fun b => decide (b ≠ hp.objs.size + 1)
  have gk : ∀ b, b ≠ hp.objs.size + 1 → G.get? b = h'.get? b := fun b hb => g1' b (decide_eq_true hb)
  have ge : G.get? (hp.objs.size + 1) = none := g2' _ (by simp)
  have gall : ∀ b o, hp.get? b = some o → G.get? b = some o := fun b o z => by
    rw [gk b (fun y => by
      subst y
      exact absurd (Nat.lt_trans (Nat.lt_succ_self _) (Heap.lt_size z)) (Nat.lt_irrefl _))]
    exact kall b o z
  have gsub : ∀ b o, G.get? b = some o → h'.get? b = some o := fun b o z => by
    by_cases hb : b = hp.objs.size + 1
    · rw [hb, ge] at z; cases z
    · exact (gk b hb).symm.trans z
  have hH1 : H1 (hp.objs.size + 1) = none := I1.hok.fresh (Nat.le_succ _)
  have e2 : us.length = fs.length := by rw [← Paired.length r1, hlen]
  have zipnil : fs.zip us = [] → fs = [] := fun z => by
    have := congrArg List.length z
    rw [List.length_zip, e2] at this
    exact List.length_eq_zero_iff.mp (by simpa using this)
  cases d with
  | none =>
    have hfs := zipnil hd
    have J : Inv X pins σ H1 ⟨G, g, dr, tk', os⟩ := I1.un (h' := G) (t' := tk') (Un.kept gall) (I1.hok.kept gall)
    exact ⟨hp.objs.size + 1, _, _, ⟨G, g, dr, tk', os⟩, H1, .ref C, none, rfl, J, gsub, ge, he, ⟨rfl, rfl, fun vs e => by cases e; rfl⟩, rfl, rfl, hH1, rfl, I1.bare, raises_own T.exC T.tyC, q0 hfs⟩
  | some dx =>
    obtain ⟨d0, d1, mA, d2, d3⟩ := hd
    have hsz : ((hp.push (PySem.W.kdv_tup us)).push (PySem.HandSPX.excO C hp.objs.size)).objs.size = hp.objs.size + 2 := by rw [Heap.size_push, Heap.size_push]
    have d1 : hp.objs.size + 2 ≤ dx := by rw [← hsz]; exact d1
    have dne : dx ≠ hp.objs.size + 1 := fun z => by rw [z] at d1; exact absurd d1 (Nat.not_succ_le_self _)
    have hdx : H1 dx = none := I1.hok.fresh (Nat.le_trans (Nat.le_add_right _ 2) d1)
    have hn : G.Ns1 dx mA := d2.at fun o z => (gk dx dne).trans z
    have rel : ∀ f, RelO ((fs.zip vs).lookup f) (mA f) := fun f => by rw [d3 f]; exact relO_zip r1 f
    have J : Inv X pins σ (upd H1 dx (.xd (fs.zip vs))) ⟨G, g, dr, tk', os⟩ := I1.laid (t' := tk') (h' := G) gall (Nat.le_trans (Nat.le_add_right _ 2) d1) ⟨mA, hn, rel⟩
    have hH2 : upd H1 dx (.xd (fs.zip vs)) (hp.objs.size + 1) = none := by rw [upd_ne (Ne.symm dne)]; exact hH1
    have hfs : fs ≠ [] := fun z => d0 (by rw [z]; rfl)
    exact ⟨hp.objs.size + 1, _, _, ⟨G, g, dr, tk', os⟩, _, .ref C, some dx, rfl, J, gsub, ge, he, ⟨rfl, rfl, fun vs e => by cases e; rfl⟩, rfl, rfl, hH2, rfl, I1.bare, raises_own T.exC T.tyC, q1 hfs dx hdx⟩

/-- errors that are raised -/
def RaiOk (P : Program) (K : PySem.W.Frag) (mg : Str → Option Value) (adr : Str → Addr) (G : GT) : Prop := ∀ c fs, G.exc c = some fs → mg c = some (.ref (adr c)) ∧ XInit P K mg (adr c) fs
variable {callB : Bool → Str → List S → CR} {h : Bool}
theorem RepF.zip : ∀ {F : Hp} {ks : List Str} {ds : List D} {vs : List V}, RepL K adr F ds vs → RepF K adr F (ks.zip ds) (ks.zip vs)
  | _, [], ds, vs, _ => by simp [RepF]
  | _, k :: ks, [], vs, h => by
    simp only [RepL] at h; subst h
    simp [RepF]
  | _, k :: ks, d :: ds, vs, h => by
    simp only [RepL] at h
    obtain ⟨v, r, rfl, h1, h2⟩ := h
    exact ⟨v, ks.zip r, rfl, h1, RepF.zip h2⟩
theorem rs_raise {cN : Str} {es : Exs} {ps : List Expr} {p pos pos2 : Pos} (hR : RaiOk P K mg adr G) (hX : SOk P w K mg base (G.at h) lv c PN W X) (hx : (G.exc cN).isSome = true) (hg : Gl X cN) (h1 : (cN == ("__debug__" : Str)) = false) (hn : ps.all notStar = true) (ha : PA X ps (RA K adr (G.at h) (callB h) PN W es)) :
    PS X (.Raise (some (.Call (.Name cN p) ps [] pos2)) none pos) (RS K adr G callB PN W h (.raise cN es)) := by
  cases hh : h with
  | true =>
    refine ⟨fun pins s σ H D I hr => ?_⟩
    obtain ⟨B, F, env, fx, hs, hb, ho⟩ := hr
    rw [exS, if_pos rfl] at ho
    exact ho.elim
  | false =>
    subst hh
    obtain ⟨fs, hx⟩ := Option.isSome_iff_exists.mp hx
    obtain ⟨m1, XI⟩ := hR cN fs hx
    refine PS.imI (L2N.ps_raise (hX.ok.calm rfl) hX.ok.tk (pmk_web (C := adr cN) (fs := fs) (by rw [hX.ok.hP, hX.ok.hK, hX.ok.hm]; exact XI) ((hX.ok.roomC rfl).mono (Nat.le_add_left _ _)) hg (by rw [hX.ok.hm]; exact m1) ha hn h1)) fun D σ H hlen hr => ?_
    obtain ⟨B, F, env, fx, hs, hb, ho⟩ := hr
    rw [exS, if_neg Bool.false_ne_true, hx] at ho
    refine ⟨B, F, env, [], hs, (OutS.to hb (evs_pre es env) ho).imp fun rs e _ ⟨hb1, ho⟩ vs H1 F1 s1 l g => ?_⟩
    cases q : frzs rs e with
    | none => rw [q] at ho; exact ho.elim
    | some z =>
      obtain ⟨ds, e'⟩ := z
      rw [q] at ho
      have ho : OutS K adr PN W B F fx D (if ds.length = fs.length then .exc cN (fs.zip ds) e' else .bad) := ho
      obtain ⟨F2, s2, g2, r2⟩ := StT.frzN l g q
      split at ho
      · rename_i hl
        have hl2 : vs.length = fs.length := by rw [r2.length, hl]
        refine ⟨hl2, fun hz => ?_, fun hz d hd => ?_⟩
        · subst hz
          exact ho _ none σ H1 F2 (s1.trans s2) (hb1.pre (pre_frzs q)) g2 ⟨rfl, rfl⟩
        · have hF : F2 d = none := free_F g2.sf hd
          have up : Same H1 (upd H1 d (.xd (fs.zip vs))) := same_new hd
          have upF : Same F2 (upd F2 d (.xd (fs.zip vs))) := same_new hF
          have g3 : StT K adr PN B (upd F2 d (.xd (fs.zip vs))) e' σ (upd H1 d (.xd (fs.zip vs))) [] := by
            refine g2.grow up upF (fun b o z => ?_) (fun b o z => ?_)
            · by_cases hb : b = d
              · subst hb; rw [upd_same] at z ⊢; exact z
              · rw [upd_ne hb] at z ⊢; exact g2.sf b o z
            · by_cases hb : b = d
              · subst hb; exact .inr hd
              · rw [upd_ne hb] at z; exact .inl z
          exact ho _ (some d) σ _ _ ((s1.trans s2).trans upF) (hb1.pre (pre_frzs q)) g3 ⟨rfl, _, upd_same, RepF.zip (RepL.mono upF _ _ r2)⟩
      · exact ho.elim
end
end Ky
end
section
set_option Elab.async false
set_option linter.all false
set_option maxRecDepth 100000
set_option maxHeartbeats 4000000
/-! Ky, part Zj: statements, as written. -/
namespace Ky
open PySem PySem.Spec PyProof.Rows L2
def noComp : Expr → Bool | .ListComp .. => false | .SetComp .. => false | .DictComp .. => false | _ => true
def notTup : Expr → Bool | .Tuple .. => false | .List .. => false | _ => true
def isComp : Ex → Bool | .comp .. => true | _ => false
/-- does name = [..] store ahead of the block's end -/
def swapB (c : Cf) (x : Str) (l : Nat) (scope : Scope) (l2 : Nat) : Bool := (match c.sc.kind with | .function => true | _ => false) && locB c x && (l == l2) && !(scope.names.any fun (n, k) => n == x && (k == .local || k == .cell))
theorem swaps_no {e : Expr} {t : Option Expr} {l : Nat} {env : PySem.Env} (h : noComp e = true) : swapsWith e t l env = pure false := by
  cases e <;> first | rfl | (cases h; done)
section
variable (G : GT)
mutual
def mS : Sx → Cf → Stmt → Bool
  | .set i a, c, s => match s with
    | .Assign [.Name x p] e _ => decide (c.N[i]? = some x) && setB c x && mE G a c e && (noComp e || (isComp a && (match e with | .ListComp _ _ scope q => swapB c x p.line scope q.line | _ => false)))
    | _ => false
  | .asg is a, c, s => match s with
    | .Assign [.Tuple ps _ _] e _ => nmsB c is ps && mE G a c e && noComp e && notTup e
    | _ => false
  | .par _ _ _ _, c, s => false
  | .setIx i k a, c, s => match s with
    | .Assign [.Subscript (.Name x _) q _] e _ => nmB c i x && mE G k c q && ixPlain q && mE G a c e && noComp e
    | _ => false
  | .setFld i f a, c, s => match s with
    | .Assign [.Attribute (.Name x _) g _] e _ => f == g && nmB c i x && mE G a c e && noComp e
    | _ => false
  | .aug i o a, c, s => match s with
    | .AugAssign (.Name x _) o' e _ => decide (c.N[i]? = some x) && setB c x && o == o' && mE G a c e
    | _ => false
  | .ex a, c, s => match s with
    | .Expr e _ => mE G a c e && noComp e
    | _ => false
  | .ret a, c, s => match s with | .Return (some e) _ => mE G a c e | _ => false
  | .retN, c, s => match s with | .Return none _ => true | _ => false
  | .ifs t a b, c, s => match s with | .If e p q _ => mT G t c e && mSs a c p && mSs b c q | _ => false
  | .for g it b, c, s => match s with | .For tg iter body [] _ => mI G it c tg iter && tgB c g tg && mSs b c body && noFold iter | _ => false
  | .while t b, c, s => match s with | .While e body [] _ => mT G t c e && mSs b c body | _ => false
  | .raise d es, c, s => match s with
    | .Raise (some (.Call (.Name x _) ps [] _)) none _ => x == d && gB c x && (G.exc d).isSome && mA G es c ps
    | _ => false
  | .try1 b cN i hd, c, s => match s with
    | .Try body [.ExceptHandler (some (.Name x _)) (some n) (b₀ :: suite) _] [] [] _ => x == cN && gB c x && G.xcl.contains x && decide (c.N[i]? = some n) && locB c n && mSs b c body && mSs hd c (b₀ :: suite)
    | _ => false
  | .pass, c, s => match s with | .Pass _ => true | _ => false
  | .brk, c, s => match s with | .Break _ => true | _ => false
  | .cont, c, s => match s with | .Continue _ => true | _ => false
  | .dead, c, s => true
def mSs : Sxs → Cf → List Stmt → Bool
  | .nil, c, ss => ss.isEmpty
  | .cons s r, c, ss => match ss with | t :: ts => mS s c t && mSs r c ts | [] => false
end
end
section
variable {P : Program} {w : World} {K : PySem.W.Frag} {mg : Str → Option Value} {base : Heap} {adr : Str → Addr} {G : GT} {fn : Str → Option Fn} {callB : Bool → Str → List S → CR} {lv : Nat}
theorem mE_at {a : Ex} {c : Cf} {e : Expr} {h : Bool} {PN : Addr → Addr → Option Addr → Prop} {W : WX} {X : Cx} (hf : Facts P w K mg base adr (G.at h) fn (callB h) lv) (hX : XOk P w K mg base (G.at h) lv c PN W X) (q : mE G a c e = true) : PE X e (RE K adr (G.at h) (callB h) PN W a) := mE_ok a hf hX q
theorem locB_ok {c : Cf} {x : Str} (h : locB c x = true) : c.sc.names.lookup x = some .local := by
  unfold locB at h
  split at h
  · assumption
  · cases h
theorem rs_asgH {is : List Nat} {a : Ex} {st : Stmt} {PN : Addr → Addr → Option Addr → Prop} {W : WX} {X : Cx} : PS X st (RS K adr G callB PN W true (.asg is a)) := ⟨fun pins s σ H D I hr => by
  obtain ⟨B, F, env, fx, hs, hb, ho⟩ := hr
  rw [exS, if_pos rfl] at ho
  exact ho.elim⟩
mutual
theorem mS_ok : ∀ (s : Sx) {c : Cf} {st : Stmt} {h : Bool} {PN : Addr → Addr → Option Addr → Prop} {W : WX} {X : Cx}, (∀ h, Facts P w K mg base adr (G.at h) fn (callB h) lv) → RaiOk P K mg adr G → SOk P w K mg base (G.at h) lv c PN W X → mS G s c st = true → PS X st (RS K adr G callB PN W h s)
  | .set i a, c, st, h, PN, W, X, hf, hR, hX, q => by
    unfold mS at q
    split at q
    · rename_i x p e pos
      obtain ⟨q, q4⟩ := and3 q
      obtain ⟨q, q3⟩ := and3 q
      obtain ⟨q1, q2⟩ := and3 q
      rw [Bool.or_eq_true] at q4
      rcases q4 with q4 | q4
      · exact rs_set hX.ok (of_decide_eq_true q1) (setB_ok q2) (mE_at (hf _) hX.ok q3) (swaps_no q4)
      · obtain ⟨k1, k2⟩ := and3 q4
        have hcomp : ∃ vs g it cnd el, a = .comp vs g it cnd el := by
          cases a <;> first | exact ⟨_, _, _, _, _, rfl⟩ | cases k1
        obtain ⟨vs, g, it, cnd, el, rfl⟩ := hcomp
        unfold mE at q3
        split at q3
        · rename_i elt tg iter ifs scope pos2 _
          obtain ⟨q3, h8⟩ := and3 q3
          obtain ⟨q3, h7⟩ := and3 q3
          obtain ⟨q3, h6⟩ := and3 q3
          obtain ⟨q3, h5⟩ := and3 q3
          obtain ⟨q3, h4⟩ := and3 q3
          obtain ⟨q3, h3⟩ := and3 q3
          obtain ⟨h1, h2⟩ := and3 q3
          have k2 : swapB c x p.line scope pos2.line = true := k2
          unfold swapB at k2
          obtain ⟨k2, m4⟩ := and3 k2
          obtain ⟨k2, m3⟩ := and3 k2
          obtain ⟨m1, m2⟩ := and3 k2
          have hk : c.sc.kind = .function := by
            split at m1
            · assumption
            · cases m1
          have hl : c.sc.names.lookup x = some .local := by
            unfold locB at m2
            split at m2
            · assumption
            · cases m2
          refine rs_setLc hX.ok (of_decide_eq_true q1) hl (of_decide_eq_true h2) (blkOk_by h1) (fun i m => by have := List.all_eq_true.mp h3 i m; simpa using this) (sw_true (by rw [hX.ok.hs]; exact hk) (by rw [hX.ok.hs]; exact hl) m3 (not_t m4)) (fun _ => mI_ok it (hf _) hX.ok h4) (fun hc X' hX' => tgB_ok hX' hc h5) (fun hc X' hX' => ?_) (fun hc X' hX' => mE_ok el (hf _) hX' h7) (noFold_ok h8)
          split at h6
          · have hy : cnd = .yes := by cases cnd <;> first | rfl | cases h6
            subst hy
            exact ⟨fun pins s σ H Q I hr => pts_nil.run pins s σ H Q I (by
              obtain ⟨B, F, env, ts, hs, ho⟩ := hr
              rw [evT] at ho
              exact ho H F Same.rfl' hs)⟩
          · exact pts_one (mT_ok cnd (hf _) hX' h6).1
          · cases h6
        · cases q3
    · cases q
  | .asg is a, c, st, h, PN, W, X, hf, hR, hX, q => by
    unfold mS at q
    split at q
    · rename_i ps k p e pos
      obtain ⟨q, q4⟩ := and3 q
      obtain ⟨q, q3⟩ := and3 q
      obtain ⟨q1, q2⟩ := and3 q
      cases hh : h with
      | true => exact rs_asgH
      | false =>
      subst hh
      exact rs_asg hX.ok (rg_tp hX.ok rfl (nmsB_ok q1)) (mE_at (hf _) hX.ok q2) (show swapsWith e (some (.Tuple ps k p)) pos.line X.env = pure false from swaps_no q3) (by cases e <;> first | rfl | (cases q4; done)) rfl
    · cases q
  | .par _ _ _ _, c, st, h, PN, W, X, hf, hR, hX, q => by unfold mS at q; cases q
  | .setIx i k a, c, st, h, PN, W, X, hf, hR, hX, q => by
    unfold mS at q
    split at q
    · obtain ⟨q, q5⟩ := and3 q
      obtain ⟨q, q4⟩ := and3 q
      obtain ⟨q, q3⟩ := and3 q
      obtain ⟨q1, q2⟩ := and3 q
      obtain ⟨g1, g2, g3, g4⟩ := nmB_ok q1
      exact rs_setIx hX.ok g1 g2 g3 g4 (mE_at (hf _) hX.ok q4) (mE_at (hf _) hX.ok q2) q3 (swaps_no q5)
    · cases q
  | .setFld i f a, c, st, h, PN, W, X, hf, hR, hX, q => by
    unfold mS at q
    split at q
    · obtain ⟨q, q4⟩ := and3 q
      obtain ⟨q, q3⟩ := and3 q
      obtain ⟨q1, q2⟩ := and3 q
      have q1 := beq_iff_eq.mp q1
      subst q1
      obtain ⟨g1, g2, g3, g4⟩ := nmB_ok q2
      exact rs_setFld (hf _) hX.ok g1 g2 g3 g4 (mE_at (hf _) hX.ok q3) (swaps_no q4)
    · cases q
  | .aug i o a, c, st, h, PN, W, X, hf, hR, hX, q => by
    unfold mS at q
    split at q
    · obtain ⟨q, q4⟩ := and3 q
      obtain ⟨q, q3⟩ := and3 q
      obtain ⟨q1, q2⟩ := and3 q
      have q3 := beq_iff_eq.mp q3
      subst q3
      exact rs_aug hX.ok (of_decide_eq_true q1) (setB_ok q2) (mE_at (hf _) hX.ok q4)
    · cases q
  | .ex a, c, st, h, PN, W, X, hf, hR, hX, q => by
    unfold mS at q
    split at q
    · obtain ⟨q1, q2⟩ := and3 q
      exact rs_ex (mE_at (hf _) hX.ok q1) (swaps_no q2)
    · cases q
  | .ret a, c, st, h, PN, W, X, hf, hR, hX, q => by
    unfold mS at q
    split at q
    · exact rs_ret (mE_at (hf _) hX.ok q)
    · cases q
  | .retN, c, st, h, PN, W, X, hf, hR, hX, q => by
    unfold mS at q
    split at q
    · exact rs_retN
    · cases q
  | .ifs t a b, c, st, h, PN, W, X, hf, hR, hX, q => by
    unfold mS at q
    split at q
    · obtain ⟨q, q3⟩ := and3 q
      obtain ⟨q1, q2⟩ := and3 q
      exact rs_if (mT_ok t (hf _) hX.ok q1).1 (mSs_ok a hf hR hX q2) (mSs_ok b hf hR hX q3)
    · cases q
  | .for g it b, c, st, h, PN, W, X, hf, hR, hX, q => by
    unfold mS at q
    split at q
    · obtain ⟨q, q4⟩ := and3 q
      obtain ⟨q, q3⟩ := and3 q
      obtain ⟨q1, q2⟩ := and3 q
      exact rs_for hX (fun _ => mI_ok it (hf _) hX.ok q1) (fun hc => tgB_ok hX.ok hc q2) (mSs_ok b hf hR hX q3) (noFold_ok q4)
    · cases q
  | .while t b, c, st, h, PN, W, X, hf, hR, hX, q => by
    unfold mS at q
    split at q
    · obtain ⟨q1, q2⟩ := and3 q
      exact rs_while hX (mT_ok t (hf _) hX.ok q1).1 (mSs_ok b hf hR hX q2)
    · cases q
  | .raise d es, c, st, h, PN, W, X, hf, hR, hX, q => by
    unfold mS at q
    split at q
    · obtain ⟨q, q4⟩ := and3 q
      obtain ⟨q, q3⟩ := and3 q
      obtain ⟨q1, q2⟩ := and3 q
      have q1 := beq_iff_eq.mp q1
      subst q1
      obtain ⟨g1, g2⟩ := gB_ok hX.ok q2
      obtain ⟨k1, k2⟩ := mA_ok es (hf h) hX.ok q4
      exact rs_raise hR hX q3 g1 g2 k2.1 k1
    · cases q
  | .try1 b cN i hd, c, st, h, PN, W, X, hf, hR, hX, q => by
    unfold mS at q
    split at q
    · obtain ⟨q, q7⟩ := and3 q
      obtain ⟨q, q6⟩ := and3 q
      obtain ⟨q, q5⟩ := and3 q
      obtain ⟨q, q4⟩ := and3 q
      obtain ⟨q, q3⟩ := and3 q
      obtain ⟨q1, q2⟩ := and3 q
      have q1 := beq_iff_eq.mp q1
      subst q1
      obtain ⟨g1, g2⟩ := gB_ok hX.ok q2
      exact rs_try hf hX (of_decide_eq_true q4) (locB_ok q5) g1 g2 (List.contains_iff_mem.mp q3) (fun _ W' X' hX' => mSs_ok b hf hR hX' q6) (fun PN' W' X' hX' => mSs_ok hd hf hR hX' q7)
    · cases q
  | .pass, c, st, h, PN, W, X, hf, hR, hX, q => by
    unfold mS at q
    split at q
    · exact rs_pass
    · cases q
  | .brk, c, st, h, PN, W, X, hf, hR, hX, q => by
    unfold mS at q
    split at q
    · exact rs_brk
    · cases q
  | .cont, c, st, h, PN, W, X, hf, hR, hX, q => by
    unfold mS at q
    split at q
    · exact rs_cont
    · cases q
  | .dead, c, st, h, PN, W, X, hf, hR, hX, q => rs_dead
theorem mSs_ok : ∀ (s : Sxs) {c : Cf} {st : List Stmt} {h : Bool} {PN : Addr → Addr → Option Addr → Prop} {W : WX} {X : Cx}, (∀ h, Facts P w K mg base adr (G.at h) fn (callB h) lv) → RaiOk P K mg adr G → SOk P w K mg base (G.at h) lv c PN W X → mSs G s c st = true → PSs X st (RSs K adr G callB PN W h s)
  | .nil, c, st, h, PN, W, X, hf, hR, hX, q => by
    unfold mSs at q
    cases st with
    | nil => exact rss_nil
    | cons _ _ => cases q
  | .cons s r, c, st, h, PN, W, X, hf, hR, hX, q => by
    unfold mSs at q
    split at q
    · obtain ⟨q1, q2⟩ := and3 q
      exact rss_cons (mS_ok s hf hR hX q1) (mSs_ok r hf hR hX q2)
    · cases q
end
end
end Ky
end
section
set_option Elab.async false
set_option linter.all false
set_option maxRecDepth 100000
set_option maxHeartbeats 2000000
/-! Ky, part Zo: how a call binds, in general. -/
namespace Ky
open PySem PySem.Spec PyProof.Rows L2
section
variable {β : Type}
def putN (S : List (Str × β)) (x : Str × β) : List (Str × β) := if (S.lookup x.1).isNone = true then S ++ [x] else S
theorem putN_look (n : Str) : ∀ (zs S : List (Str × β)), (zs.foldl putN S).lookup n = (S ++ zs).lookup n
  | [], S => by simp
  | x :: zs, S => by
    rw [List.foldl_cons, putN_look n zs]
    unfold putN
    split
    · rw [List.append_assoc]; rfl
    · rename_i h
      rw [List.lookup_append, List.lookup_append]
      obtain ⟨a, v⟩ := x
      by_cases e : n = a
      · subst e
        cases q : S.lookup n with
        | none => exact absurd (by simp [q]) h
        | some u => rfl
      · have e2 : (n == a) = false := by simpa using e
        rw [show ((a, v) :: zs).lookup n = zs.lookup n by simp [List.lookup, e2]]
end
theorem forIn_put (body : Str × Value → List (Str × Value) → Sem (ForInStep (List (Str × Value)))) (hb : ∀ x S, body x S = pure (.yield (putN S x))) : ∀ (zs S : List (Str × Value)), forIn zs S body = pure (zs.foldl putN S)
  | [], S => by rw [List.forIn_nil]; rfl
  | x :: zs, S => by
    rw [List.forIn_cons, hb, pure_bind]
    exact forIn_put body hb zs _
theorem look_keys {β : Type} {S : List (Str × β)} {n : Str} (h : n ∉ S.map (·.1)) : S.lookup n = none := by
  cases q : S.lookup n with
  | none => rfl
  | some u => exact absurd (List.mem_map_of_mem (f := (·.1)) (PySem.mem_of_lookup q)) h
theorem forIn_kw {ps : List Str} (body : Str × Value → List (Str × Value) × List (Str × Value) → Sem (ForInStep (List (Str × Value) × List (Str × Value)))) (hb : ∀ x S E, x.1 ∈ ps → S.lookup x.1 = none → body x (S, E) = pure (.yield (S ++ [x], E))) :
    ∀ (l S E : List (Str × Value)), (∀ k ∈ l.map (·.1), k ∈ ps) → (S.map (·.1) ++ l.map (·.1)).Nodup → forIn l (S, E) body = pure (S ++ l, E)
  | [], S, E, _, _ => by rw [List.forIn_nil, List.append_nil]
  | x :: l, S, E, h1, h2 => by
    have h3 : x.1 ∉ S.map (·.1) := fun z => by
      rw [List.map_cons, List.nodup_append] at h2
      exact h2.2.2 _ z _ List.mem_cons_self rfl
    rw [List.forIn_cons, hb x S E (h1 _ (by simp)) (look_keys h3), pure_bind]
    have := forIn_kw body hb l (S ++ [x]) E (fun k hk => h1 k (by simp at hk ⊢; exact .inr hk)) (by
      rw [List.map_append, List.append_assoc]
      exact h2)
    rw [List.append_assoc] at this
    exact this
theorem bind_k {fd : FuncData} {ps : List Str} {us : List Value} {kw : List (Str × Value)} (h1 : fd.params.posonlyargs = []) (h2 : fd.params.args.map (·.arg) = ps) (h3 : fd.params.kwonlyargs = []) (h4 : fd.params.vararg = none) (h5 : fd.params.kwarg = none)
    (hk : ∀ k ∈ kw.map (·.1), k ∈ ps) (hnd : ((ps.zip us).map (·.1) ++ kw.map (·.1)).Nodup) :
    ∃ k, bindArgs fd ⟨us, kw⟩ = seqItems? fd.defaults >>= k ∧ ∀ (o : Option (Array Value)) (its : List Value), (o.getD #[]).toList = its → us.length ≤ ps.length → its.length ≤ ps.length →
      (∀ n ∈ ps.take (ps.length - its.length), ((ps.zip us ++ kw).lookup n).isSome = true) → k o = pure (ps.filterMap fun n => ((ps.zip us ++ kw ++ (ps.drop (ps.length - its.length)).zip its).lookup n).map (n, ·)) := by
  unfold bindArgs
  simp only [h1, h2, h3, h4, h5, List.map_nil, List.nil_append, List.append_nil]
  rw [forIn_kw (ps := ps) _ (fun x S E hx hS => by
    simp only [List.contains_iff_mem.mpr hx, hS]
    rfl) kw _ _ hk hnd, pure_bind]
  refine ⟨_, rfl, fun o its e l1 l2 hall => ?_⟩
  subst e
  have e1 : (o.getD #[]).toList.drop ((o.getD #[]).toList.length - ps.length) = (o.getD #[]).toList := by
    rw [Nat.sub_eq_zero_of_le l2]; rfl
  have e2 : (decide (us.length > ps.length) && (none : Option PySem.Arg).isNone) = false := by
    rw [decide_eq_false (by omega)]; rfl
  have e3 : (List.filter (fun n => (List.lookup n (ps.zip us ++ kw)).isNone) (List.take (ps.length - (o.getD #[]).toList.length) ps)) = [] := by
    rw [List.filter_eq_nil_iff]
    intro n hn
    have := hall n hn
    rw [Option.isSome_iff_ne_none] at this
    simpa using this
  simp only [e1, e2, e3]
  rw [if_neg Bool.false_ne_true, if_neg (show ¬ (![].isEmpty) = true from Bool.false_ne_true), forIn_put _ (fun x S => by unfold putN; split <;> rfl), pure_bind, List.forIn_nil, pure_bind]
  show pure _ = pure _
  congr 1
  congr 1
  funext n
  rw [putN_look]
theorem seq_none : seqItems? .none = pure none := rfl
/-- how a call binds -/
theorem binds_gen {s : Shared} {K : PySem.W.Frag} {fd : FuncData} {ps : List Str} {us : List Value} {kw : List (Str × Value)} (h1 : fd.params.posonlyargs = []) (h2 : fd.params.args.map (·.arg) = ps) (h3 : fd.params.kwonlyargs = []) (h4 : fd.params.vararg = none) (h5 : fd.params.kwarg = none)
    (hk : ∀ k ∈ kw.map (·.1), k ∈ ps) (hnd : ((ps.zip us).map (·.1) ++ kw.map (·.1)).Nodup) (X : K.In s.heap) {its : List Value} (hd : (its = [] ∧ fd.defaults = .none) ∨ ∃ T o n, fd.defaults = .ref T ∧ K.lookup T = some o ∧ o.data = .seq its.toArray n)
    (l1 : us.length ≤ ps.length) (l2 : its.length ≤ ps.length) (hall : ∀ n ∈ ps.take (ps.length - its.length), ((ps.zip us ++ kw).lookup n).isSome = true) :
    BindsTo s fd ⟨us, kw⟩ (ps.filterMap fun n => ((ps.zip us ++ kw ++ (ps.drop (ps.length - its.length)).zip its).lookup n).map (n, ·)) := by
  obtain ⟨k, e1, e2⟩ := bind_k (us := us) (kw := kw) h1 h2 h3 h4 h5 hk hnd
  rcases hd with ⟨e, e3⟩ | ⟨T, o, n, e3, e4, e5⟩
  · subst e
    refine .of_eq ?_
    rw [e1, e3, seq_none, pure_bind, e2 none [] rfl l1 l2 hall]
  · exact BindsTo.of_defaults e3 (X _ _ e4) e5 e1 (e2 (some its.toArray) its (by simp) l1 l2 hall)

/-- where each parameter's value stands among the given ones, the keywords', the defaults -/
def nmOf (ps : List Str) (n : Nat) (ks : List Str) (m : Nat) : List Str := ps.take n ++ ks ++ ps.drop (ps.length - m)
def arOf (ps nm : List Str) : List Nat := ps.map fun x => nm.idxOf x
theorem nmOf_len {ps ks : List Str} {n m : Nat} (hn : n ≤ ps.length) (hm : m ≤ ps.length) : (nmOf ps n ks m).length = n + ks.length + m := by
  unfold nmOf
  rw [List.length_append, List.length_append, List.length_take, List.length_drop, Nat.min_eq_left hn]
  omega
theorem look_zip {β : Type} {x : Str} : ∀ {nm : List Str} {vals : List β}, vals.length = nm.length → x ∈ nm → (nm.zip vals).lookup x = vals[nm.idxOf x]?
  | [], _, _, h => by cases h
  | y :: nm, [], h, _ => by cases h
  | y :: nm, v :: vals, h, m => by
    show ((y, v) :: nm.zip vals).lookup x = _
    rw [lookup_putG, List.idxOf_cons]
    by_cases e : x = y
    · subst e; simp
    · have e2 : (y == x) = false := by simpa using Ne.symm e
      rw [if_neg e, e2, look_zip (by simpa using h) (List.mem_of_ne_of_mem e m)]
      simp
theorem fm_zip {β : Type} {nm : List Str} {vals : List β} (hl : vals.length = nm.length) : ∀ ps : List Str, (∀ x ∈ ps, x ∈ nm) →
    ps.filterMap (fun x => ((nm.zip vals).lookup x).map (x, ·)) = ps.zip ((arOf ps nm).filterMap (fun i => vals[i]?)) ∧ (arOf ps nm).mapM (fun i => vals[i]?) = some ((arOf ps nm).filterMap (fun i => vals[i]?)) ∧ ((arOf ps nm).filterMap (fun i => vals[i]?)).length = ps.length
  | [], _ => ⟨rfl, rfl, rfl⟩
  | x :: ps, h => by
    obtain ⟨h1, h2, h3⟩ := fm_zip hl ps fun y m => h y (List.mem_cons_of_mem _ m)
    have hm := h x List.mem_cons_self
    have hi : nm.idxOf x < vals.length := by rw [hl]; exact List.idxOf_lt_length_iff.mpr hm
    have e : vals[nm.idxOf x]? = some vals[nm.idxOf x] := List.getElem?_eq_getElem hi
    have e1 : arOf (x :: ps) nm = nm.idxOf x :: arOf ps nm := rfl
    refine ⟨?_, ?_, ?_⟩
    · rw [List.filterMap_cons, look_zip hl hm, e, e1, List.filterMap_cons, e]
      simp only [Option.map_some, List.zip_cons_cons]
      rw [h1]
    · rw [e1, List.mapM_cons, e, h2, List.filterMap_cons, e]
      rfl
    · rw [e1, List.filterMap_cons, e]
      simp only [List.length_cons, h3]
theorem vals_fm {vs : List V} {us : List Value} (r : Vals vs us) : ∀ ar : List Nat, Vals (ar.filterMap fun i => vs[i]?) (ar.filterMap fun i => us[i]?)
  | [] => .nil
  | i :: ar => by
    rw [List.filterMap_cons, List.filterMap_cons]
    cases q : vs[i]? with
    | none =>
      have : us[i]? = none := by
        rw [List.getElem?_eq_none_iff] at q ⊢
        rw [← Paired.length r]; exact q
      rw [this]
      exact vals_fm r ar
    | some v =>
      obtain ⟨u, hu, rv⟩ := r.get q
      rw [hu]
      exact .cons rv (vals_fm r ar)
theorem zip_take {β : Type} : ∀ (ps : List Str) (us : List β), ps.zip us = (ps.take us.length).zip us
  | [], us => by simp
  | p :: ps, [] => by simp
  | p :: ps, u :: us => by
    show (p, u) :: ps.zip us = (p, u) :: (ps.take us.length).zip us
    rw [zip_take ps us]
section
variable {K : PySem.W.Frag} {fd : FuncData} {ps : List Str} {dvs : List V} {its : List Value}
/-- the defaults as they stand -/
def DflIs (K : PySem.W.Frag) (fd : FuncData) (its : List Value) : Prop := (its = [] ∧ fd.defaults = .none) ∨ ∃ T o n, fd.defaults = .ref T ∧ K.lookup T = some o ∧ o.data = .seq its.toArray n
structure PlainPs (fd : FuncData) (ps : List Str) : Prop where
  h1 : fd.params.posonlyargs = []
  h2 : fd.params.args.map (·.arg) = ps
  h3 : fd.params.kwonlyargs = []
  h4 : fd.params.vararg = none
  h5 : fd.params.kwarg = none
  nd : ps.Nodup
theorem kbn_gen {n : Nat} {ks : List Str} (hp : PlainPs fd ps) (hd : DflIs K fd its) (rd : Vals dvs its) (hk : ∀ k ∈ ks, k ∈ ps) (hnd : (ps.take n ++ ks).Nodup) (hn : n ≤ ps.length) (hm : its.length ≤ ps.length) (hall : ∀ x ∈ ps.take (ps.length - its.length), x ∈ ps.take n ++ ks) :
    KBn K fd ps n ks (fun us ws => (arOf ps (nmOf ps n ks its.length)).filterMap fun i => (us ++ ws ++ its)[i]?) (fun vs zs => (arOf ps (nmOf ps n ks its.length)).filterMap fun i => (vs ++ zs ++ dvs)[i]?) ∧
    ∀ vs zs : List V, vs.length = n → zs.length = ks.length → (arOf ps (nmOf ps n ks its.length)).mapM (fun i => (vs ++ zs ++ dvs)[i]?) = some ((arOf ps (nmOf ps n ks its.length)).filterMap fun i => (vs ++ zs ++ dvs)[i]?) := by
  have hlen : (ps.drop (ps.length - its.length)).length = its.length := by rw [List.length_drop]; omega
  have inn : ∀ x ∈ ps, x ∈ nmOf ps n ks its.length := fun x hx => by
    unfold nmOf
    rw [List.mem_append]
    rw [← List.take_append_drop (ps.length - its.length) ps, List.mem_append] at hx
    exact hx.imp (hall x) fun z => z
  refine ⟨⟨fun s us ws X l1 l2 => ?_, fun {vs us zs ws} r rz => vals_fm ((r.append rz).append rd) _⟩, fun vs zs l1 l2 => (fm_zip (by rw [nmOf_len hn hm, List.length_append, List.length_append, l1, l2, Paired.length rd]) ps inn).2.1⟩
  have e1 : (ps.zip us ++ ks.zip ws ++ (ps.drop (ps.length - its.length)).zip its) = (nmOf ps n ks its.length).zip (us ++ ws ++ its) := by
    unfold nmOf
    rw [zip_take, l1, List.zip_append (by simp [l1, l2, Nat.min_eq_left hn]), List.zip_append (by simp [l1, Nat.min_eq_left hn])]
  have b := binds_gen (s := s) (us := us) (kw := ks.zip ws) hp.h1 hp.h2 hp.h3 hp.h4 hp.h5 (by rw [map_zip l2]; exact hk) (by rw [map_zip l2, zip_take, map_zip (by simp [l1, Nat.min_eq_left hn]), l1]; exact hnd) X hd (by omega) hm (fun x hx => by
    have hmem := hall x hx
    have e2 : (ps.zip us ++ ks.zip ws) = (ps.take n ++ ks).zip (us ++ ws) := by rw [zip_take, l1, List.zip_append (by simp [l1, Nat.min_eq_left hn])]
    rw [e2, look_zip (by simp [l1, l2, Nat.min_eq_left hn]) hmem]
    have := List.idxOf_lt_length_iff.mpr hmem
    rw [List.getElem?_eq_getElem (by simp at this ⊢; omega)]
    rfl)
  rw [e1, (fm_zip (by rw [nmOf_len hn hm, List.length_append, List.length_append, l1, l2]) ps inn).1] at b
  exact b
theorem look_at {β : Type} : ∀ {ps : List Str} {us : List β} {j : Nat} {x : Str} {v : β}, ps.Nodup → ps[j]? = some x → us[j]? = some v → (ps.zip us).lookup x = some v
  | [], _, _, _, _, _, h, _ => by simp at h
  | _ :: _, [], _, _, _, _, _, h => by simp at h
  | p :: ps, u :: us, 0, x, v, nd, h1, h2 => by
    simp at h1 h2
    subst h1 h2
    simp [List.lookup]
  | p :: ps, u :: us, j + 1, x, v, nd, h1, h2 => by
    have h1 : ps[j]? = some x := by simpa using h1
    have h2 : us[j]? = some v := by simpa using h2
    have hne : x ≠ p := fun e => by
      subst e
      exact (List.nodup_cons.mp nd).1 (List.mem_of_getElem? h1)
    show ((p, u) :: ps.zip us).lookup x = some v
    rw [lookup_putG, if_neg hne]
    exact look_at (List.nodup_cons.mp nd).2 h1 h2
theorem fm_eq {β : Type} {A : List (Str × β)} : ∀ {ps : List Str} {vs : List β}, vs.length = ps.length → (∀ (j : Nat) x v, ps[j]? = some x → vs[j]? = some v → A.lookup x = some v) → ps.filterMap (fun x => (A.lookup x).map (x, ·)) = ps.zip vs
  | [], vs, _, _ => by simp
  | p :: ps, [], h, _ => by cases h
  | p :: ps, v :: vs, h, k => by
    rw [List.filterMap_cons, k 0 p v rfl rfl]
    show (p, v) :: ps.filterMap _ = (p, v) :: ps.zip vs
    rw [fm_eq (by simpa using h) fun j x w h1 h2 => k (j + 1) x w (by simpa using h1) (by simpa using h2)]
theorem not_take {ps : List Str} {n j : Nat} {x : Str} (nd : ps.Nodup) (h : ps[j]? = some x) (hj : n ≤ j) : x ∉ ps.take n := fun m => by
  obtain ⟨i, hi, e⟩ := List.getElem_of_mem m
  rw [List.length_take] at hi
  rw [List.getElem_take] at e
  obtain ⟨h1, h2⟩ := List.getElem?_eq_some_iff.mp h
  have := (List.getElem_inj nd).mp (e.trans h2.symm)
  omega
theorem bnd_gen (hp : PlainPs fd ps) (hd : DflIs K fd its) (hm : its.length ≤ ps.length) {n : Nat} (hn : n ≤ ps.length) (hn2 : ps.length ≤ n + its.length) : Binds K fd ps (its.drop (its.length - (ps.length - n))) := fun s us X hl => by
  have hl2 := hl
  rw [List.length_append, List.length_drop] at hl2
  have hu : us.length = n := by omega
  have b := binds_gen (s := s) (us := us) (kw := []) hp.h1 hp.h2 hp.h3 hp.h4 hp.h5 (fun k m => by cases m) (by
    rw [List.map_nil, List.append_nil, zip_take, map_zip (by rw [List.length_take]; omega)]
    exact hp.nd.sublist (List.take_sublist _ _)) X hd (by omega) hm (fun x hx => by
    rw [List.append_nil]
    obtain ⟨i, hi, e⟩ := List.getElem_of_mem hx
    rw [List.length_take] at hi
    rw [List.getElem_take] at e
    rw [look_at hp.nd (List.getElem?_eq_some_iff.mpr ⟨by omega, e⟩) (List.getElem?_eq_getElem (show i < us.length by omega))]
    rfl)
  rw [List.append_nil, fm_eq hl (fun j x v h1 h2 => ?_)] at b
  · exact b
  · rw [List.lookup_append]
    by_cases hj : j < us.length
    · rw [List.getElem?_append_left hj] at h2
      rw [look_at hp.nd h1 h2] <;> rfl
    · rw [List.getElem?_append_right (by omega), List.getElem?_drop] at h2
      have hno : (ps.zip us).lookup x = none := look_keys (by
        rw [zip_take, map_zip (by rw [List.length_take]; omega)]
        exact not_take hp.nd h1 (by omega))
      have hj2 := (List.getElem?_eq_some_iff.mp h1).1
      rw [hno, look_at (j := j - (ps.length - its.length)) (hp.nd.sublist (List.drop_sublist _ _)) (by rw [List.getElem?_drop, ← h1]; congr 1; omega) (by rw [← h2]; congr 1; omega)]
      rfl
end
end Ky
end
section
set_option Elab.async false
set_option linter.all false
set_option maxRecDepth 100000
set_option maxHeartbeats 2000000
/-! Ky, part Zp: one look (a Bool) at what the top has written, and what it says. -/
namespace Ky
open PySem PySem.Spec PyProof.Rows L2
/-- where a def or a class stands -/
inductive Pl where
  | glo (x : Str) | meth (c m : Str) | prop (c m : Str)
def plA (K : PySem.W.Frag) : Pl → Addr
  | .glo x => He.ga K x
  | .meth c m => He.ma K (He.ga K c) m
  | .prop c m => match PySem.W.recIn K (He.ma K (He.ga K c) m) "property" with
    | some (.ref g :: _) => g
    | _ => 0
/-- the tables of a program -/
structure Tb where
  pl : List (Str × Pl)
  fns : List (Str × Fn)
  cst : List (Str × D)
  prop : List (Str × Str × Str)
  meth : List (Str × Str × Str)
  ccon : List (Str × Str × D)
  eqm : List (Str × Str)
  dct : List (Str × List (Str × D))
  sub : List (Str × Str)
  cl : List Str
  gl : List Str
  bl : List Str
  flds : List (Str × List Str)
  exc : List (Str × List Str)
  kws : List (Str × Nat × List Str)
  xcl : List Str
  lf : Nat
def find3 {β : Type} : List (Str × Str × β) → Str → Str → Option β
  | [], _, _ => none
  | (a, b, v) :: r, x, y => if a = x ∧ b = y then some v else find3 r x y
theorem find3_mem {β : Type} : ∀ {l : List (Str × Str × β)} {x y : Str} {v : β}, find3 l x y = some v → (x, y, v) ∈ l
  | [], _, _, _, h => by cases h
  | (a, b, u) :: r, x, y, v, h => by
    unfold find3 at h
    split at h
    · rename_i e
      obtain ⟨rfl, rfl⟩ := e
      cases h
      exact List.mem_cons_self
    · exact List.mem_cons_of_mem _ (find3_mem h)
def Tb.G (T : Tb) : GT where
  cst := fun x => T.cst.lookup x
  prop := find3 T.prop
  meth := find3 T.meth
  ccon := find3 T.ccon
  eqm := fun x => T.eqm.lookup x
  dct := fun x => T.dct.lookup x
  sub := fun a b => T.sub.contains (a, b)
  cl := T.cl
  gl := T.gl
  bl := T.bl
  flds := fun c => (T.flds.lookup c).getD []
  exc := fun x => T.exc.lookup x
  kws := T.kws.map fun e => match T.fns.lookup e.1 with
    | some f => (e.1, e.2.1, e.2.2, arOf f.ps (nmOf f.ps e.2.1 e.2.2 f.dfl.length), f.dfl)
    | none => (e.1, e.2.1, e.2.2, [], [])
  xcl := T.xcl
  lf := T.lf
  hot := false
def Tb.fn (T : Tb) : Str → Option Fn := fun x => T.fns.lookup x
def Tb.adr (T : Tb) (K : PySem.W.Frag) (x : Str) : Addr := match T.pl.lookup x with | some p => plA K p | none => 0
/-! ### looks -/
section
variable (K : PySem.W.Frag) (adr : Str → Addr)
mutual
def rpB : D → Value → Bool
  | .non, u => (match u with | .none => true | _ => false)
  | .bl b, u => (match u with | .bool c => b == c | _ => false)
  | .int i, u => (match u with | .int j _ => decide (i = j) | _ => false)
  | .str x, u => (match u with | .str y _ => decide (x = y) | _ => false)
  | .tup xs, u => (match u with
    | .ref a => (match K.lookup a with
      | some ⟨.type c, _, .seq its _, _⟩ => decide (c = "tuple") && decide (its.size ≤ sizeLine) && rpLB xs its.toList
      | _ => false)
    | _ => false)
  | .fn q, u => (match u with | .ref a => decide (a = adr q) | _ => false)
  | .cls c, u => (match u with | .ref a => decide (a = adr c) | _ => false)
  | _, _ => false
def rpLB : List D → List Value → Bool
  | [], us => us.isEmpty
  | d :: ds, us => (match us with | u :: us => rpB d u && rpLB ds us | [] => false)
end
mutual
theorem rpB_ok : ∀ {d : D} {u : Value}, rpB K adr d u = true → ∃ v, RelV v u ∧ Rep K adr H0 d v
  | .non, u, h => by
    unfold rpB at h
    cases u <;> first | (cases h; done) | exact ⟨.non, rfl, rfl⟩
  | .bl b, u, h => by
    unfold rpB at h
    cases u <;> first | (cases h; done) | skip
    have := beq_iff_eq.mp h
    subst this
    exact ⟨.bl _, rfl, rfl⟩
  | .int i, u, h => by
    unfold rpB at h
    cases u <;> first | (cases h; done) | skip
    have := of_decide_eq_true h
    subst this
    exact ⟨.int _, ⟨_, rfl⟩, rfl⟩
  | .str x, u, h => by
    unfold rpB at h
    cases u <;> first | (cases h; done) | skip
    have := of_decide_eq_true h
    subst this
    exact ⟨.str _, ⟨_, rfl⟩, rfl⟩
  | .tup xs, u, h => by
    unfold rpB at h
    split at h
    · rename_i a
      split at h
      · rename_i c od its n sl q
        rw [Bool.and_eq_true, Bool.and_eq_true, decide_eq_true_eq, decide_eq_true_eq] at h
        obtain ⟨⟨h1, h2⟩, h3⟩ := h
        obtain ⟨vs, g1, g2⟩ := rpLB_ok h3
        exact ⟨.ref a, rfl, a, vs, rfl, .inr ⟨_, its, n, q, by rw [h1], rfl, h2, g1⟩, g2⟩
      · cases h
    · cases h
  | .fn q, u, h => by
    unfold rpB at h
    cases u <;> first | (cases h; done) | skip
    have := of_decide_eq_true h
    subst this
    exact ⟨.ref _, rfl, rfl⟩
  | .cls q, u, h => by
    unfold rpB at h
    cases u <;> first | (cases h; done) | skip
    have := of_decide_eq_true h
    subst this
    exact ⟨.ref _, rfl, rfl⟩
  | .lst _, _, h => by unfold rpB at h; cases h
  | .scr _, _, h => by unfold rpB at h; cases h
  | .ins _ _, _, h => by unfold rpB at h; cases h
theorem rpLB_ok : ∀ {ds : List D} {us : List Value}, rpLB K adr ds us = true → ∃ vs, Vals vs us ∧ RepL K adr H0 ds vs
  | [], us, h => by
    unfold rpLB at h
    cases us with
    | nil => exact ⟨[], .nil, rfl⟩
    | cons _ _ => cases h
  | d :: ds, us, h => by
    unfold rpLB at h
    cases us with
    | nil => cases h
    | cons u us =>
      obtain ⟨h1, h2⟩ := and3 h
      obtain ⟨v, r1, r2⟩ := rpB_ok h1
      obtain ⟨vs, r3, r4⟩ := rpLB_ok h2
      exact ⟨v :: vs, .cons r1 r3, v, vs, rfl, r2, r4⟩
end
def glB' (x : Str) (a : Addr) : Bool := decide (PySem.W.nsIn K mainGlobals x = some (some (.ref a)))
def noB (x : Str) : Bool := decide (PySem.W.nsIn K mainGlobals x = some none)
def cstB (x : Str) (d : D) : Bool := match PySem.W.nsIn K mainGlobals x with | some (some u) => rpB K adr d u | _ => false
def clsB (C : Addr) : Bool := PySem.W.plainGet K C Str.empty && PySem.W.hasDictIn K C && PySem.W.plainOver K C && decide (PySem.W.findIn K (.ref C) "__setattr__" = some (some (.builtin "object.__setattr__"))) &&
  decide (PySem.W.findIn K (.ref C) "__class__" = some (some (.builtin "object.__class__"))) && decide (PySem.W.mroIn K C (.type "object") = some true)
def ocB : Bool := decide (PySem.W.specialIn K (.builtin "object.__class__") "__get__" = some (some (.builtin "getset_descriptor.__get__"))) && decide (PySem.W.takesIn K (.builtin "object.__class__") = some true)
def mkB (C f : Addr) : Bool := PySem.W.makesIn K C && decide (PySem.W.findIn K (.ref C) "__init__" = some (some (.ref f))) && PySem.W.isFn K (.ref f) && PySem.W.keepIn K (.ref C)
def methB (C : Addr) (m : Str) (f : Addr) : Bool := decide (PySem.W.findIn K (.ref C) m = some (some (.ref f))) && PySem.W.isFn K (.ref f) && PySem.W.keepIn K (.ref f)
def propB (C : Addr) (f : Str) (g : Addr) : Bool := match PySem.W.findIn K (.ref C) f with
  | some (some (.ref p)) => decide (PySem.W.specialIn K (.ref p) "__get__" = some (some (.builtin "property.__get__"))) && decide (PySem.W.takesIn K (.ref p) = some true) && (match PySem.W.recIn K p "property" with | some (.ref g' :: _) => decide (g' = g) | _ => false)
  | _ => false
def mcOf (C : Addr) : Value := match K.lookup C with | some o => o.cls | none => .none
def cconB (C : Addr) (f : Str) (d : D) : Bool := PySem.W.readsIn K C (mcOf K C) && decide (PySem.W.specialIn K (.ref C) "__getattribute__" = some (some (.builtin "type.__getattribute__"))) &&
  (match PySem.W.findCls K (.ref C) (mcOf K C) f with | some (.val u) => rpB K adr d u | _ => false)
def excB (C : Addr) (fs : List Str) : Bool := xfB K C && fs.all (fun f => decide (PySem.W.findIn K (.ref C) f = some none)) && (PySem.W.clsIn K C).isSome && decide (PySem.W.findIn K (.ref C) "__class__" = some (some (.builtin "object.__class__"))) && decide (PySem.W.mroIn K C (.type "object") = some true)
end
end Ky
end
section
set_option Elab.async false
set_option linter.all false
set_option maxRecDepth 100000
set_option maxHeartbeats 2000000
/-! Ky, part Zq: one look at the whole program. -/
namespace Ky
open PySem PySem.Spec PyProof.Rows L2
section
variable (P : Program) (K : PySem.W.Frag) (T : Tb)
end
theorem paired_drop {vs : List V} {us : List Value} : Vals vs us → ∀ n, Vals (vs.drop n) (us.drop n)
  | .nil, n => by simp; exact .nil
  | .cons r rs, 0 => .cons r rs
  | .cons r rs, n + 1 => paired_drop rs n
section
variable (P : Program) (K : PySem.W.Frag) (T : Tb)
def psB (fd : FuncData) (ps : List Str) : Bool := fd.params.posonlyargs.isEmpty && decide (fd.params.args.map (·.arg) = ps) && fd.params.kwonlyargs.isEmpty && fd.params.vararg.isNone && fd.params.kwarg.isNone && decide ps.Nodup
theorem psB_ok {fd : FuncData} {ps : List Str} (h : psB fd ps = true) : PlainPs fd ps := by
  unfold psB at h
  obtain ⟨h, h6⟩ := and3 h
  obtain ⟨h, h5⟩ := and3 h
  obtain ⟨h, h4⟩ := and3 h
  obtain ⟨h, h3⟩ := and3 h
  obtain ⟨h1, h2⟩ := and3 h
  exact ⟨List.isEmpty_iff.mp h1, of_decide_eq_true h2, List.isEmpty_iff.mp h3, Option.isNone_iff_eq_none.mp h4, Option.isNone_iff_eq_none.mp h5, of_decide_eq_true h6⟩
def scB (N ps : List Str) (sc : Scope) : Bool := (match sc.kind with | .function => true | _ => false) && !sc.isCoroutine && !sc.isGenerator && decide N.Nodup && decide (N.take ps.length = ps) &&
  ps.all (fun x => sc.names.lookup x == some NameKind.local || sc.names.lookup x == some NameKind.cell) && sc.names.all (fun y => !(y.2 == NameKind.free))
theorem scB_ok {N ps : List Str} {sc : Scope} (h : scB N ps sc = true) : FnScope N ps sc := by
  unfold scB at h
  obtain ⟨h, h7⟩ := and3 h
  obtain ⟨h, h6⟩ := and3 h
  obtain ⟨h, h5⟩ := and3 h
  obtain ⟨h, h4⟩ := and3 h
  obtain ⟨h, h3⟩ := and3 h
  obtain ⟨h1, h2⟩ := and3 h
  refine ⟨?_, by simpa using h2, by simpa using h3, of_decide_eq_true h4, of_decide_eq_true h5, fun x hx => ?_, fun y hy => ?_⟩
  · split at h1
    · assumption
    · cases h1
  · have := List.all_eq_true.mp h6 x hx
    simpa using this
  · have := List.all_eq_true.mp h7 y hy
    simpa using this
def dfB (adr : Str → Addr) (fd : FuncData) (f : Fn) : Bool := decide (f.dfl.length ≤ f.ps.length) && (match fd.defaults with
  | .none => f.dfl.isEmpty
  | .ref a => !f.dfl.isEmpty && (match K.lookup a with | some ⟨_, _, .seq its _, _⟩ => rpLB K adr f.dfl its.toList | _ => false)
  | _ => false)
theorem dfB_ok {adr : Str → Addr} {fd : FuncData} {f : Fn} (h : dfB K adr fd f = true) : f.dfl.length ≤ f.ps.length ∧ (f.dfl = [] → fd.defaults = .none) ∧ ∃ its dvs, DflIs K fd its ∧ Vals dvs its ∧ RepL K adr H0 f.dfl dvs := by
  unfold dfB at h
  obtain ⟨h1, h2⟩ := and3 h
  refine ⟨of_decide_eq_true h1, ?_⟩
  split at h2
  · rename_i e
    refine ⟨fun _ => e, [], [], .inl ⟨rfl, e⟩, .nil, ?_⟩
    rw [List.isEmpty_iff.mp h2] <;> rfl
  · rename_i a e
    obtain ⟨h0, h2⟩ := and3 h2
    refine ⟨fun z => (by rw [z] at h0; cases h0), ?_⟩
    split at h2
    · rename_i c od its n sl q
      obtain ⟨vs, g1, g2⟩ := rpLB_ok K adr h2
      exact ⟨its.toList, vs, .inr ⟨a, _, n, e, q, by simp⟩, g1, g2⟩
    · cases h2
  · cases h2
def fdOf (q : Str) : FuncData := match K.lookup (T.adr K q) with
  | some ⟨_, _, .func fd, _⟩ => fd
  | _ => default
def defB (q : Str) (f : Fn) : Bool := match K.lookup (T.adr K q) with
  | some ⟨_, _, .func fd, _⟩ => PySem.W.keepIn K (.ref (T.adr K q)) && PySem.W.codeIn K fd.code fd.qualname && decide (fd.globals = mainGlobals) && fd.closure.isEmpty && decide (fd.builtins = builtinsNs) &&
    psB fd f.ps && scB f.N f.ps fd.scope && dfB K (T.adr K) fd f && (match fd.body with | .stmts b => mSs T.G f.body (cfOf f.N fd.scope) b | _ => false)
  | _ => false
theorem defB_ok {P : Program} {w : World} {mg : Str → Option Value} {base : Heap} {q : Str} {f : Fn} (hR : RaiOk P K mg (T.adr K) T.G) (h : defB K T q f = true) : DefAt P w K mg base (T.adr K) T.G T.fn q f (fdOf K T q) := by
  unfold defB at h
  have hfd : fdOf K T q = fdOf K T q := rfl
  unfold fdOf at hfd ⊢
  split at h
  · rename_i oc od fd osl lk
    obtain ⟨h, h9⟩ := and3 h
    obtain ⟨h, h8⟩ := and3 h
    obtain ⟨h, h7⟩ := and3 h
    obtain ⟨h, h6⟩ := and3 h
    obtain ⟨h, h5⟩ := and3 h
    obtain ⟨h, h4⟩ := and3 h
    obtain ⟨h, h3⟩ := and3 h
    obtain ⟨h1, h2⟩ := and3 h
    have k3 := of_decide_eq_true h3
    have k4 := List.isEmpty_iff.mp h4
    have k5 := of_decide_eq_true h5
    clear h3 h4 h5
    obtain ⟨g1, _, its, dvs, g2, g3, g4⟩ := dfB_ok K h8
    have hp := psB_ok h6
    refine ⟨?_, fun n l1 l2 => ?_, h1⟩
    · split at h9
      · rename_i b eb
        rw [lk]
        obtain ⟨n1, n2, n3, n4, n5, n6, n7, n8, n9, n10, n11, n12, n13, n14, n15⟩ := fd
        dsimp only at k3 k4 k5 eb
        subst k3 k4 k5 eb
        exact ⟨n1, n2, n3, b, n5, n8, n9, n10, n11, n13, n14, oc, n12, od, osl, rfl, rfl, h2, scB_ok h7, fun n lv hf h W X hX => mSs_ok f.body hf hR hX h9⟩
      · cases h9
    · have e1 : its.length = f.dfl.length := by rw [← Paired.length g3, g4.length]
      refine ⟨its.drop (its.length - (f.ps.length - n)), dvs.drop (its.length - (f.ps.length - n)), bnd_gen hp g2 (by rw [e1]; exact g1) l1 (by rw [e1]; exact l2), ?_, ?_⟩
      · exact paired_drop g3 _
      · unfold fillD
        rw [← e1]
        exact RepL.drop _ g4
  · cases h
/-! errors -/
def oexB (C : Addr) : Bool := (match K.lookup C with
  | some ⟨.type t, _, .cls cd, sl⟩ => (match cd.mro, sl.toList with
    | .ref C' :: bm, [_, _, _, _, some (.builtin n), _] => decide (t = "type") && decide (C' = C) && decide (n = "ValueError.__new__") && !cd.hasDel && cd.hasDict && PySem.HandSPX.refsVE bm
    | _, _ => false)
  | _ => false) && decide (PySem.W.findIn K (.ref C) "__setattr__" = some (some (.builtin "object.__setattr__"))) && decide (PySem.W.subIn K (.ref C) (.type "BaseException") = some true) && decide (PySem.W.typeIn K (.ref C) = some (.type "type")) && PySem.W.keepIn K (.ref C)
theorem oexB_ok {C : Addr} (h : oexB K C = true) : OexC K C := by
  unfold oexB at h
  obtain ⟨h, h5⟩ := and3 h
  obtain ⟨h, h4⟩ := and3 h
  obtain ⟨h, h3⟩ := and3 h
  obtain ⟨h1, h2⟩ := and3 h
  refine ⟨?_, of_decide_eq_true h2, of_decide_eq_true h3, of_decide_eq_true h4, h5⟩
  split at h1
  · rename_i t dd cd sl ho
    split at h1
    · rename_i C' bm k0 k1 k2 k3 n k5 hm hs
      obtain ⟨h1, g6⟩ := and3 h1
      obtain ⟨h1, g5⟩ := and3 h1
      obtain ⟨h1, g4⟩ := and3 h1
      obtain ⟨h1, g3⟩ := and3 h1
      obtain ⟨g1, g2⟩ := and3 h1
      have j1 := of_decide_eq_true g1
      have j2 := of_decide_eq_true g2
      have j3 := of_decide_eq_true g3
      have j4 : cd.hasDel = false := by simpa using g4
      clear g1 g2 g3 g4
      obtain ⟨nm, bs, mro, ns, qn, hd, sn, sb, ab, col, del⟩ := cd
      dsimp only at hm j4 g5
      subst hm j1 j2 j3 j4 g5
      have e : sl = #[k0, k1, k2, k3, some (.builtin "ValueError.__new__"), k5] := by
        rw [← Array.toArray_toList (xs := sl), hs]
      subst e
      exact ⟨nm, qn, ns, bs, bm, sn, sb, ab, col, dd, k0, k1, k2, k3, k5, ho, g6⟩
    · cases h1
  · cases h1
/-- the __init__ of an error -/
def xiB (C fI : Addr) (fs : List Str) : Bool := match K.lookup fI with
  | some ⟨_, _, .func fd, _⟩ => (match fd.code, fd.closure, fd.body with
    | .ref cda, [(cn, cc)], .stmts body => decide (cn = "__class__") && decide (fd.globals = mainGlobals) && decide (fd.builtins = builtinsNs) && PySem.W.codeIn K (.ref cda) fd.qualname && initB fs body && initSc fs fd.scope && psB fd ("self" :: fs) && (match fd.defaults with | .none => true | _ => false) &&
      (match K.lookup cda with | some ⟨_, _, .fields vs, _⟩ => (match (vs[2]? : Option Value) with | some (.str file _) => ((P.main.file : Str) == file) | _ => false) | _ => false) &&
      (match K.lookup cc with | some ⟨_, _, .cell (some (.ref D)), _⟩ => decide (D = C) | _ => false)
    | _, _, _ => false)
  | _ => false
def xinB (C : Addr) (fs : List Str) : Bool := oexB K C && (match PySem.W.findIn K (.ref C) "__init__" with
  | some (some (.ref fI)) => decide (PySem.W.typeIn K (.ref fI) = some (.type "function")) && xiB P K C fI fs
  | _ => false) && !(P.main.scope.names.lookup ("super" : Str)).isSome && noB K "super" && decide (PySem.W.subIn K (.ref C) (.type "ValueError") = some true) && decide (PySem.W.mroIn K C (.ref C) = some true) &&
  decide (PySem.W.ks_superIn K C C "__init__" = some (some (.builtin "ValueError.__init__"))) && decide (PySem.W.nsIn K cStatics "thirdparty.any" = some none) && fs.all (fun f => decide (PySem.W.findIn K (.ref C) f = some none)) && decide (("self" : Str) :: fs).Nodup && decide (fs.length ≤ 900)
end
theorem map_fst_zip' {ks : List Str} {us : List Value} (h : us.length = ks.length) : (ks.zip us).map (·.1) = ks := map_zip h
theorem bind_all {fd : FuncData} {ps : List Str} (hp : PlainPs fd ps) (hd : fd.defaults = .none) (us : List Value) (hl : us.length = ps.length) : bindArgs fd ⟨us, []⟩ = pure (ps.zip us) := by
  obtain ⟨k, e1, e2⟩ := bind_k (us := us) (kw := []) hp.h1 hp.h2 hp.h3 hp.h4 hp.h5 (fun k m => by cases m) (by rw [List.map_nil, List.append_nil, map_zip hl]; exact hp.nd)
  have hall : ∀ n ∈ ps.take (ps.length - ([] : List Value).length), ((ps.zip us ++ []).lookup n).isSome = true := fun n hn => by
    rw [List.append_nil]
    obtain ⟨v, hv⟩ := lk_zip (us := us) (List.mem_of_mem_take hn) hl
    rw [hv] <;> rfl
  rw [e1, hd, seq_none, pure_bind, e2 none [] rfl (by omega) (by simp) hall]
  congr 1
  rw [List.append_nil]
  have e3 : ps.zip us ++ (ps.drop (ps.length - ([] : List Value).length)).zip [] = ps.zip us := by simp
  rw [e3]
  exact fm_eq hl fun j x v h1 h2 => look_at hp.nd h1 h2
section
variable {P : Program} {K : PySem.W.Frag} {mg : Str → Option Value} {h : Heap}
theorem xinB_ok (X : K.In h) (N : h.Ns mainGlobals mg) {C : Addr} {fs : List Str} (q : xinB P K C fs = true) : XInit P K mg C fs := by
  unfold xinB at q
  obtain ⟨q, q11⟩ := and3 q
  obtain ⟨q, q10⟩ := and3 q
  obtain ⟨q, q9⟩ := and3 q
  obtain ⟨q, q8⟩ := and3 q
  obtain ⟨q, q7⟩ := and3 q
  obtain ⟨q, q6⟩ := and3 q
  obtain ⟨q, q5⟩ := and3 q
  obtain ⟨q, q4⟩ := and3 q
  obtain ⟨q, q3⟩ := and3 q
  obtain ⟨q1, q2⟩ := and3 q
  refine ⟨oexB_ok K q1, ?_, by simpa using q3, PySem.W.mg_none_of X N (of_decide_eq_true q4), of_decide_eq_true q5, of_decide_eq_true q6, of_decide_eq_true q7, of_decide_eq_true q8, fun f hf => of_decide_eq_true (List.all_eq_true.mp q9 f hf), of_decide_eq_true q10, of_decide_eq_true q11⟩
  split at q2
  · rename_i fI e1
    obtain ⟨g1, g2⟩ := and3 q2
    unfold xiB at g2
    split at g2
    · rename_i oc od fd osl lk
      split at g2
      · rename_i cda cn cc body k1 k2 k3
        obtain ⟨g2, m10⟩ := and3 g2
        obtain ⟨g2, m9⟩ := and3 g2
        obtain ⟨g2, m8⟩ := and3 g2
        obtain ⟨g2, m7⟩ := and3 g2
        obtain ⟨g2, m6⟩ := and3 g2
        obtain ⟨g2, m5⟩ := and3 g2
        obtain ⟨g2, m4⟩ := and3 g2
        obtain ⟨g2, m3⟩ := and3 g2
        obtain ⟨m1, m2⟩ := and3 g2
        have hp := psB_ok m7
        have hd : fd.defaults = .none := by
          split at m8
          · assumption
          · cases m8
        have hb := bind_all hp hd
        have l1 := of_decide_eq_true m1
        have l2 := of_decide_eq_true m2
        have l3 := of_decide_eq_true m3
        clear m1 m2 m3 m8 g2 q q2
        have ha : ∃ a0, (fd.params.posonlyargs ++ fd.params.args).head? = some a0 ∧ a0.arg = "self" := by
          have e := hp.h2
          rw [hp.h1, List.nil_append]
          cases ea : fd.params.args with
          | nil => rw [ea] at e; cases e
          | cons a r =>
            rw [ea] at e
            exact ⟨a, rfl, (List.cons.inj e).1⟩
        obtain ⟨a0, ha1, ha2⟩ := ha
        split at m9
        · rename_i ccl cdd vs ccs lc
          split at m9
          · rename_i file tf hvs
            split at m10
            · rename_i cl cld D csl lcc
              have m10 := of_decide_eq_true m10
              obtain ⟨n1, n2, n3, n4, n5, n6, n7, n8, n9, n10, n11, n12, n13, n14, n15⟩ := fd
              dsimp only at l1 l2 l3 hd k1 k2 k3 hp m4 m6 hb ha1
              subst l1 l2 l3 k1 k2 k3 m10
              exact ⟨fI, cc, cda, n1, n2, file, tf, n3, body, n5, n8, n9, n10, n11, n14, oc, ccl, cl, n12, od, cdd, cld, osl, ccs, csl, vs, a0, e1, of_decide_eq_true g1, lk, m4, lc, hvs, m9, lcc, m5, m6, ha1, ha2, fun us hl => hb us (by simpa using hl)⟩
            · cases m10
          · cases m9
        · cases m9
      · cases g2
    · cases g2
  · cases q2
end
end Ky
end
section
set_option Elab.async false
set_option linter.all false
set_option maxRecDepth 100000
set_option maxHeartbeats 4000000
/-! Ky, part Zr: the whole look, what it says, the law's end. -/
namespace Ky
open PySem PySem.Spec PyProof.Rows L2
section
variable (P : Program) (K : PySem.W.Frag) (T : Tb)
def kwB (e : Str × Nat × List Str) : Bool := match T.fns.lookup e.1 with
  | some f => e.2.2.all (fun k => f.ps.contains k) && decide (f.ps.take e.2.1 ++ e.2.2).Nodup && decide (e.2.1 ≤ f.ps.length) && (f.ps.take (f.ps.length - f.dfl.length)).all (fun x => (f.ps.take e.2.1 ++ e.2.2).contains x) && decide (arOf f.ps (nmOf f.ps e.2.1 e.2.2 f.dfl.length)).Nodup
  | none => false
def facB : Bool := ocB K &&
  T.cl.all (fun c => clsB K (T.adr K c) && glB' K c (T.adr K c) && mkB K (T.adr K c) (T.adr K (c ++ ".__init__")) && T.cl.all (fun c' => decide (PySem.W.kitOne K (.ref (T.adr K c)) (.ref (T.adr K c')) = some (T.G.sub c c'))) && sixTy.all (fun a => decide (PySem.W.kitOne K (.type a) (.ref (T.adr K c)) = some false)) && okTy.all (fun b => decide (PySem.W.kitOne K (.ref (T.adr K c)) (.type b) = some false))) &&
  T.gl.all (fun q => glB' K q (T.adr K q) && PySem.W.keepIn K (.ref (T.adr K q))) && T.bl.all (noB K) && T.cst.all (fun p => cstB K (T.adr K) p.1 p.2) &&
  T.meth.all (fun p => T.cl.contains p.1 && methB K (T.adr K p.1) p.2.1 (T.adr K p.2.2)) && T.prop.all (fun p => T.cl.contains p.1 && propB K (T.adr K p.1) p.2.1 (T.adr K p.2.2)) &&
  T.ccon.all (fun p => glB' K p.1 (T.adr K p.1) && cconB K (T.adr K) (T.adr K p.1) p.2.1 p.2.2) && T.flds.all (fun p => T.cl.contains p.1 && p.2.all (fun f => decide (PySem.W.findIn K (.ref (T.adr K p.1)) f = some none))) &&
  T.exc.all (fun p => excB K (T.adr K p.1) p.2 && glB' K p.1 (T.adr K p.1) && xinB P K (T.adr K p.1) p.2 && T.xcl.all (fun c' => decide (PySem.W.kitOne K (.ref (T.adr K p.1)) (.ref (T.adr K c')) = some (T.G.sub p.1 c')) && decide (PySem.W.exmOne K (.ref (T.adr K p.1)) (.ref (T.adr K c')) = some (T.G.sub p.1 c')))) &&
  T.xcl.all (fun c => glB' K c (T.adr K c)) &&
  T.eqm.all (fun p => T.cl.contains p.1 && (match T.fns.lookup p.2 with | some f => decide (f.ps.length = 2) | none => false) && decide (PySem.W.findIn K (.ref (T.adr K p.1)) "__eq__" = some (some (.ref (T.adr K p.2)))) && PySem.W.isFn K (.ref (T.adr K p.2))) &&
  T.dct.all (fun p => p.2.all (fun z => match PySem.W.nsIn K (He.ga K p.1) z.1 with | some (some u) => rpB K (T.adr K) z.2 u | _ => false) && glB' K p.1 (He.ga K p.1)) && T.kws.all (kwB T)
def progB : Bool := facB P K T && T.fns.all (fun p => defB K T p.1 p.2)
abbrev Al : Type := Bool × List (Option (List (Option (Str × Int))))
def look : Al := (progB P K T, T.dct.map fun p => He.dicW K (He.ga K p.1))
def looks (w : World) : Al := (true, T.dct.map fun p => some (He.keysIn w.params (p.2.map (·.1))))
end
theorem lookup_mem {β : Type} {l : List (Str × β)} {x : Str} {v : β} (h : l.lookup x = some v) : (x, v) ∈ l := PySem.mem_of_lookup h
section
variable {P : Program} {w : World} {K : PySem.W.Frag} {mg : Str → Option Value} {base h : Heap} {T : Tb}
theorem raiOk (X : K.In h) (N : h.Ns mainGlobals mg) (c : facB P K T = true) : RaiOk P K mg (T.adr K) T.G := fun x fs e => by
  unfold facB at c
  simp only [Bool.and_eq_true, List.all_eq_true] at c
  obtain ⟨⟨⟨⟨⟨⟨⟨⟨⟨⟨⟨⟨⟨c1, c2⟩, c3⟩, c4⟩, c5⟩, c6⟩, c7⟩, c8⟩, c9⟩, c10⟩, c11⟩, c12⟩, c13⟩, c14⟩ := c
  obtain ⟨⟨⟨g1, g2⟩, g3⟩, g4⟩ := c10 _ (lookup_mem e)
  exact ⟨PySem.W.mg_of X N (of_decide_eq_true g2), xinB_ok X N g3⟩
theorem stat_ok (X : K.In h) (N : h.Ns mainGlobals mg) (c : look P K T = looks T w) : Stat w K mg (T.adr K) T.G T.fn := by
  have cd := congrArg (fun z : Al => z.2) c
  have c := congrArg (fun z : Al => z.1) c
  have c : progB P K T = true := c
  unfold progB at c
  have c := (and3 c).1
  unfold facB at c
  simp only [Bool.and_eq_true, List.all_eq_true] at c
  obtain ⟨⟨⟨⟨⟨⟨⟨⟨⟨⟨⟨⟨⟨c1, c2⟩, c3⟩, c4⟩, c5⟩, c6⟩, c7⟩, c8⟩, c9⟩, c10⟩, c11⟩, c12⟩, c13⟩, c14⟩ := c
  unfold ocB at c1
  obtain ⟨o1, o2⟩ := and3 c1
  refine ⟨⟨fun k m => ?_, fun k m k' m' => ?_, fun a ma k m => ?_, fun k m b mb => ?_⟩, fun q m => ?_, fun x m => ?_, fun x d e => ?_, fun k m => ?_, fun k m q e => ?_, fun k f q e => ?_, fun k f d e => ?_, fun k f m => ?_, fun k fs e => ?_, fun k fs k' e m => ?_, fun k m => ?_, fun k fs k' e m => ?_, fun x kvs e => ?_, fun k q e => ?_⟩
  · obtain ⟨⟨⟨⟨⟨g1, g2⟩, g3⟩, g4⟩, g5⟩, g6⟩ := c2 k m
    unfold clsB at g1
    simp only [Bool.and_eq_true, decide_eq_true_eq] at g1
    obtain ⟨⟨⟨⟨⟨z1, z2⟩, z3⟩, z4⟩, z5⟩, z6⟩ := g1
    exact ⟨⟨z1, z2, z3, z4⟩, z5, of_decide_eq_true o1, of_decide_eq_true o2, z6⟩
  · obtain ⟨⟨⟨⟨⟨g1, g2⟩, g3⟩, g4⟩, g5⟩, g6⟩ := c2 k m
    exact of_decide_eq_true (g4 k' m')
  · obtain ⟨⟨⟨⟨⟨g1, g2⟩, g3⟩, g4⟩, g5⟩, g6⟩ := c2 k m
    exact of_decide_eq_true (g5 a ma)
  · obtain ⟨⟨⟨⟨⟨g1, g2⟩, g3⟩, g4⟩, g5⟩, g6⟩ := c2 k m
    exact of_decide_eq_true (g6 b mb)
  · obtain ⟨g1, g2⟩ := c3 q m
    exact ⟨PySem.W.mg_of X N (of_decide_eq_true g1), g2⟩
  · exact PySem.W.mg_none_of X N (of_decide_eq_true (c4 x m))
  · have g := c5 _ (lookup_mem e)
    unfold cstB at g
    split at g
    · rename_i u q
      obtain ⟨v, r1, r2⟩ := rpB_ok K (T.adr K) g
      exact ⟨v, u, PySem.W.mg_of X N q, r1, r2⟩
    · cases g
  · obtain ⟨⟨⟨⟨⟨g1, g2⟩, g3⟩, g4⟩, g5⟩, g6⟩ := c2 k m
    unfold mkB at g3
    simp only [Bool.and_eq_true, decide_eq_true_eq] at g3
    obtain ⟨⟨⟨z1, z2⟩, z3⟩, z4⟩ := g3
    exact ⟨PySem.W.mg_of X N (of_decide_eq_true g2), z1, z2, z3, z4⟩
  · obtain ⟨g1, g2⟩ := c6 _ (find3_mem e)
    unfold methB at g2
    simp only [Bool.and_eq_true, decide_eq_true_eq] at g2
    obtain ⟨⟨z1, z2⟩, z3⟩ := g2
    exact ⟨List.contains_iff_mem.mp g1, z1, z2, z3⟩
  · obtain ⟨g1, g2⟩ := c7 _ (find3_mem e)
    refine ⟨List.contains_iff_mem.mp g1, ?_⟩
    unfold propB at g2
    split at g2
    · rename_i p q1
      simp only [Bool.and_eq_true, decide_eq_true_eq] at g2
      obtain ⟨⟨z1, z2⟩, z3⟩ := g2
      split at z3
      · rename_i g' r q2
        have := of_decide_eq_true z3
        subst this
        exact ⟨p, q1, z1, z2, r, q2⟩
      · cases z3
    · cases g2
  · obtain ⟨g1, g2⟩ := c8 _ (find3_mem e)
    refine ⟨PySem.W.mg_of X N (of_decide_eq_true g1), ?_⟩
    unfold cconB at g2
    simp only [Bool.and_eq_true, decide_eq_true_eq] at g2
    obtain ⟨⟨z1, z2⟩, z3⟩ := g2
    split at z3
    · rename_i u q
      obtain ⟨v, r1, r2⟩ := rpB_ok K (T.adr K) z3
      exact ⟨_, v, u, ⟨z1, z2⟩, ⟨q, r1⟩, r2⟩
    · cases z3
  · have m : f ∈ (T.flds.lookup k).getD [] := m
    cases e : T.flds.lookup k with
    | none => rw [e] at m; cases m
    | some fl =>
      rw [e] at m
      obtain ⟨g1, g2⟩ := c9 _ (lookup_mem e)
      have z := of_decide_eq_true (g2 f m)
      exact ⟨List.contains_iff_mem.mp g1, z⟩
  · obtain ⟨⟨⟨g1, g2⟩, g3⟩, g4⟩ := c10 _ (lookup_mem e)
    unfold excB at g1
    simp only [Bool.and_eq_true, decide_eq_true_eq, List.all_eq_true] at g1
    obtain ⟨⟨⟨⟨z1, z2⟩, z3⟩, z4⟩, z5⟩ := g1
    exact ⟨xfB_ok z1, z2, z3, z4, of_decide_eq_true o1, of_decide_eq_true o2, z5⟩
  · obtain ⟨⟨⟨g1, g2⟩, g3⟩, g4⟩ := c10 _ (lookup_mem e)
    exact of_decide_eq_true (g4 k' m).1
  · exact PySem.W.mg_of X N (of_decide_eq_true (c11 k m))
  · obtain ⟨⟨⟨g1, g2⟩, g3⟩, g4⟩ := c10 _ (lookup_mem e)
    exact of_decide_eq_true (g4 k' m).2
  · obtain ⟨g1, g2⟩ := c13 _ (lookup_mem e)
    refine ⟨He.ga K x, PySem.W.mg_of X N (of_decide_eq_true g2), fun z d ez => ?_⟩
    have hd : He.dicW K (He.ga K x) = some (He.keysIn w.params (kvs.map (·.1))) := by
      have e2 : T.dct.map (fun p => He.dicW K (He.ga K p.1)) = T.dct.map fun p => some (He.keysIn w.params (p.2.map (·.1))) := cd
      obtain ⟨i, hi, ei⟩ := List.getElem_of_mem (lookup_mem e)
      have e3 := congrArg (fun l => l[i]?) e2
      simp only [List.getElem?_map, List.getElem?_eq_getElem hi, ei, Option.map_some, Option.some.injEq] at e3
      exact e3
    obtain ⟨es, n, kd⟩ := He.dicW_ok hd
    have g3 := g1 _ (lookup_mem ez)
    split at g3
    · rename_i u q
      obtain ⟨v, r1, r2⟩ := rpB_ok K (T.adr K) g3
      exact ⟨v, ⟨es, n, u, kd.at_, kd.lit, q, r1⟩, r2⟩
    · cases g3
  · obtain ⟨⟨⟨g1, g2⟩, g3⟩, g4⟩ := c12 _ (lookup_mem e)
    refine ⟨List.contains_iff_mem.mp g1, ?_, of_decide_eq_true g3, g4⟩
    split at g2
    · rename_i f q2
      exact ⟨f, q2, of_decide_eq_true g2⟩
    · cases g2
theorem defs_ok (X : K.In h) (N : h.Ns mainGlobals mg) (c : look P K T = looks T w) (q : Str) (f : Fn) (e : T.fn q = some f) : DefAt P w K mg base (T.adr K) T.G T.fn q f (fdOf K T q) ∧ defB K T q f = true := by
  have c := congrArg (fun z : Al => z.1) c
  have c : progB P K T = true := c
  unfold progB at c
  obtain ⟨c1, c2⟩ := and3 c
  have := List.all_eq_true.mp c2 _ (lookup_mem e)
  exact ⟨defB_ok K T (raiOk X N c1) this, this⟩
theorem def_parts {q : Str} {f : Fn} (c : defB K T q f = true) : PlainPs (fdOf K T q) f.ps ∧ f.dfl.length ≤ f.ps.length ∧ (f.dfl = [] → (fdOf K T q).defaults = .none) ∧ ∃ its dvs, DflIs K (fdOf K T q) its ∧ Vals dvs its ∧ RepL K (T.adr K) H0 f.dfl dvs := by
  unfold defB at c
  unfold fdOf
  split at c
  · rename_i oc od fd osl lk
    simp only [Bool.and_eq_true] at c
    obtain ⟨⟨⟨⟨⟨⟨⟨⟨h1, h2⟩, h3⟩, h4⟩, h5⟩, h6⟩, h7⟩, h8⟩, h9⟩ := c
    exact ⟨psB_ok h6, dfB_ok K h8⟩
  · cases c
theorem kws_ok (X : K.In h) (N : h.Ns mainGlobals mg) (c : look P K T = looks T w) : ∀ e ∈ T.G.kws, ∃ f, T.fn e.1 = some f ∧ KwOk K (T.adr K) f (fdOf K T e.1) e.2.1 e.2.2.1 e.2.2.2.1 e.2.2.2.2 := fun e m => by
  have c0 := c
  have c := congrArg (fun z : Al => z.1) c
  have c : progB P K T = true := c
  unfold progB at c
  have c1 := (and3 c).1
  unfold facB at c1
  have c14 := (and3 c1).2
  obtain ⟨e0, m0, rfl⟩ := List.mem_map.mp m
  have k := List.all_eq_true.mp c14 e0 m0
  unfold kwB at k
  cases q : T.fns.lookup e0.1 with
  | none => rw [q] at k; cases k
  | some f =>
    rw [q] at k
    simp only [Bool.and_eq_true, List.all_eq_true, decide_eq_true_eq] at k
    obtain ⟨⟨⟨⟨k1, k2⟩, k3⟩, k4⟩, k5⟩ := k
    obtain ⟨_, db⟩ := defs_ok (base := h) X N c0 e0.1 f q
    obtain ⟨p1, p2, _, its, dvs, p3, p4, p5⟩ := def_parts db
    have el : its.length = f.dfl.length := by rw [← Paired.length p4, p5.length]
    obtain ⟨b1, b2⟩ := kbn_gen (n := e0.2.1) (ks := e0.2.2) p1 p3 p4 (fun k hk => List.contains_iff_mem.mp (k1 k hk)) k2 k3 (by rw [el]; exact p2) (fun x hx => List.contains_iff_mem.mp (k4 x (by rw [← el]; exact hx)))
    rw [el] at b1 b2
    exact ⟨f, q, _, _, dvs, b1, p5, k5, by unfold arOf; simp, b2⟩
/-- the law's def at the script -/
theorem law_sp {adr : Str → Addr} {G : GT} {fn : Str → Option Fn} {n : Nat} {f : Fn} (hf : fn "law" = some f) (hp : f.ps.length = 1) (ns : List Int) (hc : callF G fn n false "law" [.v (.scr ns)] = .ok (.v (.bl true)) []) {H : Hp} {a : Addr} (hS : SqL K H a (ns.map V.int)) :
    spC K adr (callF G fn n false) "law" f [.ref a] H (fun v _ => v = .bl true) fun _ _ _ => False := by
  refine ⟨by rw [hp]; rfl, [.v (.scr ns)], [.ref a], [], H0, H, rfl, rfl, ?_, ?_, ?_⟩
  · unfold fillD
    rw [hp]
    show RepL K adr H0 (f.dfl.drop (f.dfl.length - 0)) []
    rw [Nat.sub_zero, List.drop_length]
    rfl
  · refine ⟨fun b o z => (by cases z), fun b o z => z, fun b o z => (by cases z), fun i s z => ?_, fun t m => (by cases m), fun i j b n q => ?_, fun i b q z => (by cases z), List.Pairwise.nil⟩
    · cases i with
      | zero => cases z; exact ⟨_, rfl, a, rfl, hS⟩
      | succ i => simp at z
    · obtain ⟨⟨s, q1, q2⟩, q3⟩ := q
      cases i with
      | zero => cases q1; cases q2
      | succ i => simp at q1
  · rw [hc]
    intro _ v H' F' sf g
    exact g.tm _ List.mem_cons_self
theorem roomOk : Room 60 callerA := ⟨rfl, by decide, by decide⟩
end
/-- what is reached from the module's names -/
def asK (g : Addr → Option Obj) : Nat → List Addr
  | 0 => [mainGlobals, cStatics]
  | n + 1 => He.growD g (asK g n)
def obsK (P : Program) (T : Tb) (n : Nat) (g : Addr → Option Obj) : Al := look P (He.frG g (asK g n)) T
def hookK (P : Program) (T : Tb) (n : Nat) : PySem.W.Hook where
  α := Al
  obs := fun s => obsK P T n s.heap.get?
  val := fun w => looks T w
  says := fun w h => ∃ K : PySem.W.Frag, K.In h ∧ look P K T = looks T w
  of := fun _ _ e => ⟨_, He.frG_in, e⟩
  keeps := fun _ _ _ ⟨K, hK, c⟩ k => ⟨K, PySem.W.Frag.In.keeps hK k, c⟩
theorem obsK_eq {P : Program} {T : Tb} {n : Nat} {g : Addr → Option Obj} {s : Shared} (h : ∀ a, g a = s.heap.get? a) : obsK P T n g = (hookK P T n).obs s := by
  have e : g = s.heap.get? := funext h
  rw [e] <;> rfl
/-- the law's end -/
theorem law_end {l : PySem.W.OpenLaw} {q : Program} {loose : List Str} {XP : (Str → Option Value) → Heap → Prop} {d : DefRec} {T : Tb} {f : Fn} {m : Nat} (hn : l.most = some 63) (hdf : d.params.defaults = []) (hdn : d.name = "law")
    (hf : T.fn "law" = some f) (hp : f.ps = [("script" : Str)]) (hd : f.dfl = []) (hgl : T.gl.contains "law" = true) (hm : ∀ ns : List Int, ns.length ≤ 63 → (∀ k ∈ ns, Builtin.Int.intBits k ≤ 1048576) → callF T.G T.fn 30 false "law" [.v (.scr ns)] = .ok (.v (.bl true)) []) :
    PySem.W.WalkO q loose XP (hookK l.prog T m).says l.row.toRowW d [] (fun f vs => PySem.call f vs) := by
  refine Att.attach_callB hn hdf fun w s₀ s₁ mg mb fa o pm cd doc a vs ns G Y ho hd' hcd hmg hobj hints hlen hbits hg => ?_
  obtain ⟨K, KX, c⟩ := Y
  have S := stat_ok KX G.T.g c
  have hfa := (S.glf "law" (List.contains_iff_mem.mp hgl)).1
  rw [hdn] at hmg
  rw [hmg] at hfa
  cases hfa
  obtain ⟨_, db⟩ := defs_ok (base := s₁.heap) KX G.T.g c "law" f hf
  obtain ⟨p1, p2, p0, its, dvs, p3, p4, p5⟩ := def_parts db
  have e0 := p0 hd
  refine law_call KX G.T.g G.T.b G.T.builtins G.T.nolimit hg hobj hints (Nat.le_trans hlen (by decide)) (k := 60) (CX := L2N.CX l.prog w) (x := "script") (sp := spC K (T.adr K) (callF T.G T.fn 30 false) "law" f) roomOk (fun base hK hN => ?_) (fun s u => .of_eq (by have := bind_all p1 e0 [u] (by rw [hp]; rfl); rw [hp] at this; exact this)) (fun H hO hS => law_sp hf (by rw [hp]; rfl) ns (hm ns hlen hbits) hS) fun H e s' z => ?_
  · have F := facts_all (P := l.prog) (base := base) (mg := mg) (stat_ok hK hN c) (fdOf K T) (fun q f e => (defs_ok hK hN c q f e).1) (kws_ok hK hN c) 29
    obtain ⟨name, qual, params, body, scope, dV, kV, doc, pm, cdv, ct, oc, an, od, osl, e, lk, hcd, sc, hb⟩ := (defs_ok (base := base) (P := l.prog) hK hN c "law" f hf).1.run
    have lk2 := lk
    rw [e] at lk2
    have FQ := (fn_sound hf lk2 hcd sc (hb 29 (2 * 29) F) false).ok rfl
    rw [hp] at FQ
    rw [e]
    exact FQ
  · obtain ⟨_, _, _, _, _, _, _, _, _, _, _, _, z⟩ := z
    exact z
end Ky
end
section
set_option Elab.async false
set_option linter.all false
set_option maxRecDepth 100000
set_option maxHeartbeats 1000000
/-! Ky, part Zs: the evaluator's steps, as rows for simp; loops. -/
namespace Ky
open PySem PySem.Spec PyProof.Rows L2
section
variable {α β : Type} {a : α} {e env : Env} {c : Str} {fs : List (Str × D)} {d : D} {o : O} {i : Nat}
theorem bind_ok (f : α → Env → Rs β) : (Rs.ok a e).bind f = f a e := rfl
theorem bind_exc (f : α → Env → Rs β) : (Rs.exc c fs e : Rs α).bind f = .exc c fs e := rfl
theorem bind_bad (f : α → Env → Rs β) : (Rs.bad : Rs α).bind f = .bad := rfl
theorem to_ok (f : α → Env → SR) : (Rs.ok a e).to f = f a e := rfl
theorem to_exc (f : α → Env → SR) : (Rs.exc c fs e : Rs α).to f = .exc c fs e := rfl
theorem to_bad (f : α → Env → SR) : (Rs.bad : Rs α).to f = .bad := rfl
theorem of_so : Rs.of (some a) e = .ok a e := rfl
theorem of_no : Rs.of (none : Option α) e = .bad := rfl
theorem nx_ok : (Rs.ok a e).nx = .ok a e := rfl
theorem dat_v : R.dat env (.v d) = some d := rfl
theorem dat_own : R.dat env (.own o) = some o.dat := rfl
theorem dat_sl : R.dat env (.sl i) = match env[i]? with | some (some s) => s.dat | _ => none := rfl
theorem sdat_v : S.dat (.v d) = some d := rfl
theorem sdat_own : S.dat (.own o) = some o.dat := rfl
theorem sdat_bor : S.dat (.bor o) = some o.dat := rfl
theorem sdat_lk : S.dat (.lk o) = some o.dat := rfl
theorem sdat_ro : S.dat (.ro o) = some o.dat := rfl
theorem odat_L (xs : List D) : O.dat (.L xs) = .lst xs := rfl
theorem odat_I : O.dat (.I c fs) = .ins c fs := rfl
theorem frz_v : frz (.v d) env = some (d, env) := rfl
theorem frz_own : frz (.own o) env = some (o.dat, env) := rfl
theorem frz_sl : frz (.sl i) env = match env[i]? with
    | some (some (.v d)) => some (d, env)
    | some (some (.own o)) => some (o.dat, env.set i (some (.v o.dat)))
    | _ => none := rfl
theorem frzs_nil : frzs [] env = some ([], env) := rfl
theorem frzs_cons (r : R) (rs : List R) : frzs (r :: rs) env = match frz r env with
    | some (d, e) => (match frzs rs e with | some (ds, e') => some (d :: ds, e') | none => none)
    | none => none := rfl
theorem toS_v : toS (.v d) env = some (.v d, env) := rfl
theorem toS_own : toS (.own o) env = some (.own o, env) := rfl
theorem toS_sl : toS (.sl i) env = match frz (.sl i) env with | some (d, e) => some (.v d, e) | none => none := rfl
theorem snx_so : SR.nx (some e) = .next e := rfl
theorem snx_no : SR.nx none = .bad := rfl
end
/-! loops -/
theorem loopF_nil (turn : D → Env → SR) (env : Env) : loopF turn [] env = .next env := rfl
theorem loopF_cons (turn : D → Env → SR) (d : D) (ds : List D) (env : Env) : loopF turn (d :: ds) env = match turn d env with
    | .next e => loopF turn ds e
    | .cont e => loopF turn ds e
    | .brk e => .next e
    | r => r := rfl
/-- a loop that comes to its end: what holds between the turns, told of what was taken -/
theorem loopF_inv {turn : D → Env → SR} (P : List D → Env → Prop) : ∀ (ds pre : List D) (env : Env), P pre env → (∀ pre d post env, pre ++ d :: post = pre ++ d :: post → d ∈ ds → P pre env → ∃ e, turn d env = .next e ∧ P (pre ++ [d]) e) → ∃ e, loopF turn ds env = .next e ∧ P (pre ++ ds) e
  | [], pre, env, h, _ => ⟨env, rfl, by rw [List.append_nil]; exact h⟩
  | d :: ds, pre, env, h, k => by
    obtain ⟨e, h1, h2⟩ := k pre d ds env rfl List.mem_cons_self h
    obtain ⟨e2, h3, h4⟩ := loopF_inv P ds (pre ++ [d]) e h2 fun pre d post env z m => k pre d post env z (List.mem_cons_of_mem _ m)
    exact ⟨e2, by rw [loopF_cons, h1]; exact h3, by rw [List.append_assoc] at h4; exact h4⟩
/-- the same without a history -/
theorem loopF_keep {turn : D → Env → SR} (P : Env → Prop) : ∀ (ds : List D) (env : Env), P env → (∀ d env, d ∈ ds → P env → ∃ e, turn d env = .next e ∧ P e) → ∃ e, loopF turn ds env = .next e ∧ P e
  | [], env, h, _ => ⟨env, rfl, h⟩
  | d :: ds, env, h, k => by
    obtain ⟨e, h1, h2⟩ := k d env List.mem_cons_self h
    obtain ⟨e2, h3, h4⟩ := loopF_keep P ds e h2 fun d env m => k d env (List.mem_cons_of_mem _ m)
    exact ⟨e2, by rw [loopF_cons, h1]; exact h3, h4⟩
theorem loopC_nil (turn : D → List D → Env → Rs (List D)) (acc : List D) (env : Env) : loopC turn [] acc env = .ok acc env := rfl
theorem loopC_cons (turn : D → List D → Env → Rs (List D)) (d : D) (ds acc : List D) (env : Env) : loopC turn (d :: ds) acc env = (turn d acc env).bind fun acc e => loopC turn ds acc e := rfl
/-- a comprehension whose element changes nothing -/
theorem loopC_map {turn : D → List D → Env → Rs (List D)} {W : Env} (f : D → D) : ∀ (ds acc : List D), (∀ d acc, d ∈ ds → acc.length < lim → turn d acc W = .ok (acc ++ [f d]) W) → acc.length + ds.length ≤ lim → loopC turn ds acc W = .ok (acc ++ ds.map f) W
  | [], acc, _, _ => by rw [loopC_nil, List.map_nil, List.append_nil]
  | d :: ds, acc, h, hl => by
    rw [List.length_cons] at hl
    rw [loopC_cons, h d acc List.mem_cons_self (by omega), bind_ok, loopC_map f ds (acc ++ [f d]) (fun d acc m => h d acc (List.mem_cons_of_mem _ m)) (by rw [List.length_append]; simp; omega)]
    simp
/-! lists of whole numbers -/
def iL (ns : List Int) : List D := ns.map D.int
theorem iL_nil : iL [] = [] := rfl
theorem iL_cons (n : Int) (ns : List Int) : iL (n :: ns) = .int n :: iL ns := rfl
theorem iL_app (a b : List Int) : iL a ++ iL b = iL (a ++ b) := (List.map_append).symm
theorem iL_len (ns : List Int) : (iL ns).length = ns.length := List.length_map _
theorem iL_get (ns : List Int) (i : Nat) : (iL ns)[i]? = (ns[i]?).map D.int := List.getElem?_map
theorem intsD_iL : ∀ ns : List Int, intsD (iL ns) = some ns
  | [] => rfl
  | n :: ns => by
    show (intsD (iL ns)).map (n :: ·) = some (n :: ns)
    rw [intsD_iL ns]; rfl
/-! places -/
theorem atI_nat {α : Type} (xs : List α) (n : Nat) : atI xs (n : Int) = xs[n]? := by
  unfold atI ixN
  by_cases h : (n : Int) < xs.length
  · rw [if_pos (by omega), if_pos h]; rfl
  · rw [if_pos (by omega), if_neg h]
    exact (List.getElem?_eq_none (by omega)).symm
theorem atI_0 {α : Type} (xs : List α) : atI xs 0 = xs[0]? := atI_nat xs 0
theorem atI_1 {α : Type} (xs : List α) : atI xs 1 = xs[1]? := atI_nat xs 1
theorem atI_2 {α : Type} (xs : List α) : atI xs 2 = xs[2]? := atI_nat xs 2
theorem atI_3 {α : Type} (xs : List α) : atI xs 3 = xs[3]? := atI_nat xs 3
theorem atI_4 {α : Type} (xs : List α) : atI xs 4 = xs[4]? := atI_nat xs 4
theorem atI_5 {α : Type} (xs : List α) : atI xs 5 = xs[5]? := atI_nat xs 5
theorem atI_6 {α : Type} (xs : List α) : atI xs 6 = xs[6]? := atI_nat xs 6
theorem atI_7 {α : Type} (xs : List α) : atI xs 7 = xs[7]? := atI_nat xs 7
/-! sorting -/
theorem sorted_eq : ∀ {l m : List Int}, l.Pairwise (· < ·) → m.Pairwise (· < ·) → (∀ x, x ∈ l ↔ x ∈ m) → l = m
  | [], [], _, _, _ => rfl
  | [], y :: m, _, _, h => by simp at h; exact absurd rfl (h y).1
  | x :: l, [], _, _, h => by simp at h; exact absurd rfl (h x).1
  | x :: l, y :: m, h1, h2, h => by
    obtain ⟨a1, a2⟩ := List.pairwise_cons.mp h1
    obtain ⟨b1, b2⟩ := List.pairwise_cons.mp h2
    have e : x = y := by
      rcases List.mem_cons.mp ((h x).mp List.mem_cons_self) with e | e
      · exact e
      · rcases List.mem_cons.mp ((h y).mpr List.mem_cons_self) with e2 | e2
        · exact e2.symm
        · have := b1 x e
          have := a1 y e2
          omega
    subst e
    rw [sorted_eq a2 b2 fun z => ?_]
    constructor
    · intro hz
      rcases List.mem_cons.mp ((h z).mp (List.mem_cons_of_mem _ hz)) with e | e
      · have := a1 z hz; omega
      · exact e
    · intro hz
      rcases List.mem_cons.mp ((h z).mpr (List.mem_cons_of_mem _ hz)) with e | e
      · have := b1 z hz; omega
      · exact e
/-- the sorted list of distinct numbers is known by its members -/
theorem sortI_eq {l m : List Int} (nd : l.Nodup) (hm : m.Pairwise (· < ·)) (h : ∀ x, x ∈ l ↔ x ∈ m) : sortI l = m := by
  refine sorted_eq ?_ hm fun x => by rw [(sortI_perm l).mem_iff]; exact h x
  have h1 := sortI_sorted l
  have h2 : (sortI l).Nodup := (sortI_perm l).nodup_iff.mpr nd
  have h3 := h1.and h2
  exact h3.imp fun {a b} z => by
    have := z.1
    have := z.2
    omega
/-! ranges -/
def rngL (lo hi : Int) : List Int := (List.range (hi - lo).toNat).map fun (k : Nat) => lo + (k : Int)
theorem rngI_iL (lo hi : Int) : rngI lo hi = iL (rngL lo hi) := by
  unfold rngI iL rngL
  rw [List.map_map]; rfl
theorem rngL_len (lo hi : Int) : (rngL lo hi).length = (hi - lo).toNat := by unfold rngL; simp
theorem rngL_mem {lo hi x : Int} : x ∈ rngL lo hi ↔ lo ≤ x ∧ x < hi := by
  unfold rngL
  rw [List.mem_map]
  constructor
  · rintro ⟨k, hk, rfl⟩
    rw [List.mem_range] at hk
    omega
  · rintro ⟨h1, h2⟩
    exact ⟨(x - lo).toNat, by rw [List.mem_range]; omega, by omega⟩
theorem rngL_asc (lo hi : Int) : (rngL lo hi).Pairwise (· < ·) := by
  unfold rngL
  rw [List.pairwise_map]
  exact List.pairwise_lt_range.imp fun {a b} h => by omega
theorem rgR_t (i j : Int) : rgR true i j = .v (.tup (iL (rngL i j))) := by rw [← rngI_iL]; rfl
theorem rgR_f (i j : Int) : rgR false i j = .own (.L (iL (rngL i j))) := by rw [← rngI_iL]; rfl
theorem smallB_of {i : Int} (h1 : -(2 ^ 62) ≤ i) (h2 : i < 2 ^ 62) : smallB i = true := by
  unfold smallB
  rw [decide_eq_true h1, decide_eq_true h2]; rfl
theorem rgB_of {i j : Int} (h1 : -(2 ^ 62) ≤ i) (h2 : i < 2 ^ 62) (h3 : -(2 ^ 62) ≤ j) (h4 : j < 2 ^ 62) (h5 : (j - i).toNat ≤ lim) : rgB i j = true := by
  unfold rgB
  rw [smallB_of h1 h2, smallB_of h3 h4, decide_eq_true h5]; rfl
/-! membership -/
theorem inD_tup (x : D) (ys : List D) : inD x (.tup ys) = if flatD x && ys.all flatD then some (ys.any fun y => eqF y x) else none := rfl
theorem flat_iL : ∀ l : List Int, (iL l).all flatD = true
  | [] => rfl
  | x :: l => flat_iL l
theorem any_iL (x : Int) : ∀ l : List Int, ((iL l).any fun y => eqF y (.int x)) = decide (x ∈ l)
  | [] => by simp [iL]
  | y :: l => by
    rw [iL_cons, List.any_cons, any_iL x l]
    show (y == x || decide (x ∈ l)) = decide (x ∈ y :: l)
    by_cases h : y = x
    · subst h; simp
    · have h2 : ¬ x = y := fun z => h z.symm
      simp [h, h2]
theorem inD_iL (x : Int) (l : List Int) : inD (.int x) (.lst (iL l)) = some (decide (x ∈ l)) := by
  show (if flatD (.int x) && (iL l).all flatD then some ((iL l).any fun y => eqF y (.int x)) else none) = _
  rw [flat_iL, any_iL]; rfl
theorem mulB_l {i j : Int} (h1 : -(2 ^ 64) < i) (h2 : i < 2 ^ 64) : mulB i j = true := by
  unfold mulB
  rw [decide_eq_true (show i.natAbs < 2 ^ 64 by omega)]; rfl
theorem mulB_r {i j : Int} (h1 : -(2 ^ 64) < j) (h2 : j < 2 ^ 64) : mulB i j = true := by
  unfold mulB
  rw [decide_eq_true (show j.natAbs < 2 ^ 64 by omega), Bool.or_true]; rfl
theorem divB_of {j : Int} (h1 : 0 < j) (h2 : j < 2 ^ 64) : divB j = true := by
  unfold divB
  rw [decide_eq_true h1, decide_eq_true ?_]; rfl
  have : j.natAbs < 2 ^ 64 := by omega
  exact Nat.lt_trans ((Nat.log2_lt (by omega)).mpr this) (by decide)
/-- asked together: two lists of whole numbers -/
theorem toPL_iL : ∀ l : List Int, toPL (iL l) = some (l.map PyData.int)
  | [] => rfl
  | x :: l => by
    show (match toP (.int x), toPL (iL l) with | some p, some ps => some (p :: ps) | _, _ => none) = _
    rw [toPL_iL l]; rfl
/-! comprehensions, loops -/
section
variable {G : GT} {call : Str → List S → CR} {callB : Bool → Str → List S → CR} {vs is : List Nat} {g : Tg} {it : Itx} {c : Tx} {el : Ex} {env e e2 e3 : Env} {xs : List D} {b : Sxs}
theorem comp_run (hh : G.hot = false) (hI : evI G call it env = .ok (xs, is) e) (hp : plainAt e vs = true) {ys : List D}
    (hl : loopC (fun d acc e1 => match asgT g d e1 with
        | some e2 => (evT G call c e2).bind fun b e3 => if b = true then
              (ev G call el e3).bind fun r e4 => (match frz r e4 with | some (x, e5) => if acc.length < lim then .ok (acc ++ [x]) (wipeE e5 vs) else .bad | none => .bad)
            else .ok acc (wipeE e3 vs)
        | none => .bad) xs [] (wipeE (lock is e) vs) = .ok ys e2) (hu : unlock e is e2 = some e3) :
    ev G call (.comp vs g it c el) env = .ok (.own (.L ys)) (restE e e3 vs) := by
  rw [ev, if_neg (by rw [hh]; exact Bool.false_ne_true), hI, bind_ok, if_pos hp]
  refine Eq.trans (congrArg (fun z : Rs (List D) => (Rs.nx z).bind fun xs e2 => match unlock e is e2 with | some e3 => Rs.ok (R.own (O.L xs)) (restE e e3 vs) | none => Rs.bad) hl) ?_
  rw [nx_ok, bind_ok, hu]
/-- no test, and the element changes nothing -/
theorem comp_map (f : D → D) (hh : G.hot = false) (hI : evI G call it env = .ok (xs, is) e) (hp : plainAt e vs = true) (hlen : xs.length ≤ lim)
    (ht : ∀ d ∈ xs, ∃ e2 r, asgT g d (wipeE (lock is e) vs) = some e2 ∧ ev G call el e2 = .ok r e2 ∧ frz r e2 = some (f d, e2) ∧ wipeE e2 vs = wipeE (lock is e) vs) (hu : unlock e is (wipeE (lock is e) vs) = some e3) :
    ev G call (.comp vs g it .yes el) env = .ok (.own (.L (xs.map f))) (restE e e3 vs) := by
  refine comp_run hh hI hp (ys := xs.map f) (e2 := wipeE (lock is e) vs) ?_ hu
  have := loopC_map (turn := fun d acc e1 => match asgT g d e1 with
        | some e2 => (evT G call .yes e2).bind fun b e3 => if b = true then
              (ev G call el e3).bind fun r e4 => (match frz r e4 with | some (x, e5) => if acc.length < lim then .ok (acc ++ [x]) (wipeE e5 vs) else .bad | none => .bad)
            else .ok acc (wipeE e3 vs)
        | none => .bad) (W := wipeE (lock is e) vs) f xs [] (fun d acc m ha => ?_) (by simpa using hlen)
  · rw [List.nil_append] at this
    exact this
  · obtain ⟨e2, r, h1, h2, h3, h4⟩ := ht d m
    simp only [h1, evT, bind_ok, h2, h3, if_pos, h4]
    rw [if_pos ha]
theorem ex_for (hI : evI (G.at false) (callB false) it env = .ok (xs, is) e) (hl : loopF (fun d e1 => match asgT g d e1 with | some e2 => exSs G callB b false e2 | none => .bad) xs (lock is e) = .next e2) (hu : unlock e is e2 = some e3) :
    exS G callB (.for g it b) false env = .next e3 := by
  rw [exS, if_neg Bool.false_ne_true, hI, to_ok]
  refine Eq.trans (congrArg (fun z : SR => match z with
    | .next e2 => SR.nx (unlock e is e2)
    | .ret r e2 => (match unlock e is e2 with | some e3 => .ret r e3 | none => .bad)
    | .exc c fs e2 => (match unlock e is e2 with | some e3 => .exc c fs e3 | none => .bad)
    | _ => .bad) hl) ?_
  show SR.nx (unlock e is e2) = _
  rw [hu]; rfl
end
section
variable {G : GT} {h : Bool}
theorem at_hot : (G.at h).hot = h := rfl
theorem at_cst : (G.at h).cst = G.cst := rfl
theorem at_prop : (G.at h).prop = G.prop := rfl
theorem at_meth : (G.at h).meth = G.meth := rfl
theorem at_ccon : (G.at h).ccon = G.ccon := rfl
theorem at_eqm : (G.at h).eqm = G.eqm := rfl
theorem at_dct : (G.at h).dct = G.dct := rfl
theorem at_sub : (G.at h).sub = G.sub := rfl
theorem at_cl : (G.at h).cl = G.cl := rfl
theorem at_gl : (G.at h).gl = G.gl := rfl
theorem at_bl : (G.at h).bl = G.bl := rfl
theorem at_flds : (G.at h).flds = G.flds := rfl
theorem at_exc : (G.at h).exc = G.exc := rfl
theorem at_kws : (G.at h).kws = G.kws := rfl
theorem at_xcl : (G.at h).xcl = G.xcl := rfl
theorem at_lf : (G.at h).lf = G.lf := rfl
end
end Ky
end
section
set_option Elab.async false
set_option linter.all false
set_option maxRecDepth 100000
namespace Ky
open PySem PySem.Spec PyProof.Rows L2
/-! walks over what is known, by what stays true -/
section
variable {G : GT} {call : Str → List S → CR} {callB : Bool → Str → List S → CR} {is : List Nat} {g : Tg} {it : Itx} {env e : Env} {xs : List D} {b : Sxs}
theorem for_inv (P : List D → Env → Prop) {Q : Env → Prop} (hI : evI (G.at false) (callB false) it env = .ok (xs, is) e) (h0 : P [] (lock is e))
    (hs : ∀ pre d e, d ∈ xs → P pre e → ∃ e2 e3, asgT g d e = some e2 ∧ exSs G callB b false e2 = .next e3 ∧ P (pre ++ [d]) e3)
    (hu : ∀ e2, P xs e2 → ∃ e3, unlock e is e2 = some e3 ∧ Q e3) : ∃ e3, exS G callB (.for g it b) false env = .next e3 ∧ Q e3 := by
  obtain ⟨e2, h1, h2⟩ := loopF_inv (turn := fun d e1 => match asgT g d e1 with | some e2 => exSs G callB b false e2 | none => .bad) P xs [] (lock is e) h0 fun pre d post e _ m w => by
    obtain ⟨e2, e3, a1, a2, a3⟩ := hs pre d e m w
    exact ⟨e3, by simp only [a1, a2], a3⟩
  rw [List.nil_append] at h2
  obtain ⟨e3, h3, h4⟩ := hu e2 h2
  exact ⟨e3, ex_for hI h1 h3, h4⟩
theorem for_keep (P : Env → Prop) {Q : Env → Prop} (hI : evI (G.at false) (callB false) it env = .ok (xs, is) e) (h0 : P (lock is e))
    (hs : ∀ d e, d ∈ xs → P e → ∃ e2 e3, asgT g d e = some e2 ∧ exSs G callB b false e2 = .next e3 ∧ P e3)
    (hu : ∀ e2, P e2 → ∃ e3, unlock e is e2 = some e3 ∧ Q e3) : ∃ e3, exS G callB (.for g it b) false env = .next e3 ∧ Q e3 :=
  for_inv (fun _ => P) hI h0 (fun _ d e m w => hs d e m w) hu
end
/-! kinds asked -/
section
variable {cl : List Str} {sub : Str → Str → Bool} {b : Bool} {i : Int} {s c c2 : Str} {xs : List D} {ns : List Int} {fs : List (Str × D)}
theorem isi_non_int : isiT cl sub .non (.ty "int") = some false := by kernel_rfl
theorem isi_non_bool : isiT cl sub .non (.ty "bool") = some false := by kernel_rfl
theorem isi_non_str : isiT cl sub .non (.ty "str") = some false := by kernel_rfl
theorem isi_non_list : isiT cl sub .non (.ty "list") = some false := by kernel_rfl
theorem isi_non_tuple : isiT cl sub .non (.ty "tuple") = some false := by kernel_rfl
theorem isi_non_cl : isiT cl sub .non (.cl c) = if cl.contains c then some false else none := rfl
theorem isi_bl_int : isiT cl sub (.bl b) (.ty "int") = some true := by kernel_rfl
theorem isi_bl_bool : isiT cl sub (.bl b) (.ty "bool") = some true := by kernel_rfl
theorem isi_bl_str : isiT cl sub (.bl b) (.ty "str") = some false := by kernel_rfl
theorem isi_bl_list : isiT cl sub (.bl b) (.ty "list") = some false := by kernel_rfl
theorem isi_bl_tuple : isiT cl sub (.bl b) (.ty "tuple") = some false := by kernel_rfl
theorem isi_bl_cl : isiT cl sub (.bl b) (.cl c) = if cl.contains c then some false else none := rfl
theorem isi_int_int : isiT cl sub (.int i) (.ty "int") = some true := by kernel_rfl
theorem isi_int_bool : isiT cl sub (.int i) (.ty "bool") = some false := by kernel_rfl
theorem isi_int_str : isiT cl sub (.int i) (.ty "str") = some false := by kernel_rfl
theorem isi_int_list : isiT cl sub (.int i) (.ty "list") = some false := by kernel_rfl
theorem isi_int_tuple : isiT cl sub (.int i) (.ty "tuple") = some false := by kernel_rfl
theorem isi_int_cl : isiT cl sub (.int i) (.cl c) = if cl.contains c then some false else none := rfl
theorem isi_str_int : isiT cl sub (.str s) (.ty "int") = some false := by kernel_rfl
theorem isi_str_bool : isiT cl sub (.str s) (.ty "bool") = some false := by kernel_rfl
theorem isi_str_str : isiT cl sub (.str s) (.ty "str") = some true := by kernel_rfl
theorem isi_str_list : isiT cl sub (.str s) (.ty "list") = some false := by kernel_rfl
theorem isi_str_tuple : isiT cl sub (.str s) (.ty "tuple") = some false := by kernel_rfl
theorem isi_str_cl : isiT cl sub (.str s) (.cl c) = if cl.contains c then some false else none := rfl
theorem isi_tup_int : isiT cl sub (.tup xs) (.ty "int") = some false := by kernel_rfl
theorem isi_tup_bool : isiT cl sub (.tup xs) (.ty "bool") = some false := by kernel_rfl
theorem isi_tup_str : isiT cl sub (.tup xs) (.ty "str") = some false := by kernel_rfl
theorem isi_tup_list : isiT cl sub (.tup xs) (.ty "list") = some false := by kernel_rfl
theorem isi_tup_tuple : isiT cl sub (.tup xs) (.ty "tuple") = some true := by kernel_rfl
theorem isi_tup_cl : isiT cl sub (.tup xs) (.cl c) = if cl.contains c then some false else none := rfl
theorem isi_lst_int : isiT cl sub (.lst xs) (.ty "int") = some false := by kernel_rfl
theorem isi_lst_bool : isiT cl sub (.lst xs) (.ty "bool") = some false := by kernel_rfl
theorem isi_lst_str : isiT cl sub (.lst xs) (.ty "str") = some false := by kernel_rfl
theorem isi_lst_list : isiT cl sub (.lst xs) (.ty "list") = some true := by kernel_rfl
theorem isi_lst_tuple : isiT cl sub (.lst xs) (.ty "tuple") = some false := by kernel_rfl
theorem isi_lst_cl : isiT cl sub (.lst xs) (.cl c) = if cl.contains c then some false else none := rfl
theorem isi_scr_int : isiT cl sub (.scr ns) (.ty "int") = some false := by kernel_rfl
theorem isi_scr_bool : isiT cl sub (.scr ns) (.ty "bool") = some false := by kernel_rfl
theorem isi_scr_str : isiT cl sub (.scr ns) (.ty "str") = some false := by kernel_rfl
theorem isi_scr_list : isiT cl sub (.scr ns) (.ty "list") = some true := by kernel_rfl
theorem isi_scr_tuple : isiT cl sub (.scr ns) (.ty "tuple") = some false := by kernel_rfl
theorem isi_scr_cl : isiT cl sub (.scr ns) (.cl c) = if cl.contains c then some false else none := rfl
theorem isi_ins_int : isiT cl sub (.ins c fs) (.ty "int") = if cl.contains c then some false else none := by show (if cl.contains c && okTy.contains "int" then some false else none) = _; rw [show okTy.contains "int" = true by kernel_rfl, Bool.and_true]
theorem isi_ins_bool : isiT cl sub (.ins c fs) (.ty "bool") = if cl.contains c then some false else none := by show (if cl.contains c && okTy.contains "bool" then some false else none) = _; rw [show okTy.contains "bool" = true by kernel_rfl, Bool.and_true]
theorem isi_ins_str : isiT cl sub (.ins c fs) (.ty "str") = if cl.contains c then some false else none := by show (if cl.contains c && okTy.contains "str" then some false else none) = _; rw [show okTy.contains "str" = true by kernel_rfl, Bool.and_true]
theorem isi_ins_list : isiT cl sub (.ins c fs) (.ty "list") = if cl.contains c then some false else none := by show (if cl.contains c && okTy.contains "list" then some false else none) = _; rw [show okTy.contains "list" = true by kernel_rfl, Bool.and_true]
theorem isi_ins_tuple : isiT cl sub (.ins c fs) (.ty "tuple") = if cl.contains c then some false else none := by show (if cl.contains c && okTy.contains "tuple" then some false else none) = _; rw [show okTy.contains "tuple" = true by kernel_rfl, Bool.and_true]
theorem isi_ins_cl : isiT cl sub (.ins c2 fs) (.cl c) = if cl.contains c2 && cl.contains c then some (sub c2 c) else none := rfl
end
section
variable {G : GT} {call : Str → List S → CR} {a b : Ex} {env e e2 : Env} {r r2 : R} {i j : Int}
theorem evI_r1 (h : ev G call a env = .ok r e) (hd : r.dat e = some (.int j)) (hs : smallB j = true) : evI G call (.rng1 a) env = .ok (iL (rngL 0 j), []) e := by
  rw [evI, h, bind_ok, hd]
  refine Eq.trans (if_pos hs) ?_
  rw [rngI_iL]
theorem evI_r2 (h : ev G call a env = .ok r e) (h2 : ev G call b e = .ok r2 e2) (hd : r.dat e2 = some (.int i)) (hd2 : r2.dat e2 = some (.int j)) (hs : smallB i = true) (hs2 : smallB j = true) : evI G call (.rng2 a b) env = .ok (iL (rngL i j), []) e2 := by
  rw [evI, h, bind_ok, h2, bind_ok, hd, hd2]
  refine Eq.trans (if_pos (by rw [hs, hs2]; rfl)) ?_
  rw [rngI_iL]
end
/-- a def whose body is known -/
def doneF (ss : List S) (r : SR) : CR := match r with
  | .next env => fin ss (.v .non) env
  | .ret r env => fin ss r env
  | .exc c fs _ => .exc c fs
  | _ => .bad
theorem callF_run {G : GT} {fn : Str → Option Fn} {n : Nat} {h : Bool} {q : Str} {ss : List S} {f : Fn} {E : Env} {r : SR} (hf : fn q = some f) (hl : ss.length = f.ps.length) (hE : ss.map some ++ List.replicate (f.N.length - f.ps.length) none = E)
    (hb : exSs G (callF G fn n) f.body h E = r) : callF G fn (n+1) h q ss = doneF ss r := by
  subst hb
  subst hE
  rw [callF, hf]
  have e : ss ++ (f.dfl.drop (f.dfl.length - (f.ps.length - ss.length))).map .v = ss := by
    rw [hl, Nat.sub_self, Nat.sub_zero, List.drop_length, List.map_nil, List.append_nil]
  simp only [e]
  rw [if_pos hl]
  generalize exSs G (callF G fn n) f.body h (ss.map some ++ List.replicate (f.N.length - f.ps.length) none) = z
  cases z <;> rfl
/-- a loop that stays closed for the kernel -/
theorem gen_sx {P : Sx → Prop} (x : Sx) (h : ∀ F, P F) : P x := h x
theorem gen_ex {P : Ex → Prop} (x : Ex) (h : ∀ F, P F) : P x := h x
theorem loopF_hist {turn : D → Env → SR} (P : List D → Env → Prop) : ∀ (ds pre : List D) (env : Env), P pre env → (∀ a d b e, ds = a ++ d :: b → P (pre ++ a) e → ∃ e2, turn d e = .next e2 ∧ P (pre ++ a ++ [d]) e2) → ∃ e, loopF turn ds env = .next e ∧ P (pre ++ ds) e
  | [], pre, env, h, _ => ⟨env, rfl, by rw [List.append_nil]; exact h⟩
  | d :: ds, pre, env, h, k => by
    obtain ⟨e, h1, h2⟩ := k [] d ds env rfl (by rw [List.append_nil]; exact h)
    rw [List.append_nil] at h2
    obtain ⟨e2, h3, h4⟩ := loopF_hist P ds (pre ++ [d]) e h2 fun a x b e w p => by
      have := k (d :: a) x b e (by rw [w]; rfl) (by rw [List.append_assoc] at p; exact p)
      rw [List.append_assoc pre [d] a]
      exact this
    exact ⟨e2, by rw [loopF_cons, h1]; exact h3, by rw [List.append_assoc] at h4; exact h4⟩
section
variable {G : GT} {call : Str → List S → CR} {callB : Bool → Str → List S → CR} {is : List Nat} {g : Tg} {it : Itx} {env e : Env} {xs : List D} {b : Sxs}
/-- a walk, with what was walked so far -/
theorem for_run (P : List D → Env → Prop) {Q : Env → Prop} (hI : evI (G.at false) (callB false) it env = .ok (xs, is) e) (h0 : P [] (lock is e))
    (hs : ∀ pre d post e, xs = pre ++ d :: post → P pre e → ∃ e2 e3, asgT g d e = some e2 ∧ exSs G callB b false e2 = .next e3 ∧ P (pre ++ [d]) e3)
    (hu : ∀ e2, P xs e2 → ∃ e3, unlock e is e2 = some e3 ∧ Q e3) : ∃ e3, exS G callB (.for g it b) false env = .next e3 ∧ Q e3 := by
  obtain ⟨e2, h1, h2⟩ := loopF_hist (turn := fun d e1 => match asgT g d e1 with | some e2 => exSs G callB b false e2 | none => .bad) P xs [] (lock is e) h0 fun pre d post e m w => by
    obtain ⟨e2, e3, a1, a2, a3⟩ := hs pre d post e m w
    exact ⟨e3, by simp only [a1, a2], a3⟩
  rw [List.nil_append] at h2
  obtain ⟨e3, h3, h4⟩ := hu e2 h2
  exact ⟨e3, ex_for hI h1 h3, h4⟩
end
/-- a slot that holds nothing lent -/
def fsl : Option D → Option S := Option.map S.v
theorem fsl_no : none = fsl none := rfl
theorem fsl_so {d : D} : some (S.v d) = fsl (some d) := rfl
def putOk : Option (Option S) → Bool
  | some (some (.bor _)) => false
  | some (some (.lk _)) => false
  | some _ => true
  | none => false
theorem pok_no : putOk (some none) = true := rfl
theorem pok_v {d : D} : putOk (some (some (.v d))) = true := rfl
theorem pok_own {o : O} : putOk (some (some (.own o))) = true := rfl
theorem pok_ro {o : O} : putOk (some (some (.ro o))) = true := rfl
theorem pok_fsl {v : Option D} : putOk (some (fsl v)) = true := by cases v <;> rfl
theorem put_pok {i : Nat} {s : S} {env : Env} (h : putOk env[i]? = true) : put i s env = some (env.set i (some s)) := by
  unfold put
  revert h
  generalize env[i]? = z
  intro h
  rcases z with _ | _ | s
  · exact absurd h Bool.false_ne_true
  · rfl
  · cases s <;> first | rfl | exact absurd h Bool.false_ne_true
theorem plain_fsl {v : Option D} : (match (some (fsl v) : Option (Option S)) with | some none => true | some (some (.v _)) => true | _ => false) = true := by cases v <;> rfl
end Ky
end
section
set_option Elab.async false
set_option linter.all false
set_option maxRecDepth 100000
set_option maxHeartbeats 0
namespace L24
open PySem PySem.Spec PyProof.Rows L2 Ky
def l1_law : Sx := .for (.nm 7) (.seq (.var 11)) (.cons (.ifs (.nt (.val (.call "_law_refused" (.cons (.var 6) (.cons (.var 7) (.cons (.idx (.var 10) (.cst (.int 2))) .nil)))))) (.cons (.ret (.cst (.bl false))) .nil) .nil) .nil)
def l2_law : Sx := .for (.nm 6) (.seq (.var 2)) (.cons (.set 11 (.lst (.cons (.cst (.int 0)) (.cons (.var 4) (.cons (.neg (.bin .Pow (.cst (.int 10)) (.cst (.int 18)))) .nil))))) (.cons (.ifs (.cmp .In (.idx (.var 6) (.cst (.int 0))) (.tup (.cons (.cst (.str "clip")) (.cons (.cst (.str "wrap")) .nil)))) (.cons (.set 11 (.bin .Add (.var 11) (.lst (.cons (.var 5) (.cons (.bin .Pow (.cst (.int 10)) (.cst (.int 18))) .nil))))) .nil) .nil) (.cons l1_law .nil)))
def l3_law : Sx := .for (.tp [6, 7, 8, 9]) (.seq (.bin .Add (.var 3) (.call "_law_great" (.cons (.var 1) (.cons (.var 2) .nil))))) (.cons (.ifs (.nt (.val (.call "_law_row" (.cons (.call "choice_set" (.cons (.call "_law_kind" (.cons (.var 6) .nil)) (.cons (.var 7) (.cons (.var 8) .nil)))) (.cons (.var 9) .nil))))) (.cons (.ret (.cst (.bl false))) .nil) .nil) .nil)
def f_law : Fn := ⟨["script", "pool", "kinds", "small", "below", "above", "plain", "den", "top", "due", "first", "dens", "again"], ["script"], [], (.cons (.set 1 (.call "_law_pool" (.cons (.var 0) .nil))) (.cons (.set 2 (.call "_law_kinds" (.cons (.var 1) .nil))) (.cons (.set 3 (.call "_law_small" (.cons (.var 1) (.cons (.var 2) .nil)))) (.cons (.set 4 (.bin .Sub (.neg (.cst (.int 1))) (.call "_law_take" (.cons (.var 1) (.cons (.cst (.int 12)) .nil))))) (.cons (.set 5 (.bin .Add (.cst (.int 2)) (.call "_law_take" (.cons (.var 1) (.cons (.cst (.int 12)) .nil))))) (.cons l3_law (.cons (.set 10 (.idx (.var 3) (.cst (.int 0)))) (.cons l2_law (.cons (.set 12 (.callk 0 .nil (.cons (.idx (.var 10) (.cst (.int 2))) (.cons (.call "_law_kind" (.cons (.idx (.var 10) (.cst (.int 0))) .nil)) (.cons (.idx (.var 10) (.cst (.int 1))) .nil))))) (.cons (.ret (.call "_law_row" (.cons (.var 12) (.cons (.idx (.var 10) (.cst (.int 3))) .nil)))) .nil))))))))))⟩
def c1__law_pool : Ex := .comp [1] (.nm 1) (.seq (.slc (.var 0) .no (.so (.cst (.int 63))))) .yes (.bin .Mod (.bi .abs (.cons (.bi .int (.cons (.var 1) .nil)) .nil)) (.bin .Pow (.bin .Pow (.cst (.int 10)) (.cst (.int 60))) (.cst (.int 10))))
def f__law_pool : Fn := ⟨["script", "cell"], ["script"], [], (.cons (.ret c1__law_pool) .nil)⟩
def l1__law_kinds : Sx := .for (.nm 2) (.seq (.lst (.cons (.cst (.str "clip")) (.cons (.cst (.str "wrap")) .nil)))) (.cons (.set 3 (.neg (.call "_law_bound" (.cons (.var 0) (.cons (.cst (.int 5)) .nil))))) (.cons (.ex (.mut .append 1 (.cons (.tup (.cons (.var 2) (.cons (.var 3) (.cons (.call "_law_bound" (.cons (.var 0) (.cons (.cst (.int 6)) .nil))) .nil)))) .nil))) .nil))
def l2__law_kinds : Sx := .for (.nm 2) (.seq (.lst (.cons (.cst (.str "floor")) (.cons (.cst (.str "ceil")) (.cons (.cst (.str "near")) (.cons (.cst (.str "even")) (.cons (.cst (.str "zero")) .nil))))))) (.cons (.ex (.mut .append 1 (.cons (.tup (.cons (.var 2) (.cons (.cst (.int 0)) (.cons (.cst (.int 0)) .nil)))) .nil))) .nil)
def f__law_kinds : Fn := ⟨["pool", "kinds", "name", "low"], ["pool"], [], (.cons (.set 1 (.lst .nil)) (.cons l2__law_kinds (.cons l1__law_kinds (.cons (.ret (.var 1)) .nil))))⟩
def l1__law_small : Sx := .for (.nm 7) (.seq (.lst (.cons (.var 5) (.cons (.bin .Add (.var 5) (.cst (.int 1))) (.cons (.bin .Sub (.var 5) (.cst (.int 1))) (.cons (.neg (.var 5)) (.cons (.var 6) (.cons (.cst (.int 0)) .nil)))))))) (.cons (.set 8 (.call "_law_tried" (.cons (.var 3) (.cons (.var 4) (.cons (.var 7) .nil))))) (.cons (.ex (.mut .append 2 (.cons (.tup (.cons (.var 3) (.cons (.var 4) (.cons (.var 7) (.cons (.var 8) .nil))))) .nil))) .nil))
def l2__law_small : Sx := .for (.nm 3) (.seq (.var 1)) (.cons (.set 4 (.cst (.int 1))) (.cons (.ifs (.cmp .NotIn (.idx (.var 3) (.cst (.int 0))) (.tup (.cons (.cst (.str "clip")) (.cons (.cst (.str "wrap")) .nil)))) (.cons (.set 4 (.bin .Add (.cst (.int 1)) (.bin .Mod (.bin .Add (.call "_law_take" (.cons (.var 0) (.cons (.cst (.int 12)) .nil))) (.cst (.int 3))) (.cst (.int 12))))) .nil) .nil) (.cons (.set 5 (.bin .Sub (.bin .Mod (.bin .Add (.call "_law_take" (.cons (.var 0) (.cons (.cst (.int 121)) .nil))) (.cst (.int 67))) (.cst (.int 121))) (.cst (.int 60)))) (.cons (.set 6 (.bin .Mult (.var 4) (.bin .Sub (.call "_law_take" (.cons (.var 0) (.cons (.cst (.int 11)) .nil))) (.cst (.int 5))))) (.cons (.set 6 (.bin .Sub (.bin .Add (.var 6) (.call "_law_take" (.cons (.var 0) (.cons (.cst (.int 3)) .nil)))) (.cst (.int 1)))) (.cons l1__law_small .nil))))))
def f__law_small : Fn := ⟨["pool", "kinds", "rows", "plain", "den", "base", "edge", "top", "due"], ["pool", "kinds"], [], (.cons (.set 2 (.lst .nil)) (.cons l2__law_small (.cons (.ret (.var 2)) .nil)))⟩
def f__law_take : Fn := ⟨["pool", "many", "cell"], ["pool", "many"], [], (.cons (.ifs (.cmp .Eq (.bi .len (.cons (.var 0) .nil)) (.cst (.int 0))) (.cons (.ret (.cst (.int 0))) .nil) .nil) (.cons (.set 2 (.bi .int (.cons (.mut .popAt 0 (.cons (.cst (.int 0)) .nil)) .nil))) (.cons (.ifs (.cmp .GtE (.var 2) (.var 1)) (.cons (.ex (.mut .insert 0 (.cons (.cst (.int 0)) (.cons (.bin .FloorDiv (.var 2) (.var 1)) .nil)))) .nil) .nil) (.cons (.ret (.bin .Mod (.var 2) (.var 1))) .nil))))⟩
def l1__law_great : Sx := .for (.tp [3, 5, 7]) (.seq (.var 2)) (.cons (.ex (.mut .append 12 (.cons (.tup (.cons (.var 3) (.cons (.var 5) (.cons (.var 7) (.cons (.call "_law_set" (.cons (.var 3) (.cons (.var 5) (.cons (.var 7) .nil)))) .nil))))) .nil))) .nil)
def l2__law_great : Sx := .for (.nm 3) (.seq (.slc (.var 1) .no (.so (.cst (.int 5))))) (.cons (.set 4 (.idx (.lst (.cons (.bin .Pow (.cst (.int 10)) (.cst (.int 9))) (.cons (.bin .Pow (.cst (.int 10)) (.cst (.int 3))) (.cons (.bin .Pow (.cst (.int 10)) (.cst (.int 18))) (.cons (.bin .Pow (.cst (.int 10)) (.cst (.int 6))) (.cons (.cst (.int 60)) .nil)))))) (.call "_law_take" (.cons (.var 0) (.cons (.cst (.int 5)) .nil))))) (.cons (.set 5 (.bin .Sub (.var 4) (.call "_law_take" (.cons (.var 0) (.cons (.var 4) .nil))))) (.cons (.set 6 (.bin .FloorDiv (.bin .Pow (.cst (.int 10)) (.cst (.int 18))) (.var 5))) (.cons (.set 7 (.bin .Mult (.var 5) (.bin .Sub (.var 6) (.call "_law_take" (.cons (.var 0) (.cons (.var 6) .nil)))))) (.cons (.set 7 (.bin .Sub (.var 7) (.idx (.lst (.cons (.cst (.int 0)) (.cons (.cst (.int 1)) (.cons (.cst (.int 2)) (.cons (.bin .FloorDiv (.var 5) (.cst (.int 2))) (.cons (.bin .FloorDiv (.bin .Add (.var 5) (.cst (.int 1))) (.cst (.int 2))) .nil)))))) (.call "_law_take" (.cons (.var 0) (.cons (.cst (.int 5)) .nil)))))) (.cons (.ex (.mut .append 2 (.cons (.tup (.cons (.var 3) (.cons (.var 5) (.cons (.bin .Mult (.var 7) (.bin .Sub (.cst (.int 1)) (.bin .Mult (.cst (.int 2)) (.call "_law_take" (.cons (.var 0) (.cons (.cst (.int 2)) .nil)))))) .nil)))) .nil))) .nil))))))
def f__law_great : Fn := ⟨["pool", "kinds", "rows", "plain", "most", "den", "many", "top", "low", "high", "size", "near", "found"], ["pool", "kinds"], [], (.cons (.set 2 (.lst .nil)) (.cons l2__law_great (.cons (.set 8 (.bin .Sub (.call "_law_take" (.cons (.var 0) (.cons (.bin .Add (.bin .Pow (.cst (.int 10)) (.cst (.int 9))) (.cst (.int 1))) .nil))) (.bin .Pow (.cst (.int 10)) (.cst (.int 9))))) (.cons (.set 9 (.bin .Sub (.bin .Pow (.cst (.int 10)) (.cst (.int 9))) (.call "_law_take" (.cons (.var 0) (.cons (.bin .Add (.bin .Pow (.cst (.int 10)) (.cst (.int 9))) (.cst (.int 1))) .nil))))) (.cons (.set 10 (.bin .Sub (.bin .Pow (.cst (.int 10)) (.cst (.int 18))) (.call "_law_take" (.cons (.var 0) (.cons (.bin .Pow (.cst (.int 10)) (.cst (.int 18))) .nil))))) (.cons (.set 10 (.bin .Mult (.var 10) (.bin .Sub (.cst (.int 1)) (.bin .Mult (.cst (.int 2)) (.call "_law_take" (.cons (.var 0) (.cons (.cst (.int 2)) .nil))))))) (.cons (.set 11 (.bin .Sub (.bin .Mod (.bin .Add (.call "_law_take" (.cons (.var 0) (.cons (.cst (.int 81)) .nil))) (.cst (.int 47))) (.cst (.int 81))) (.cst (.int 40)))) (.cons (.ex (.mut .append 2 (.cons (.tup (.cons (.tup (.cons (.cst (.str "clip")) (.cons (.var 8) (.cons (.var 9) .nil)))) (.cons (.cst (.int 1)) (.cons (.var 11) .nil)))) .nil))) (.cons (.ex (.mut .append 2 (.cons (.tup (.cons (.tup (.cons (.cst (.str "wrap")) (.cons (.var 8) (.cons (.var 9) .nil)))) (.cons (.cst (.int 1)) (.cons (.var 10) .nil)))) .nil))) (.cons (.ex (.mut .append 2 (.cons (.tup (.cons (.idx (.var 1) (.cst (.int 5))) (.cons (.cst (.int 1)) (.cons (.var 10) .nil)))) .nil))) (.cons (.ex (.mut .append 2 (.cons (.tup (.cons (.idx (.var 1) (.cst (.int 6))) (.cons (.cst (.int 1)) (.cons (.neg (.var 10)) .nil)))) .nil))) (.cons (.set 12 (.lst .nil)) (.cons l1__law_great (.cons (.ret (.var 12)) .nil))))))))))))))⟩
def l1__law_row : Sx := .for (.nm 2) (.rng1 (.bi .len (.cons (.var 1) .nil))) (.cons (.ifs (.or (.nt (.val (.call "_law_is_int" (.cons (.idx (.var 0) (.var 2)) .nil)))) (.cmp .NotEq (.idx (.var 0) (.var 2)) (.idx (.var 1) (.var 2)))) (.cons (.ret (.cst (.bl false))) .nil) .nil) .nil)
def f__law_row : Fn := ⟨["told", "due", "k"], ["told", "due"], [], (.cons (.ifs (.or (.nt (.val (.isi (.var 0) (.ty "tuple")))) (.cmp .NotEq (.bi .len (.cons (.var 0) .nil)) (.bi .len (.cons (.var 1) .nil)))) (.cons (.ret (.cst (.bl false))) .nil) .nil) (.cons l1__law_row (.cons (.ret (.cst (.bl true))) .nil)))⟩
def f_choice_set : Fn := ⟨["kind", "den", "top"], ["kind", "den", "top"], [], (.cons (.ex (.call "check_den" (.cons (.var 0) (.cons (.var 1) .nil)))) (.cons (.ret (.call "members_of" (.cons (.var 0) (.cons (.var 0) (.cons (.var 1) (.cons (.var 2) .nil)))))) .nil))⟩
def f__law_kind : Fn := ⟨["plain"], ["plain"], [], (.cons (.ret (.mk "Kind" (.cons (.idx (.var 0) (.cst (.int 0))) (.cons (.idx (.var 0) (.cst (.int 1))) (.cons (.idx (.var 0) (.cst (.int 2))) .nil))))) .nil)⟩
def f__law_refused : Fn := ⟨["plain", "den", "top", "e"], ["plain", "den", "top"], [], (.cons (.try1 (.cons (.ex (.call "choice_set" (.cons (.call "_law_kind" (.cons (.var 0) .nil)) (.cons (.var 1) (.cons (.var 2) .nil))))) .nil) "BadCount" 3 (.cons (.ifs (.val (.eisis 3 ["BadKind", "BadLength", "BadPlace", "Mismatch", "NotChosen"])) (.cons (.ret (.cst (.bl false))) .nil) .nil) (.cons (.ifs (.or (.nt (.val (.eisi 3 "WebError"))) (.nt (.val (.call "_law_is_int" (.cons (.efld 3 "count") .nil))))) (.cons (.ret (.cst (.bl false))) .nil) .nil) (.cons (.ret (.cmp .Eq (.efld 3 "count") (.var 1))) .nil)))) (.cons (.ret (.cst (.bl false))) .nil))⟩
def f__law_bound : Fn := ⟨["pool", "add"], ["pool", "add"], [], (.cons (.ret (.bi .max2 (.cons (.cst (.int 0)) (.cons (.bin .Sub (.bin .Mod (.bin .Add (.call "_law_take" (.cons (.var 0) (.cons (.cst (.int 12)) .nil))) (.var 1)) (.cst (.int 12))) (.cst (.int 2))) .nil)))) .nil)⟩
def c1__law_tried : Ex := .comp [9] (.nm 9) (.seq (.var 5)) .yes (.bi .int (.cons (.var 9) .nil))
def l1__law_tried : Sx := .for (.nm 6) (.rng2 (.var 3) (.var 4)) (.cons (.set 7 (.call "_law_made" (.cons (.var 0) (.cons (.var 6) (.cons (.var 1) .nil))))) (.cons (.set 8 (.bin .Sub (.call "_law_made" (.cons (.var 0) (.cons (.bin .Add (.var 6) (.var 2)) (.cons (.var 1) .nil)))) (.var 7))) (.cons (.ifs (.cmp .NotIn (.var 8) (.var 5)) (.cons (.ex (.mut .append 5 (.cons (.var 8) .nil))) .nil) .nil) .nil)))
def f__law_tried : Fn := ⟨["plain", "den", "top", "low", "high", "found", "shift", "ahead", "apart", "member"], ["plain", "den", "top"], [], (.cons (.set 3 (.cst (.int 0))) (.cons (.set 4 (.bin .Mult (.cst (.int 2)) (.var 1))) (.cons (.ifs (.cmp .Eq (.idx (.var 0) (.cst (.int 0))) (.cst (.str "zero"))) (.cons (.set 3 (.bin .Sub (.neg (.bi .abs (.cons (.bi .int (.cons (.var 2) .nil)) .nil))) (.bin .Mult (.cst (.int 2)) (.var 1)))) (.cons (.set 4 (.bin .Add (.bin .Add (.bi .abs (.cons (.bi .int (.cons (.var 2) .nil)) .nil)) (.bin .Mult (.cst (.int 2)) (.var 1))) (.cst (.int 1)))) .nil)) .nil) (.cons (.ifs (.cmp .Eq (.idx (.var 0) (.cst (.int 0))) (.cst (.str "clip"))) (.cons (.set 3 (.bin .Sub (.bin .Sub (.idx (.var 0) (.cst (.int 1))) (.bi .abs (.cons (.bi .int (.cons (.var 2) .nil)) .nil))) (.cst (.int 1)))) (.cons (.set 4 (.bin .Add (.bin .Add (.idx (.var 0) (.cst (.int 2))) (.bi .abs (.cons (.bi .int (.cons (.var 2) .nil)) .nil))) (.cst (.int 2)))) .nil)) .nil) (.cons (.ifs (.cmp .Eq (.idx (.var 0) (.cst (.int 0))) (.cst (.str "wrap"))) (.cons (.set 4 (.bin .Add (.bin .Sub (.idx (.var 0) (.cst (.int 2))) (.idx (.var 0) (.cst (.int 1)))) (.cst (.int 1)))) .nil) .nil) (.cons (.set 5 (.lst .nil)) (.cons l1__law_tried (.cons (.ret (.bi .sorted (.cons c1__law_tried .nil))) .nil))))))))⟩
def c1__law_set : Ex := .comp [9] (.nm 9) (.seq (.var 6)) .yes (.bi .int (.cons (.var 9) .nil))
def c2__law_set : Ex := .comp [9] (.nm 9) (.seq (.var 6)) .yes (.bi .int (.cons (.neg (.var 9)) .nil))
def c3__law_set : Ex := .comp [8] (.nm 8) (.rng1 (.bin .Add (.var 7) (.cst (.int 1)))) .yes (.var 8)
def f__law_set : Fn := ⟨["kind", "den", "top", "size", "whole", "rest", "found", "most", "k", "member"], ["kind", "den", "top"], [], (.cons (.set 3 (.bi .abs (.cons (.bi .int (.cons (.var 2) .nil)) .nil))) (.cons (.set 4 (.bin .FloorDiv (.var 3) (.var 1))) (.cons (.set 5 (.bin .Sub (.var 3) (.bin .Mult (.var 1) (.var 4)))) (.cons (.set 6 (.lst (.cons (.var 4) .nil))) (.cons (.ifs (.cmp .Gt (.var 5) (.cst (.int 0))) (.cons (.ex (.mut .append 6 (.cons (.bin .Add (.var 4) (.cst (.int 1))) .nil))) .nil) .nil) (.cons (.ifs (.an (.cmp .Eq (.idx (.var 0) (.cst (.int 0))) (.cst (.str "even"))) (.an (.cmp .Eq (.var 5) (.cst (.int 0))) (.cmp .Eq (.bin .Mod (.bi .int (.cons (.var 1) .nil)) (.cst (.int 2))) (.cst (.int 0))))) (.cons (.ifs (.cmp .Eq (.bin .Mod (.bi .int (.cons (.var 4) .nil)) (.cst (.int 2))) (.cst (.int 1))) (.cons (.set 6 (.lst (.cons (.bin .Sub (.var 4) (.cst (.int 1))) (.cons (.var 4) (.cons (.bin .Add (.var 4) (.cst (.int 1))) .nil))))) .nil) .nil) .nil) .nil) (.cons (.ifs (.an (.cmp .Eq (.idx (.var 0) (.cst (.int 0))) (.cst (.str "zero"))) (.an (.cmp .Gt (.var 4) (.cst (.int 0))) (.cmp .Lt (.var 5) (.bin .Sub (.var 1) (.cst (.int 1)))))) (.cons (.ex (.mut .append 6 (.cons (.bin .Sub (.var 4) (.cst (.int 1))) .nil))) .nil) .nil) (.cons (.ifs (.cmp .Eq (.idx (.var 0) (.cst (.int 0))) (.cst (.str "clip"))) (.cons (.set 7 (.bi .min2 (.cons (.bi .int (.cons (.var 3) .nil)) (.cons (.bi .int (.cons (.bin .Sub (.idx (.var 0) (.cst (.int 2))) (.idx (.var 0) (.cst (.int 1)))) .nil)) .nil)))) (.cons (.set 6 c3__law_set) .nil)) .nil) (.cons (.ifs (.cmp .Eq (.idx (.var 0) (.cst (.int 0))) (.cst (.str "wrap"))) (.cons (.set 5 (.bin .Mod (.bi .int (.cons (.var 3) .nil)) (.bin .Add (.bin .Sub (.idx (.var 0) (.cst (.int 2))) (.idx (.var 0) (.cst (.int 1)))) (.cst (.int 1))))) (.cons (.set 6 (.lst (.cons (.cst (.int 0)) .nil))) (.cons (.ifs (.cmp .Gt (.var 5) (.cst (.int 0))) (.cons (.set 6 (.lst (.cons (.var 5) (.cons (.bin .Sub (.var 5) (.bin .Add (.bin .Sub (.idx (.var 0) (.cst (.int 2))) (.idx (.var 0) (.cst (.int 1)))) (.cst (.int 1)))) .nil)))) .nil) .nil) .nil))) .nil) (.cons (.ifs (.cmp .Lt (.var 2) (.cst (.int 0))) (.cons (.ret (.bi .sorted (.cons c2__law_set .nil))) .nil) .nil) (.cons (.ret (.bi .sorted (.cons c1__law_set .nil))) .nil)))))))))))⟩
def f__law_is_int : Fn := ⟨["x"], ["x"], [], (.cons (.ret (.an (.isi (.var 0) (.ty "int")) (.nt (.isi (.var 0) (.ty "bool"))))) .nil)⟩
def f_check_den : Fn := ⟨["kind", "den"], ["kind", "den"], [], (.cons (.ifs (.or (.cmp .Lt (.var 1) (.cst (.int 1))) (.an (.cmp .Gt (.var 1) (.cst (.int 1))) (.nt (.val (.fld (.var 0) "is_round"))))) (.cons (.raise "BadCount" (.cons (.var 1) .nil)) .nil) .nil) .nil)⟩
def f_members_of : Fn := ⟨["kind", "other", "den", "top", "made_set"], ["kind", "other", "den", "top"], [], (.cons (.ifs (.cmp .Eq (.var 0) (.var 1)) (.cons (.set 4 (.cdx "SETS" (.fld (.var 0) "name"))) (.cons (.ret (.calv 4 (.cons (.var 0) (.cons (.var 2) (.cons (.var 3) .nil))))) .nil)) .nil) (.cons (.ret (.bi .tuple (.cons (.bi .sorted (.cons .dead .nil)) .nil))) .nil))⟩
def f_Kind___init__ : Fn := ⟨["self", "name", "low", "high", "farthest"], ["self", "name", "low", "high"], [(.int 0), (.int 0)], (.cons (.ifs (.an (.cmp .NotIn (.var 1) (.ccon "Kind" "ROUND")) (.cmp .NotIn (.var 1) (.tup (.cons (.cst (.str "clip")) (.cons (.cst (.str "wrap")) .nil))))) (.cons (.raise "BadKind" (.cons (.var 1) .nil)) .nil) .nil) (.cons (.set 4 (.ite (.cmp .In (.var 1) (.ccon "Kind" "ROUND")) (.cst (.int 0)) (.glb "FARTHEST"))) (.cons (.ifs (.nt (.cm2 .LtE .LtE (.neg (.var 4)) (.var 2) (.cst (.int 0)))) (.cons (.raise "BadCount" (.cons (.var 2) .nil)) .nil) .nil) (.cons (.ifs (.nt (.cm2 .LtE .LtE (.cst (.int 0)) (.var 3) (.var 4))) (.cons (.raise "BadCount" (.cons (.var 3) .nil)) .nil) .nil) (.cons (.setFld 0 "name" (.var 1)) (.cons (.setFld 0 "low" (.var 2)) (.cons (.setFld 0 "high" (.var 3)) .nil)))))))⟩
def f__law_made : Fn := ⟨["kind", "top", "den", "whole"], ["kind", "top", "den"], [], (.cons (.ifs (.cmp .Eq (.idx (.var 0) (.cst (.int 0))) (.cst (.str "clip"))) (.cons (.ret (.bi .max2 (.cons (.bi .int (.cons (.idx (.var 0) (.cst (.int 1))) .nil)) (.cons (.bi .min2 (.cons (.bi .int (.cons (.idx (.var 0) (.cst (.int 2))) .nil)) (.cons (.bi .int (.cons (.var 1) .nil)) .nil))) .nil)))) .nil) .nil) (.cons (.ifs (.cmp .Eq (.idx (.var 0) (.cst (.int 0))) (.cst (.str "wrap"))) (.cons (.ret (.bin .Add (.idx (.var 0) (.cst (.int 1))) (.bin .Mod (.bi .int (.cons (.bin .Sub (.var 1) (.idx (.var 0) (.cst (.int 1)))) .nil)) (.bin .Add (.bin .Sub (.idx (.var 0) (.cst (.int 2))) (.idx (.var 0) (.cst (.int 1)))) (.cst (.int 1)))))) .nil) .nil) (.cons (.ifs (.or (.cmp .Eq (.idx (.var 0) (.cst (.int 0))) (.cst (.str "floor"))) (.an (.cmp .Eq (.idx (.var 0) (.cst (.int 0))) (.cst (.str "zero"))) (.cmp .Gt (.var 1) (.cst (.int 0))))) (.cons (.ret (.bin .FloorDiv (.var 1) (.var 2))) .nil) .nil) (.cons (.ifs (.or (.cmp .Eq (.idx (.var 0) (.cst (.int 0))) (.cst (.str "ceil"))) (.cmp .Eq (.idx (.var 0) (.cst (.int 0))) (.cst (.str "zero")))) (.cons (.ret (.neg (.bin .FloorDiv (.neg (.var 1)) (.var 2)))) .nil) .nil) (.cons (.set 3 (.bin .FloorDiv (.bin .Add (.bin .Mult (.cst (.int 2)) (.var 1)) (.var 2)) (.bin .Mult (.cst (.int 2)) (.var 2)))) (.cons (.ifs (.an (.cmp .Eq (.idx (.var 0) (.cst (.int 0))) (.cst (.str "even"))) (.cmp .Eq (.bin .Mult (.bin .Mult (.cst (.int 2)) (.var 2)) (.var 3)) (.bin .Add (.bin .Mult (.cst (.int 2)) (.var 1)) (.var 2)))) (.cons (.ret (.bin .Sub (.var 3) (.bin .Mod (.bi .int (.cons (.var 3) .nil)) (.cst (.int 2))))) .nil) .nil) (.cons (.ret (.var 3)) .nil)))))))⟩
def f_Kind_is_round : Fn := ⟨["self"], ["self"], [], (.cons (.ret (.cmp .In (.fld (.var 0) "name") (.ccon "Kind" "ROUND"))) .nil)⟩
def f_Kind___eq__ : Fn := ⟨["self", "other"], ["self", "other"], [], (.cons (.ret (.an (.isi (.var 1) (.cl "Kind")) (.an (.cmp .Eq (.fld (.var 0) "name") (.fld (.var 1) "name")) (.an (.cmp .Eq (.fld (.var 0) "low") (.fld (.var 1) "low")) (.cmp .Eq (.fld (.var 0) "high") (.fld (.var 1) "high")))))) .nil)⟩
def f_around_set : Fn := ⟨["kind", "den", "top", "whole", "rest"], ["kind", "den", "top"], [], (.cons (.asg [3, 4] (.bi .divmod (.cons (.var 2) (.cons (.var 1) .nil)))) (.cons (.ret (.ite (.cmp .Eq (.var 4) (.cst (.int 0))) (.tup (.cons (.var 3) .nil)) (.tup (.cons (.var 3) (.cons (.bin .Add (.var 3) (.cst (.int 1))) .nil))))) .nil))⟩
def f_even_set : Fn := ⟨["kind", "den", "top", "whole", "rest"], ["kind", "den", "top"], [], (.cons (.asg [3, 4] (.bi .divmod (.cons (.var 2) (.cons (.var 1) .nil)))) (.cons (.ifs (.an (.cmp .Eq (.var 4) (.cst (.int 0))) (.an (.cmp .Eq (.bin .Mod (.var 1) (.cst (.int 2))) (.cst (.int 0))) (.cmp .Eq (.bin .Mod (.var 3) (.cst (.int 2))) (.cst (.int 1))))) (.cons (.ret (.tup (.cons (.bin .Sub (.var 3) (.cst (.int 1))) (.cons (.var 3) (.cons (.bin .Add (.var 3) (.cst (.int 1))) .nil))))) .nil) .nil) (.cons (.ret (.call "around_set" (.cons (.var 0) (.cons (.var 1) (.cons (.var 2) .nil))))) .nil)))⟩
def f_zero_set : Fn := ⟨["kind", "den", "top", "whole", "rest", "least", "most"], ["kind", "den", "top"], [], (.cons (.ifs (.cmp .Lt (.var 2) (.cst (.int 0))) (.cons (.ret (.call "mirrored" (.cons (.call "zero_set" (.cons (.var 0) (.cons (.var 1) (.cons (.neg (.var 2)) .nil)))) .nil))) .nil) .nil) (.cons (.asg [3, 4] (.bi .divmod (.cons (.var 2) (.cons (.var 1) .nil)))) (.cons (.set 5 (.ite (.an (.cmp .GtE (.var 3) (.cst (.int 1))) (.cmp .LtE (.var 4) (.bin .Sub (.var 1) (.cst (.int 2))))) (.bin .Sub (.var 3) (.cst (.int 1))) (.var 3))) (.cons (.set 6 (.ite (.cmp .Eq (.var 4) (.cst (.int 0))) (.var 3) (.bin .Add (.var 3) (.cst (.int 1))))) (.cons (.ret (.rg2 true (.var 5) (.bin .Add (.var 6) (.cst (.int 1))))) .nil)))))⟩
def f_clip_set : Fn := ⟨["kind", "den", "top", "least", "most"], ["kind", "den", "top"], [], (.cons (.asg [3, 4] (.call "clip_ends" (.cons (.var 0) (.cons (.var 2) .nil)))) (.cons (.ret (.rg2 true (.var 3) (.bin .Add (.var 4) (.cst (.int 1))))) .nil))⟩
def f_wrap_set : Fn := ⟨["kind", "den", "top", "turn", "rest"], ["kind", "den", "top"], [], (.cons (.set 3 (.bin .Add (.bin .Sub (.fld (.var 0) "high") (.fld (.var 0) "low")) (.cst (.int 1)))) (.cons (.set 4 (.bin .Mod (.var 2) (.var 3))) (.cons (.ret (.ite (.cmp .Eq (.var 4) (.cst (.int 0))) (.tup (.cons (.cst (.int 0)) .nil)) (.tup (.cons (.bin .Sub (.var 4) (.var 3)) (.cons (.var 4) .nil))))) .nil)))⟩
def c1_mirrored : Ex := .comp [1] (.nm 1) (.seq (.rev (.var 0))) .yes (.neg (.var 1))
def f_mirrored : Fn := ⟨["members", "member"], ["members"], [], (.cons (.ret (.bi .tuple (.cons c1_mirrored .nil))) .nil)⟩
def f_clip_ends : Fn := ⟨["kind", "top", "span"], ["kind", "top"], [], (.cons (.set 2 (.bin .Sub (.fld (.var 0) "high") (.fld (.var 0) "low"))) (.cons (.ifs (.cmp .Lt (.var 1) (.cst (.int 0))) (.cons (.ret (.tup (.cons (.ite (.cmp .Gt (.neg (.var 2)) (.var 1)) (.neg (.var 2)) (.var 1)) (.cons (.cst (.int 0)) .nil)))) .nil) .nil) (.cons (.ret (.tup (.cons (.cst (.int 0)) (.cons (.ite (.cmp .Lt (.var 2) (.var 1)) (.var 2) (.var 1)) .nil)))) .nil)))⟩
def T : Tb where
  pl := ([("law", .glo "law"), ("_law_pool", .glo "_law_pool"), ("_law_kinds", .glo "_law_kinds"), ("_law_small", .glo "_law_small"), ("_law_take", .glo "_law_take"), ("_law_great", .glo "_law_great"), ("_law_row", .glo "_law_row"), ("choice_set", .glo "choice_set"), ("_law_kind", .glo "_law_kind"), ("_law_refused", .glo "_law_refused"), ("_law_bound", .glo "_law_bound"), ("_law_tried", .glo "_law_tried"), ("_law_set", .glo "_law_set"), ("_law_is_int", .glo "_law_is_int"), ("check_den", .glo "check_den"), ("members_of", .glo "members_of"), ("Kind.__init__", .meth "Kind" "__init__"), ("_law_made", .glo "_law_made"), ("Kind.is_round", .prop "Kind" "is_round"), ("Kind.__eq__", .meth "Kind" "__eq__")] : List (Str × Pl)) ++ ([("around_set", .glo "around_set"), ("even_set", .glo "even_set"), ("zero_set", .glo "zero_set"), ("clip_set", .glo "clip_set"), ("wrap_set", .glo "wrap_set"), ("mirrored", .glo "mirrored"), ("clip_ends", .glo "clip_ends"), ("Kind", .glo "Kind"), ("BadCount", .glo "BadCount"), ("BadKind", .glo "BadKind"), ("BadLength", .glo "BadLength"), ("BadPlace", .glo "BadPlace"), ("Mismatch", .glo "Mismatch"), ("NotChosen", .glo "NotChosen"), ("WebError", .glo "WebError")] : List (Str × Pl))
  fns := ([("law", f_law), ("_law_pool", f__law_pool), ("_law_kinds", f__law_kinds), ("_law_small", f__law_small), ("_law_take", f__law_take), ("_law_great", f__law_great), ("_law_row", f__law_row), ("choice_set", f_choice_set), ("_law_kind", f__law_kind), ("_law_refused", f__law_refused), ("_law_bound", f__law_bound), ("_law_tried", f__law_tried), ("_law_set", f__law_set), ("_law_is_int", f__law_is_int), ("check_den", f_check_den), ("members_of", f_members_of), ("Kind.__init__", f_Kind___init__), ("_law_made", f__law_made), ("Kind.is_round", f_Kind_is_round), ("Kind.__eq__", f_Kind___eq__)] : List (Str × Fn)) ++ ([("around_set", f_around_set), ("even_set", f_even_set), ("zero_set", f_zero_set), ("clip_set", f_clip_set), ("wrap_set", f_wrap_set), ("mirrored", f_mirrored), ("clip_ends", f_clip_ends)] : List (Str × Fn))
  cst := [("FARTHEST", (.int 1000000000))]
  prop := [("Kind", "is_round", "Kind.is_round")]
  meth := []
  ccon := [("Kind", "ROUND", (.tup [(.str "floor"), (.str "ceil"), (.str "near"), (.str "even"), (.str "zero")]))]
  eqm := [("Kind", "Kind.__eq__")]
  dct := [("SETS", [("floor", (.fn "around_set")), ("ceil", (.fn "around_set")), ("near", (.fn "around_set")), ("even", (.fn "even_set")), ("zero", (.fn "zero_set")), ("clip", (.fn "clip_set")), ("wrap", (.fn "wrap_set"))])]
  sub := [("BadCount", "BadCount"), ("BadCount", "WebError"), ("BadKind", "BadKind"), ("BadKind", "WebError"), ("BadLength", "BadLength"), ("BadLength", "WebError"), ("BadPlace", "BadPlace"), ("BadPlace", "WebError"), ("Mismatch", "Mismatch"), ("Mismatch", "WebError"), ("NotChosen", "NotChosen"), ("NotChosen", "WebError"), ("WebError", "WebError"), ("Kind", "Kind")]
  cl := ["Kind"]
  gl := (["_law_pool", "_law_kinds", "_law_small", "_law_take", "_law_great", "_law_row", "choice_set", "_law_kind", "_law_refused", "_law_bound", "_law_tried", "_law_set", "_law_is_int", "check_den", "members_of", "_law_made", "around_set", "mirrored", "zero_set", "clip_ends"] : List Str) ++ (["law", "even_set", "clip_set", "wrap_set"] : List Str)
  bl := ["abs", "int", "len", "isinstance", "tuple", "range", "max", "sorted", "min", "bool", "divmod"]
  flds := [("Kind", ["name", "low", "high"])]
  exc := [("BadCount", ["count"]), ("BadKind", ["name"])]
  kws := [("choice_set", 0, ["top", "kind", "den"])]
  xcl := ["BadCount", "BadKind", "BadLength", "BadPlace", "Mismatch", "NotChosen", "WebError"]
  lf := 1000
end L24
end
section
set_option Elab.async false
set_option linter.all false
set_option maxRecDepth 100000
set_option maxHeartbeats 4000000
namespace L24
open PySem PySem.Spec PyProof.Rows L2 Ky
theorem ne_floor_ceil : (("floor" : Str) = "ceil") = False := eq_false (by decide +kernel)
theorem ne_floor_near : (("floor" : Str) = "near") = False := eq_false (by decide +kernel)
theorem ne_floor_even : (("floor" : Str) = "even") = False := eq_false (by decide +kernel)
theorem ne_floor_zero : (("floor" : Str) = "zero") = False := eq_false (by decide +kernel)
theorem ne_floor_clip : (("floor" : Str) = "clip") = False := eq_false (by decide +kernel)
theorem ne_floor_wrap : (("floor" : Str) = "wrap") = False := eq_false (by decide +kernel)
theorem ne_ceil_floor : (("ceil" : Str) = "floor") = False := eq_false (by decide +kernel)
theorem ne_ceil_near : (("ceil" : Str) = "near") = False := eq_false (by decide +kernel)
theorem ne_ceil_even : (("ceil" : Str) = "even") = False := eq_false (by decide +kernel)
theorem ne_ceil_zero : (("ceil" : Str) = "zero") = False := eq_false (by decide +kernel)
theorem ne_ceil_clip : (("ceil" : Str) = "clip") = False := eq_false (by decide +kernel)
theorem ne_ceil_wrap : (("ceil" : Str) = "wrap") = False := eq_false (by decide +kernel)
theorem ne_near_floor : (("near" : Str) = "floor") = False := eq_false (by decide +kernel)
theorem ne_near_ceil : (("near" : Str) = "ceil") = False := eq_false (by decide +kernel)
theorem ne_near_even : (("near" : Str) = "even") = False := eq_false (by decide +kernel)
theorem ne_near_zero : (("near" : Str) = "zero") = False := eq_false (by decide +kernel)
theorem ne_near_clip : (("near" : Str) = "clip") = False := eq_false (by decide +kernel)
theorem ne_near_wrap : (("near" : Str) = "wrap") = False := eq_false (by decide +kernel)
theorem ne_even_floor : (("even" : Str) = "floor") = False := eq_false (by decide +kernel)
theorem ne_even_ceil : (("even" : Str) = "ceil") = False := eq_false (by decide +kernel)
theorem ne_even_near : (("even" : Str) = "near") = False := eq_false (by decide +kernel)
theorem ne_even_zero : (("even" : Str) = "zero") = False := eq_false (by decide +kernel)
theorem ne_even_clip : (("even" : Str) = "clip") = False := eq_false (by decide +kernel)
theorem ne_even_wrap : (("even" : Str) = "wrap") = False := eq_false (by decide +kernel)
theorem ne_zero_floor : (("zero" : Str) = "floor") = False := eq_false (by decide +kernel)
theorem ne_zero_ceil : (("zero" : Str) = "ceil") = False := eq_false (by decide +kernel)
theorem ne_zero_near : (("zero" : Str) = "near") = False := eq_false (by decide +kernel)
theorem ne_zero_even : (("zero" : Str) = "even") = False := eq_false (by decide +kernel)
theorem ne_zero_clip : (("zero" : Str) = "clip") = False := eq_false (by decide +kernel)
theorem ne_zero_wrap : (("zero" : Str) = "wrap") = False := eq_false (by decide +kernel)
theorem ne_clip_floor : (("clip" : Str) = "floor") = False := eq_false (by decide +kernel)
theorem ne_clip_ceil : (("clip" : Str) = "ceil") = False := eq_false (by decide +kernel)
theorem ne_clip_near : (("clip" : Str) = "near") = False := eq_false (by decide +kernel)
theorem ne_clip_even : (("clip" : Str) = "even") = False := eq_false (by decide +kernel)
theorem ne_clip_zero : (("clip" : Str) = "zero") = False := eq_false (by decide +kernel)
theorem ne_clip_wrap : (("clip" : Str) = "wrap") = False := eq_false (by decide +kernel)
theorem ne_wrap_floor : (("wrap" : Str) = "floor") = False := eq_false (by decide +kernel)
theorem ne_wrap_ceil : (("wrap" : Str) = "ceil") = False := eq_false (by decide +kernel)
theorem ne_wrap_near : (("wrap" : Str) = "near") = False := eq_false (by decide +kernel)
theorem ne_wrap_even : (("wrap" : Str) = "even") = False := eq_false (by decide +kernel)
theorem ne_wrap_zero : (("wrap" : Str) = "zero") = False := eq_false (by decide +kernel)
theorem ne_wrap_clip : (("wrap" : Str) = "clip") = False := eq_false (by decide +kernel)
theorem ne_name_low : (("name" : Str) = "low") = False := eq_false (by decide +kernel)
theorem ne_name_high : (("name" : Str) = "high") = False := eq_false (by decide +kernel)
theorem ne_name_is_round : (("name" : Str) = "is_round") = False := eq_false (by decide +kernel)
theorem ne_name_count : (("name" : Str) = "count") = False := eq_false (by decide +kernel)
theorem ne_low_name : (("low" : Str) = "name") = False := eq_false (by decide +kernel)
theorem ne_low_high : (("low" : Str) = "high") = False := eq_false (by decide +kernel)
theorem ne_low_is_round : (("low" : Str) = "is_round") = False := eq_false (by decide +kernel)
theorem ne_low_count : (("low" : Str) = "count") = False := eq_false (by decide +kernel)
theorem ne_high_name : (("high" : Str) = "name") = False := eq_false (by decide +kernel)
theorem ne_high_low : (("high" : Str) = "low") = False := eq_false (by decide +kernel)
theorem ne_high_is_round : (("high" : Str) = "is_round") = False := eq_false (by decide +kernel)
theorem ne_high_count : (("high" : Str) = "count") = False := eq_false (by decide +kernel)
theorem ne_is_round_name : (("is_round" : Str) = "name") = False := eq_false (by decide +kernel)
theorem ne_is_round_low : (("is_round" : Str) = "low") = False := eq_false (by decide +kernel)
theorem ne_is_round_high : (("is_round" : Str) = "high") = False := eq_false (by decide +kernel)
theorem ne_is_round_count : (("is_round" : Str) = "count") = False := eq_false (by decide +kernel)
theorem ne_count_name : (("count" : Str) = "name") = False := eq_false (by decide +kernel)
theorem ne_count_low : (("count" : Str) = "low") = False := eq_false (by decide +kernel)
theorem ne_count_high : (("count" : Str) = "high") = False := eq_false (by decide +kernel)
theorem ne_count_is_round : (("count" : Str) = "is_round") = False := eq_false (by decide +kernel)
theorem bq_name_low : (("name" : Str) == "low") = false := by decide +kernel
theorem bq_name_high : (("name" : Str) == "high") = false := by decide +kernel
theorem bq_name_is_round : (("name" : Str) == "is_round") = false := by decide +kernel
theorem bq_name_count : (("name" : Str) == "count") = false := by decide +kernel
theorem bq_low_name : (("low" : Str) == "name") = false := by decide +kernel
theorem bq_low_high : (("low" : Str) == "high") = false := by decide +kernel
theorem bq_low_is_round : (("low" : Str) == "is_round") = false := by decide +kernel
theorem bq_low_count : (("low" : Str) == "count") = false := by decide +kernel
theorem bq_high_name : (("high" : Str) == "name") = false := by decide +kernel
theorem bq_high_low : (("high" : Str) == "low") = false := by decide +kernel
theorem bq_high_is_round : (("high" : Str) == "is_round") = false := by decide +kernel
theorem bq_high_count : (("high" : Str) == "count") = false := by decide +kernel
theorem bq_is_round_name : (("is_round" : Str) == "name") = false := by decide +kernel
theorem bq_is_round_low : (("is_round" : Str) == "low") = false := by decide +kernel
theorem bq_is_round_high : (("is_round" : Str) == "high") = false := by decide +kernel
theorem bq_is_round_count : (("is_round" : Str) == "count") = false := by decide +kernel
theorem bq_count_name : (("count" : Str) == "name") = false := by decide +kernel
theorem bq_count_low : (("count" : Str) == "low") = false := by decide +kernel
theorem bq_count_high : (("count" : Str) == "high") = false := by decide +kernel
theorem bq_count_is_round : (("count" : Str) == "is_round") = false := by decide +kernel
theorem bq_floor_ceil : (("floor" : Str) == "ceil") = false := by decide +kernel
theorem bq_floor_near : (("floor" : Str) == "near") = false := by decide +kernel
theorem bq_floor_even : (("floor" : Str) == "even") = false := by decide +kernel
theorem bq_floor_zero : (("floor" : Str) == "zero") = false := by decide +kernel
theorem bq_floor_clip : (("floor" : Str) == "clip") = false := by decide +kernel
theorem bq_floor_wrap : (("floor" : Str) == "wrap") = false := by decide +kernel
theorem bq_ceil_floor : (("ceil" : Str) == "floor") = false := by decide +kernel
theorem bq_ceil_near : (("ceil" : Str) == "near") = false := by decide +kernel
theorem bq_ceil_even : (("ceil" : Str) == "even") = false := by decide +kernel
theorem bq_ceil_zero : (("ceil" : Str) == "zero") = false := by decide +kernel
theorem bq_ceil_clip : (("ceil" : Str) == "clip") = false := by decide +kernel
theorem bq_ceil_wrap : (("ceil" : Str) == "wrap") = false := by decide +kernel
theorem bq_near_floor : (("near" : Str) == "floor") = false := by decide +kernel
theorem bq_near_ceil : (("near" : Str) == "ceil") = false := by decide +kernel
theorem bq_near_even : (("near" : Str) == "even") = false := by decide +kernel
theorem bq_near_zero : (("near" : Str) == "zero") = false := by decide +kernel
theorem bq_near_clip : (("near" : Str) == "clip") = false := by decide +kernel
theorem bq_near_wrap : (("near" : Str) == "wrap") = false := by decide +kernel
theorem bq_even_floor : (("even" : Str) == "floor") = false := by decide +kernel
theorem bq_even_ceil : (("even" : Str) == "ceil") = false := by decide +kernel
theorem bq_even_near : (("even" : Str) == "near") = false := by decide +kernel
theorem bq_even_zero : (("even" : Str) == "zero") = false := by decide +kernel
theorem bq_even_clip : (("even" : Str) == "clip") = false := by decide +kernel
theorem bq_even_wrap : (("even" : Str) == "wrap") = false := by decide +kernel
theorem bq_zero_floor : (("zero" : Str) == "floor") = false := by decide +kernel
theorem bq_zero_ceil : (("zero" : Str) == "ceil") = false := by decide +kernel
theorem bq_zero_near : (("zero" : Str) == "near") = false := by decide +kernel
theorem bq_zero_even : (("zero" : Str) == "even") = false := by decide +kernel
theorem bq_zero_clip : (("zero" : Str) == "clip") = false := by decide +kernel
theorem bq_zero_wrap : (("zero" : Str) == "wrap") = false := by decide +kernel
theorem bq_clip_floor : (("clip" : Str) == "floor") = false := by decide +kernel
theorem bq_clip_ceil : (("clip" : Str) == "ceil") = false := by decide +kernel
theorem bq_clip_near : (("clip" : Str) == "near") = false := by decide +kernel
theorem bq_clip_even : (("clip" : Str) == "even") = false := by decide +kernel
theorem bq_clip_zero : (("clip" : Str) == "zero") = false := by decide +kernel
theorem bq_clip_wrap : (("clip" : Str) == "wrap") = false := by decide +kernel
theorem bq_wrap_floor : (("wrap" : Str) == "floor") = false := by decide +kernel
theorem bq_wrap_ceil : (("wrap" : Str) == "ceil") = false := by decide +kernel
theorem bq_wrap_near : (("wrap" : Str) == "near") = false := by decide +kernel
theorem bq_wrap_even : (("wrap" : Str) == "even") = false := by decide +kernel
theorem bq_wrap_zero : (("wrap" : Str) == "zero") = false := by decide +kernel
theorem bq_wrap_clip : (("wrap" : Str) == "clip") = false := by decide +kernel
theorem fn_law : T.fn "law" = some f_law := by kernel_rfl
theorem fn__law_pool : T.fn "_law_pool" = some f__law_pool := by kernel_rfl
theorem fn__law_kinds : T.fn "_law_kinds" = some f__law_kinds := by kernel_rfl
theorem fn__law_small : T.fn "_law_small" = some f__law_small := by kernel_rfl
theorem fn__law_take : T.fn "_law_take" = some f__law_take := by kernel_rfl
theorem fn__law_great : T.fn "_law_great" = some f__law_great := by kernel_rfl
theorem fn__law_row : T.fn "_law_row" = some f__law_row := by kernel_rfl
theorem fn_choice_set : T.fn "choice_set" = some f_choice_set := by kernel_rfl
theorem fn__law_kind : T.fn "_law_kind" = some f__law_kind := by kernel_rfl
theorem fn__law_refused : T.fn "_law_refused" = some f__law_refused := by kernel_rfl
theorem fn__law_bound : T.fn "_law_bound" = some f__law_bound := by kernel_rfl
theorem fn__law_tried : T.fn "_law_tried" = some f__law_tried := by kernel_rfl
theorem fn__law_set : T.fn "_law_set" = some f__law_set := by kernel_rfl
theorem fn__law_is_int : T.fn "_law_is_int" = some f__law_is_int := by kernel_rfl
theorem fn_check_den : T.fn "check_den" = some f_check_den := by kernel_rfl
theorem fn_members_of : T.fn "members_of" = some f_members_of := by kernel_rfl
theorem fn_Kind___init__ : T.fn "Kind.__init__" = some f_Kind___init__ := by kernel_rfl
theorem fn__law_made : T.fn "_law_made" = some f__law_made := by kernel_rfl
theorem fn_Kind_is_round : T.fn "Kind.is_round" = some f_Kind_is_round := by kernel_rfl
theorem fn_Kind___eq__ : T.fn "Kind.__eq__" = some f_Kind___eq__ := by kernel_rfl
theorem fn_around_set : T.fn "around_set" = some f_around_set := by kernel_rfl
theorem fn_even_set : T.fn "even_set" = some f_even_set := by kernel_rfl
theorem fn_zero_set : T.fn "zero_set" = some f_zero_set := by kernel_rfl
theorem fn_clip_set : T.fn "clip_set" = some f_clip_set := by kernel_rfl
theorem fn_wrap_set : T.fn "wrap_set" = some f_wrap_set := by kernel_rfl
theorem fn_mirrored : T.fn "mirrored" = some f_mirrored := by kernel_rfl
theorem fn_clip_ends : T.fn "clip_ends" = some f_clip_ends := by kernel_rfl
theorem hotG : T.G.hot = false := rfl
end L24
end
section
set_option Elab.async false
set_option linter.all false
set_option maxRecDepth 100000
set_option maxHeartbeats 4000000
namespace L24
open PySem PySem.Spec PyProof.Rows L2 Ky
local macro_rules | `(tactic| walk_at "ky") => `(tactic| simp [exSs, exS, ev, evs, evT, evO, evI, bind_ok, bind_exc, bind_bad, to_ok, to_exc, to_bad, of_so, of_no, nx_ok, dat_v, dat_own, dat_sl, sdat_v, sdat_own, sdat_bor, sdat_lk, sdat_ro, odat_L, odat_I, frz_v, frz_own, frz_sl, frzs_nil, frzs_cons, toS_v, toS_own, toS_sl, snx_so, snx_no, isi_non_int, isi_non_bool, isi_non_str, isi_non_list, isi_non_tuple, isi_non_cl, isi_bl_int, isi_bl_bool, isi_bl_str, isi_bl_list, isi_bl_tuple, isi_bl_cl, isi_int_int, isi_int_bool, isi_int_str, isi_int_list, isi_int_tuple, isi_int_cl, isi_str_int, isi_str_bool, isi_str_str, isi_str_list, isi_str_tuple, isi_str_cl, isi_tup_int, isi_tup_bool, isi_tup_str, isi_tup_list, isi_tup_tuple, isi_tup_cl, isi_lst_int, isi_lst_bool, isi_lst_str, isi_lst_list, isi_lst_tuple, isi_lst_cl, isi_scr_int, isi_scr_bool, isi_scr_str, isi_scr_list, isi_scr_tuple, isi_scr_cl, isi_ins_int, isi_ins_bool, isi_ins_str, isi_ins_list, isi_ins_tuple, isi_ins_cl, fin, outs, cmpR, cmpD, eqD, biD, lenD, lim, binD, augD, negD, truD, ixD, mutD, put, isLs, at_hot, at_cst, at_prop, at_meth, at_ccon, at_eqm, at_dct, at_sub, at_cl, at_gl, at_bl, at_flds, at_exc, at_kws, at_xcl, at_lf, hotB, asgT, callR, lends, lend, ndN, slOf, borN, back, argsE, setK, kindS, lose, lks, lock, lock1, unlock, unlock1, itemsD, loopF_nil, loopF_cons, inD_tup, inD_iL, flatD, eqF, rngI_iL, rgR_t, rgR_f, mkC, dropX, List.filterMap_cons, List.filterMap_nil, atI_0, atI_1, atI_2, atI_3, atI_4, iL_nil, iL_len, intsD_iL, List.lookup_cons, List.lookup_nil, ne_floor_ceil, ne_floor_near, ne_floor_even, ne_floor_zero, ne_floor_clip, ne_floor_wrap, ne_ceil_floor, ne_ceil_near, ne_ceil_even, ne_ceil_zero, ne_ceil_clip, ne_ceil_wrap, ne_near_floor, ne_near_ceil, ne_near_even, ne_near_zero, ne_near_clip, ne_near_wrap, ne_even_floor, ne_even_ceil, ne_even_near, ne_even_zero, ne_even_clip, ne_even_wrap, ne_zero_floor, ne_zero_ceil, ne_zero_near, ne_zero_even, ne_zero_clip, ne_zero_wrap, ne_clip_floor, ne_clip_ceil, ne_clip_near, ne_clip_even, ne_clip_zero, ne_clip_wrap, ne_wrap_floor, ne_wrap_ceil, ne_wrap_near, ne_wrap_even, ne_wrap_zero, ne_wrap_clip, ne_name_low, ne_name_high, ne_name_is_round, ne_name_count, ne_low_name, ne_low_high, ne_low_is_round, ne_low_count, ne_high_name, ne_high_low, ne_high_is_round, ne_high_count, ne_is_round_name, ne_is_round_low, ne_is_round_high, ne_is_round_count, ne_count_name, ne_count_low, ne_count_high, ne_count_is_round, bq_name_low, bq_name_high, bq_name_is_round, bq_name_count, bq_low_name, bq_low_high, bq_low_is_round, bq_low_count, bq_high_name, bq_high_low, bq_high_is_round, bq_high_count, bq_is_round_name, bq_is_round_low, bq_is_round_high, bq_is_round_count, bq_count_name, bq_count_low, bq_count_high, bq_count_is_round, bq_floor_ceil, bq_floor_near, bq_floor_even, bq_floor_zero, bq_floor_clip, bq_floor_wrap, bq_ceil_floor, bq_ceil_near, bq_ceil_even, bq_ceil_zero, bq_ceil_clip, bq_ceil_wrap, bq_near_floor, bq_near_ceil, bq_near_even, bq_near_zero, bq_near_clip, bq_near_wrap, bq_even_floor, bq_even_ceil, bq_even_near, bq_even_zero, bq_even_clip, bq_even_wrap, bq_zero_floor, bq_zero_ceil, bq_zero_near, bq_zero_even, bq_zero_clip, bq_zero_wrap, bq_clip_floor, bq_clip_ceil, bq_clip_near, bq_clip_even, bq_clip_zero, bq_clip_wrap, bq_wrap_floor, bq_wrap_ceil, bq_wrap_near, bq_wrap_even, bq_wrap_zero, bq_wrap_clip, *])
local macro_rules | `(tactic| walk_at "kx") => `(tactic| simp [exSs, exS.eq_1, exS.eq_2, exS.eq_3, exS.eq_4, exS.eq_5, exS.eq_6, exS.eq_7, exS.eq_8, exS.eq_9, exS.eq_10, exS.eq_13, exS.eq_14, exS.eq_15, exS.eq_16, exS.eq_17, exS.eq_18, ev.eq_1, ev.eq_2, ev.eq_3, ev.eq_4, ev.eq_5, ev.eq_6, ev.eq_7, ev.eq_8, ev.eq_9, ev.eq_10, ev.eq_11, ev.eq_12, ev.eq_13, ev.eq_14, ev.eq_15, ev.eq_16, ev.eq_17, ev.eq_18, ev.eq_19, ev.eq_20, ev.eq_21, ev.eq_22, ev.eq_23, ev.eq_24, ev.eq_25, ev.eq_26, ev.eq_27, ev.eq_29, ev.eq_30, ev.eq_31, ev.eq_32, ev.eq_33, ev.eq_34, ev.eq_35, evs, evT, evO, evI, bind_ok, bind_exc, bind_bad, to_ok, to_exc, to_bad, of_so, of_no, nx_ok, dat_v, dat_own, dat_sl, sdat_v, sdat_own, sdat_bor, sdat_lk, sdat_ro, odat_L, odat_I, frz_v, frz_own, frz_sl, frzs_nil, frzs_cons, toS_v, toS_own, toS_sl, snx_so, snx_no, isi_non_int, isi_non_bool, isi_non_str, isi_non_list, isi_non_tuple, isi_non_cl, isi_bl_int, isi_bl_bool, isi_bl_str, isi_bl_list, isi_bl_tuple, isi_bl_cl, isi_int_int, isi_int_bool, isi_int_str, isi_int_list, isi_int_tuple, isi_int_cl, isi_str_int, isi_str_bool, isi_str_str, isi_str_list, isi_str_tuple, isi_str_cl, isi_tup_int, isi_tup_bool, isi_tup_str, isi_tup_list, isi_tup_tuple, isi_tup_cl, isi_lst_int, isi_lst_bool, isi_lst_str, isi_lst_list, isi_lst_tuple, isi_lst_cl, isi_scr_int, isi_scr_bool, isi_scr_str, isi_scr_list, isi_scr_tuple, isi_scr_cl, isi_ins_int, isi_ins_bool, isi_ins_str, isi_ins_list, isi_ins_tuple, isi_ins_cl, fin, outs, cmpR, cmpD, eqD, biD, lenD, lim, binD, augD, negD, truD, ixD, mutD, put, isLs, at_hot, at_cst, at_prop, at_meth, at_ccon, at_eqm, at_dct, at_sub, at_cl, at_gl, at_bl, at_flds, at_exc, at_kws, at_xcl, at_lf, hotB, asgT, callR, lends, lend, ndN, slOf, borN, back, argsE, setK, kindS, lose, lks, lock, lock1, unlock, unlock1, itemsD, inD_tup, inD_iL, flatD, eqF, rngI_iL, rgR_t, rgR_f, mkC, dropX, List.filterMap_cons, List.filterMap_nil, atI_0, atI_1, atI_2, atI_3, atI_4, iL_nil, iL_len, intsD_iL, plainAt, wipeE, restE, List.lookup_cons, List.lookup_nil, ne_floor_ceil, ne_floor_near, ne_floor_even, ne_floor_zero, ne_floor_clip, ne_floor_wrap, ne_ceil_floor, ne_ceil_near, ne_ceil_even, ne_ceil_zero, ne_ceil_clip, ne_ceil_wrap, ne_near_floor, ne_near_ceil, ne_near_even, ne_near_zero, ne_near_clip, ne_near_wrap, ne_even_floor, ne_even_ceil, ne_even_near, ne_even_zero, ne_even_clip, ne_even_wrap, ne_zero_floor, ne_zero_ceil, ne_zero_near, ne_zero_even, ne_zero_clip, ne_zero_wrap, ne_clip_floor, ne_clip_ceil, ne_clip_near, ne_clip_even, ne_clip_zero, ne_clip_wrap, ne_wrap_floor, ne_wrap_ceil, ne_wrap_near, ne_wrap_even, ne_wrap_zero, ne_wrap_clip, ne_name_low, ne_name_high, ne_name_is_round, ne_name_count, ne_low_name, ne_low_high, ne_low_is_round, ne_low_count, ne_high_name, ne_high_low, ne_high_is_round, ne_high_count, ne_is_round_name, ne_is_round_low, ne_is_round_high, ne_is_round_count, ne_count_name, ne_count_low, ne_count_high, ne_count_is_round, bq_name_low, bq_name_high, bq_name_is_round, bq_name_count, bq_low_name, bq_low_high, bq_low_is_round, bq_low_count, bq_high_name, bq_high_low, bq_high_is_round, bq_high_count, bq_is_round_name, bq_is_round_low, bq_is_round_high, bq_is_round_count, bq_count_name, bq_count_low, bq_count_high, bq_count_is_round, bq_floor_ceil, bq_floor_near, bq_floor_even, bq_floor_zero, bq_floor_clip, bq_floor_wrap, bq_ceil_floor, bq_ceil_near, bq_ceil_even, bq_ceil_zero, bq_ceil_clip, bq_ceil_wrap, bq_near_floor, bq_near_ceil, bq_near_even, bq_near_zero, bq_near_clip, bq_near_wrap, bq_even_floor, bq_even_ceil, bq_even_near, bq_even_zero, bq_even_clip, bq_even_wrap, bq_zero_floor, bq_zero_ceil, bq_zero_near, bq_zero_even, bq_zero_clip, bq_zero_wrap, bq_clip_floor, bq_clip_ceil, bq_clip_near, bq_clip_even, bq_clip_zero, bq_clip_wrap, bq_wrap_floor, bq_wrap_ceil, bq_wrap_near, bq_wrap_even, bq_wrap_zero, bq_wrap_clip, *])
theorem is_int_ok (n : Nat) (h : Bool) (i : Int) : callF T.G T.fn (n+1) h "_law_is_int" [.v (.int i)] = .ok (.v (.bl true)) [] := by
  rw [callF, fn__law_is_int]
  simp only [f__law_is_int]
  walk_at "ky"
theorem take_nil (n : Nat) (h : Bool) (m : Int) : callF T.G T.fn (n+1) h "_law_take" [.bor (.L []), .v (.int m)] = .ok (.v (.int 0)) [.L []] := by
  rw [callF, fn__law_take]
  simp only [f__law_take]
  walk_at "ky"
theorem take_cons (n : Nat) (h : Bool) (m c : Int) (p : List D) (hl : p.length < 1000) (hm : 0 < m) (hd : divB m = true) : callF T.G T.fn (n+1) h "_law_take" [.bor (.L (.int c :: p)), .v (.int m)] = .ok (.v (.int (c % m))) [.L (if m ≤ c then .int (c / m) :: p else p)] := by
  rw [callF, fn__law_take]
  simp only [f__law_take]
  have e1 : p.length < 16777216 := by omega
  have e2 : p.length + 1 ≤ 16777216 := by omega
  have e3 : ((p.length : Int) + 1 = 0) = False := by simp; omega
  by_cases hc : m ≤ c
  · walk_at "ky"
  · walk_at "ky"
theorem take_spec (n : Nat) (h : Bool) (m : Int) (p : List Int) (hl : p.length ≤ 63) (hm : 0 < m) (hd : divB m = true) : ∃ v p', callF T.G T.fn (n+1) h "_law_take" [.bor (.L (iL p)), .v (.int m)] = .ok (.v (.int v)) [.L (iL p')] ∧ 0 ≤ v ∧ v < m ∧ p'.length ≤ 63 := by
  cases p with
  | nil => exact ⟨0, [], take_nil n h m, by omega, hm, by simp⟩
  | cons c p =>
    refine ⟨c % m, if m ≤ c then c / m :: p else p, ?_, Int.emod_nonneg _ (by omega), Int.emod_lt_of_pos _ hm, by split <;> simp at hl ⊢ <;> omega⟩
    have := take_cons n h m c (iL p) (by rw [iL_len]; simp at hl; omega) hm hd
    rw [iL_cons, this]
    split <;> rfl
theorem bound_spec (n : Nat) (a : Int) (p : List Int) (hl : p.length ≤ 63) (ha : 0 ≤ a) : ∃ v p', callF T.G T.fn (n+2) false "_law_bound" [.bor (.L (iL p)), .v (.int a)] = .ok (.v (.int v)) [.L (iL p')] ∧ 0 ≤ v ∧ v ≤ 9 ∧ p'.length ≤ 63 := by
  obtain ⟨v, p', e, h1, h2, h3⟩ := take_spec n false 12 p hl (by decide) (by decide)
  have hh := hotG
  refine ⟨if 0 < (v + a) % 12 - 2 then (v + a) % 12 - 2 else 0, p', ?_, ?_, ?_, h3⟩
  · rw [callF, fn__law_bound]
    simp only [f__law_bound]
    walk_at "ky"
  · split <;> omega
  · split <;> omega
end L24
end
section
set_option Elab.async false
set_option linter.all false
set_option maxRecDepth 100000
set_option maxHeartbeats 4000000
namespace L24
open PySem PySem.Spec PyProof.Rows L2 Ky
local macro_rules | `(tactic| walk_at "ky") => `(tactic| simp [exSs, exS, ev, evs, evT, evO, evI, bind_ok, bind_exc, bind_bad, to_ok, to_exc, to_bad, of_so, of_no, nx_ok, dat_v, dat_own, dat_sl, sdat_v, sdat_own, sdat_bor, sdat_lk, sdat_ro, odat_L, odat_I, frz_v, frz_own, frz_sl, frzs_nil, frzs_cons, toS_v, toS_own, toS_sl, snx_so, snx_no, isi_non_int, isi_non_bool, isi_non_str, isi_non_list, isi_non_tuple, isi_non_cl, isi_bl_int, isi_bl_bool, isi_bl_str, isi_bl_list, isi_bl_tuple, isi_bl_cl, isi_int_int, isi_int_bool, isi_int_str, isi_int_list, isi_int_tuple, isi_int_cl, isi_str_int, isi_str_bool, isi_str_str, isi_str_list, isi_str_tuple, isi_str_cl, isi_tup_int, isi_tup_bool, isi_tup_str, isi_tup_list, isi_tup_tuple, isi_tup_cl, isi_lst_int, isi_lst_bool, isi_lst_str, isi_lst_list, isi_lst_tuple, isi_lst_cl, isi_scr_int, isi_scr_bool, isi_scr_str, isi_scr_list, isi_scr_tuple, isi_scr_cl, isi_ins_int, isi_ins_bool, isi_ins_str, isi_ins_list, isi_ins_tuple, isi_ins_cl, fin, outs, cmpR, cmpD, eqD, biD, lenD, lim, binD, augD, negD, truD, ixD, mutD, put, isLs, at_hot, at_cst, at_prop, at_meth, at_ccon, at_eqm, at_dct, at_sub, at_cl, at_gl, at_bl, at_flds, at_exc, at_kws, at_xcl, at_lf, hotB, asgT, callR, lends, lend, ndN, slOf, borN, back, argsE, setK, kindS, lose, lks, lock, lock1, unlock, unlock1, itemsD, loopF_nil, loopF_cons, inD_tup, inD_iL, flatD, eqF, rngI_iL, rgR_t, rgR_f, mkC, dropX, List.filterMap_cons, List.filterMap_nil, atI_0, atI_1, atI_2, atI_3, atI_4, iL_nil, iL_len, intsD_iL, List.lookup_cons, List.lookup_nil, ne_floor_ceil, ne_floor_near, ne_floor_even, ne_floor_zero, ne_floor_clip, ne_floor_wrap, ne_ceil_floor, ne_ceil_near, ne_ceil_even, ne_ceil_zero, ne_ceil_clip, ne_ceil_wrap, ne_near_floor, ne_near_ceil, ne_near_even, ne_near_zero, ne_near_clip, ne_near_wrap, ne_even_floor, ne_even_ceil, ne_even_near, ne_even_zero, ne_even_clip, ne_even_wrap, ne_zero_floor, ne_zero_ceil, ne_zero_near, ne_zero_even, ne_zero_clip, ne_zero_wrap, ne_clip_floor, ne_clip_ceil, ne_clip_near, ne_clip_even, ne_clip_zero, ne_clip_wrap, ne_wrap_floor, ne_wrap_ceil, ne_wrap_near, ne_wrap_even, ne_wrap_zero, ne_wrap_clip, ne_name_low, ne_name_high, ne_name_is_round, ne_name_count, ne_low_name, ne_low_high, ne_low_is_round, ne_low_count, ne_high_name, ne_high_low, ne_high_is_round, ne_high_count, ne_is_round_name, ne_is_round_low, ne_is_round_high, ne_is_round_count, ne_count_name, ne_count_low, ne_count_high, ne_count_is_round, bq_name_low, bq_name_high, bq_name_is_round, bq_name_count, bq_low_name, bq_low_high, bq_low_is_round, bq_low_count, bq_high_name, bq_high_low, bq_high_is_round, bq_high_count, bq_is_round_name, bq_is_round_low, bq_is_round_high, bq_is_round_count, bq_count_name, bq_count_low, bq_count_high, bq_count_is_round, bq_floor_ceil, bq_floor_near, bq_floor_even, bq_floor_zero, bq_floor_clip, bq_floor_wrap, bq_ceil_floor, bq_ceil_near, bq_ceil_even, bq_ceil_zero, bq_ceil_clip, bq_ceil_wrap, bq_near_floor, bq_near_ceil, bq_near_even, bq_near_zero, bq_near_clip, bq_near_wrap, bq_even_floor, bq_even_ceil, bq_even_near, bq_even_zero, bq_even_clip, bq_even_wrap, bq_zero_floor, bq_zero_ceil, bq_zero_near, bq_zero_even, bq_zero_clip, bq_zero_wrap, bq_clip_floor, bq_clip_ceil, bq_clip_near, bq_clip_even, bq_clip_zero, bq_clip_wrap, bq_wrap_floor, bq_wrap_ceil, bq_wrap_near, bq_wrap_even, bq_wrap_zero, bq_wrap_clip, *])
local macro_rules | `(tactic| walk_at "kx") => `(tactic| simp [exSs, exS.eq_1, exS.eq_2, exS.eq_3, exS.eq_4, exS.eq_5, exS.eq_6, exS.eq_7, exS.eq_8, exS.eq_9, exS.eq_10, exS.eq_13, exS.eq_14, exS.eq_15, exS.eq_16, exS.eq_17, exS.eq_18, ev.eq_1, ev.eq_2, ev.eq_3, ev.eq_4, ev.eq_5, ev.eq_6, ev.eq_7, ev.eq_8, ev.eq_9, ev.eq_10, ev.eq_11, ev.eq_12, ev.eq_13, ev.eq_14, ev.eq_15, ev.eq_16, ev.eq_17, ev.eq_18, ev.eq_19, ev.eq_20, ev.eq_21, ev.eq_22, ev.eq_23, ev.eq_24, ev.eq_25, ev.eq_26, ev.eq_27, ev.eq_29, ev.eq_30, ev.eq_31, ev.eq_32, ev.eq_33, ev.eq_34, ev.eq_35, evs, evT, evO, evI, bind_ok, bind_exc, bind_bad, to_ok, to_exc, to_bad, of_so, of_no, nx_ok, dat_v, dat_own, dat_sl, sdat_v, sdat_own, sdat_bor, sdat_lk, sdat_ro, odat_L, odat_I, frz_v, frz_own, frz_sl, frzs_nil, frzs_cons, toS_v, toS_own, toS_sl, snx_so, snx_no, isi_non_int, isi_non_bool, isi_non_str, isi_non_list, isi_non_tuple, isi_non_cl, isi_bl_int, isi_bl_bool, isi_bl_str, isi_bl_list, isi_bl_tuple, isi_bl_cl, isi_int_int, isi_int_bool, isi_int_str, isi_int_list, isi_int_tuple, isi_int_cl, isi_str_int, isi_str_bool, isi_str_str, isi_str_list, isi_str_tuple, isi_str_cl, isi_tup_int, isi_tup_bool, isi_tup_str, isi_tup_list, isi_tup_tuple, isi_tup_cl, isi_lst_int, isi_lst_bool, isi_lst_str, isi_lst_list, isi_lst_tuple, isi_lst_cl, isi_scr_int, isi_scr_bool, isi_scr_str, isi_scr_list, isi_scr_tuple, isi_scr_cl, isi_ins_int, isi_ins_bool, isi_ins_str, isi_ins_list, isi_ins_tuple, isi_ins_cl, fin, outs, cmpR, cmpD, eqD, biD, lenD, lim, binD, augD, negD, truD, ixD, mutD, put, isLs, at_hot, at_cst, at_prop, at_meth, at_ccon, at_eqm, at_dct, at_sub, at_cl, at_gl, at_bl, at_flds, at_exc, at_kws, at_xcl, at_lf, hotB, asgT, callR, lends, lend, ndN, slOf, borN, back, argsE, setK, kindS, lose, lks, lock, lock1, unlock, unlock1, itemsD, inD_tup, inD_iL, flatD, eqF, rngI_iL, rgR_t, rgR_f, mkC, dropX, List.filterMap_cons, List.filterMap_nil, atI_0, atI_1, atI_2, atI_3, atI_4, iL_nil, iL_len, intsD_iL, plainAt, wipeE, restE, List.lookup_cons, List.lookup_nil, ne_floor_ceil, ne_floor_near, ne_floor_even, ne_floor_zero, ne_floor_clip, ne_floor_wrap, ne_ceil_floor, ne_ceil_near, ne_ceil_even, ne_ceil_zero, ne_ceil_clip, ne_ceil_wrap, ne_near_floor, ne_near_ceil, ne_near_even, ne_near_zero, ne_near_clip, ne_near_wrap, ne_even_floor, ne_even_ceil, ne_even_near, ne_even_zero, ne_even_clip, ne_even_wrap, ne_zero_floor, ne_zero_ceil, ne_zero_near, ne_zero_even, ne_zero_clip, ne_zero_wrap, ne_clip_floor, ne_clip_ceil, ne_clip_near, ne_clip_even, ne_clip_zero, ne_clip_wrap, ne_wrap_floor, ne_wrap_ceil, ne_wrap_near, ne_wrap_even, ne_wrap_zero, ne_wrap_clip, ne_name_low, ne_name_high, ne_name_is_round, ne_name_count, ne_low_name, ne_low_high, ne_low_is_round, ne_low_count, ne_high_name, ne_high_low, ne_high_is_round, ne_high_count, ne_is_round_name, ne_is_round_low, ne_is_round_high, ne_is_round_count, ne_count_name, ne_count_low, ne_count_high, ne_count_is_round, bq_name_low, bq_name_high, bq_name_is_round, bq_name_count, bq_low_name, bq_low_high, bq_low_is_round, bq_low_count, bq_high_name, bq_high_low, bq_high_is_round, bq_high_count, bq_is_round_name, bq_is_round_low, bq_is_round_high, bq_is_round_count, bq_count_name, bq_count_low, bq_count_high, bq_count_is_round, bq_floor_ceil, bq_floor_near, bq_floor_even, bq_floor_zero, bq_floor_clip, bq_floor_wrap, bq_ceil_floor, bq_ceil_near, bq_ceil_even, bq_ceil_zero, bq_ceil_clip, bq_ceil_wrap, bq_near_floor, bq_near_ceil, bq_near_even, bq_near_zero, bq_near_clip, bq_near_wrap, bq_even_floor, bq_even_ceil, bq_even_near, bq_even_zero, bq_even_clip, bq_even_wrap, bq_zero_floor, bq_zero_ceil, bq_zero_near, bq_zero_even, bq_zero_clip, bq_zero_wrap, bq_clip_floor, bq_clip_ceil, bq_clip_near, bq_clip_even, bq_clip_zero, bq_clip_wrap, bq_wrap_floor, bq_wrap_ceil, bq_wrap_near, bq_wrap_even, bq_wrap_zero, bq_wrap_clip, *])
inductive Kd where
  | fl | ce | ne | ev | ze | cl (lo hi : Int) | wr (lo hi : Int)
def Kd.nm : Kd → Str
  | .fl => "floor" | .ce => "ceil" | .ne => "near" | .ev => "even" | .ze => "zero" | .cl _ _ => "clip" | .wr _ _ => "wrap"
def Kd.lo : Kd → Int | .cl l _ => l | .wr l _ => l | _ => 0
def Kd.hi : Kd → Int | .cl _ h => h | .wr _ h => h | _ => 0
def Kd.bd : Kd → Bool | .cl _ _ => true | .wr _ _ => true | _ => false
def Kd.ok (k : Kd) : Prop := -1000000000 ≤ k.lo ∧ k.lo ≤ 0 ∧ 0 ≤ k.hi ∧ k.hi ≤ 1000000000
def pD (k : Kd) : D := .tup [.str k.nm, .int k.lo, .int k.hi]
def kD (k : Kd) : D := .ins "Kind" [("name", .str k.nm), ("low", .int k.lo), ("high", .int k.hi)]
theorem cst_F : T.G.cst "FARTHEST" = some (.int 1000000000) := by kernel_rfl
theorem con_R : T.G.ccon "Kind" "ROUND" = some (.tup [.str "floor", .str "ceil", .str "near", .str "even", .str "zero"]) := by kernel_rfl
theorem exc_C : T.G.exc "BadCount" = some [("count" : Str)] := by kernel_rfl
theorem exc_K : T.G.exc "BadKind" = some [("name" : Str)] := by kernel_rfl
theorem prop_R : T.G.prop "Kind" "is_round" = some "Kind.is_round" := by kernel_rfl
theorem eqm_K : T.G.eqm "Kind" = some "Kind.__eq__" := by kernel_rfl
theorem mem_K : ("Kind" : Str) ∈ T.G.cl := List.contains_iff_mem.mp (by kernel_rfl)
theorem cl_K : T.G.cl = [("Kind" : Str)] := rfl
theorem flds_K : T.G.flds "Kind" = [("name" : Str), "low", "high"] := by kernel_rfl
theorem sub_K : T.G.sub "Kind" "Kind" = true := by kernel_rfl
theorem init_ok (n : Nat) (k : Kd) (hk : k.ok) : callF T.G T.fn (n+1) false "Kind.__init__" [.bor (.I "Kind" []), .v (.str k.nm), .v (.int k.lo), .v (.int k.hi)] = .ok (.v .non) [.I "Kind" [("name", .str k.nm), ("low", .int k.lo), ("high", .int k.hi)]] := by
  rw [callF, fn_Kind___init__]
  simp only [f_Kind___init__]
  have hh := hotG
  have h1 := cst_F
  have h2 := con_R
  have h3 := flds_K
  obtain ⟨g1, g2, g3, g4⟩ := hk
  cases k <;> simp only [Kd.nm, Kd.lo, Kd.hi] at g1 g2 g3 g4 ⊢ <;> walk_at "ky"
theorem kind_ok (n : Nat) (k : Kd) (hk : k.ok) : callF T.G T.fn (n+2) false "_law_kind" [.v (pD k)] = .ok (.v (kD k)) [] := by
  have h1 := init_ok n k hk
  have h2 := mem_K
  have h3 : (("Kind" : Str) ++ ".__init__") = "Kind.__init__" := by decide +kernel
  have hh := hotG
  rw [callF, fn__law_kind]
  simp only [f__law_kind, pD, kD]
  walk_at "ky"
theorem round_ok (n : Nat) (h : Bool) (k : Kd) : callF T.G T.fn (n+1) h "Kind.is_round" [.v (kD k)] = .ok (.v (.bl (!k.bd))) [] := by
  rw [callF, fn_Kind_is_round]
  simp only [f_Kind_is_round, kD]
  have h2 := con_R
  have h3 := flds_K
  cases k <;> simp only [Kd.nm, Kd.lo, Kd.hi, Kd.bd] <;> walk_at "ky"
theorem eq_ok (n : Nat) (h : Bool) (k : Kd) : callF T.G T.fn (n+1) h "Kind.__eq__" [.v (kD k), .v (kD k)] = .ok (.v (.bl true)) [] := by
  rw [callF, fn_Kind___eq__]
  simp only [f_Kind___eq__, kD]
  have h2 := mem_K
  have h3 := flds_K
  have h4 := sub_K
  walk_at "ky"
def Kd.dn (k : Kd) (den : Int) : Bool := decide (1 ≤ den) && (!k.bd || decide (den ≤ 1))
theorem den_ok (n : Nat) (k : Kd) (den : Int) : callF T.G T.fn (n+2) false "check_den" [.v (kD k), .v (.int den)] = if k.dn den = true then .ok (.v .non) [] else .exc "BadCount" [("count", .int den)] := by
  have h1 := round_ok n false k
  have h2 := prop_R
  have h3 := exc_C
  have hh := hotG
  have h4 := flds_K
  rw [callF, fn_check_den]
  simp only [f_check_den]
  have hl : ∀ k : Kd, List.lookup "is_round" [("name", D.str k.nm), ("low", D.int k.lo), ("high", D.int k.hi)] = none := fun k => by walk_at "ky"
  by_cases a : den < 1
  · have e : k.dn den = false := by unfold Kd.dn; simp; omega
    walk_at "ky"
  · by_cases b : 1 < den
    · cases c : k.bd
      · have e : k.dn den = true := by unfold Kd.dn; simp [c]; omega
        rw [c] at h1
        unfold kD at h1 ⊢
        walk_at "ky"
      · have e : k.dn den = false := by unfold Kd.dn; simp [c]; omega
        rw [c] at h1
        unfold kD at h1 ⊢
        walk_at "ky"
    · have e : k.dn den = true := by unfold Kd.dn; simp; omega
      walk_at "ky"
end L24
end
section
set_option Elab.async false
set_option linter.all false
set_option maxRecDepth 100000
set_option maxHeartbeats 4000000
namespace L24
open PySem PySem.Spec PyProof.Rows L2 Ky
local macro_rules | `(tactic| walk_at "ky") => `(tactic| simp [exSs, exS, ev, evs, evT, evO, evI, bind_ok, bind_exc, bind_bad, to_ok, to_exc, to_bad, of_so, of_no, nx_ok, dat_v, dat_own, dat_sl, sdat_v, sdat_own, sdat_bor, sdat_lk, sdat_ro, odat_L, odat_I, frz_v, frz_own, frz_sl, frzs_nil, frzs_cons, toS_v, toS_own, toS_sl, snx_so, snx_no, isi_non_int, isi_non_bool, isi_non_str, isi_non_list, isi_non_tuple, isi_non_cl, isi_bl_int, isi_bl_bool, isi_bl_str, isi_bl_list, isi_bl_tuple, isi_bl_cl, isi_int_int, isi_int_bool, isi_int_str, isi_int_list, isi_int_tuple, isi_int_cl, isi_str_int, isi_str_bool, isi_str_str, isi_str_list, isi_str_tuple, isi_str_cl, isi_tup_int, isi_tup_bool, isi_tup_str, isi_tup_list, isi_tup_tuple, isi_tup_cl, isi_lst_int, isi_lst_bool, isi_lst_str, isi_lst_list, isi_lst_tuple, isi_lst_cl, isi_scr_int, isi_scr_bool, isi_scr_str, isi_scr_list, isi_scr_tuple, isi_scr_cl, isi_ins_int, isi_ins_bool, isi_ins_str, isi_ins_list, isi_ins_tuple, isi_ins_cl, fin, outs, cmpR, cmpD, eqD, biD, lenD, lim, binD, augD, negD, truD, ixD, mutD, put, isLs, at_hot, at_cst, at_prop, at_meth, at_ccon, at_eqm, at_dct, at_sub, at_cl, at_gl, at_bl, at_flds, at_exc, at_kws, at_xcl, at_lf, hotB, asgT, callR, lends, lend, ndN, slOf, borN, back, argsE, setK, kindS, lose, lks, lock, lock1, unlock, unlock1, itemsD, loopF_nil, loopF_cons, inD_tup, inD_iL, flatD, eqF, rngI_iL, rgR_t, rgR_f, mkC, dropX, List.filterMap_cons, List.filterMap_nil, atI_0, atI_1, atI_2, atI_3, atI_4, iL_nil, iL_len, intsD_iL, List.lookup_cons, List.lookup_nil, ne_floor_ceil, ne_floor_near, ne_floor_even, ne_floor_zero, ne_floor_clip, ne_floor_wrap, ne_ceil_floor, ne_ceil_near, ne_ceil_even, ne_ceil_zero, ne_ceil_clip, ne_ceil_wrap, ne_near_floor, ne_near_ceil, ne_near_even, ne_near_zero, ne_near_clip, ne_near_wrap, ne_even_floor, ne_even_ceil, ne_even_near, ne_even_zero, ne_even_clip, ne_even_wrap, ne_zero_floor, ne_zero_ceil, ne_zero_near, ne_zero_even, ne_zero_clip, ne_zero_wrap, ne_clip_floor, ne_clip_ceil, ne_clip_near, ne_clip_even, ne_clip_zero, ne_clip_wrap, ne_wrap_floor, ne_wrap_ceil, ne_wrap_near, ne_wrap_even, ne_wrap_zero, ne_wrap_clip, ne_name_low, ne_name_high, ne_name_is_round, ne_name_count, ne_low_name, ne_low_high, ne_low_is_round, ne_low_count, ne_high_name, ne_high_low, ne_high_is_round, ne_high_count, ne_is_round_name, ne_is_round_low, ne_is_round_high, ne_is_round_count, ne_count_name, ne_count_low, ne_count_high, ne_count_is_round, bq_name_low, bq_name_high, bq_name_is_round, bq_name_count, bq_low_name, bq_low_high, bq_low_is_round, bq_low_count, bq_high_name, bq_high_low, bq_high_is_round, bq_high_count, bq_is_round_name, bq_is_round_low, bq_is_round_high, bq_is_round_count, bq_count_name, bq_count_low, bq_count_high, bq_count_is_round, bq_floor_ceil, bq_floor_near, bq_floor_even, bq_floor_zero, bq_floor_clip, bq_floor_wrap, bq_ceil_floor, bq_ceil_near, bq_ceil_even, bq_ceil_zero, bq_ceil_clip, bq_ceil_wrap, bq_near_floor, bq_near_ceil, bq_near_even, bq_near_zero, bq_near_clip, bq_near_wrap, bq_even_floor, bq_even_ceil, bq_even_near, bq_even_zero, bq_even_clip, bq_even_wrap, bq_zero_floor, bq_zero_ceil, bq_zero_near, bq_zero_even, bq_zero_clip, bq_zero_wrap, bq_clip_floor, bq_clip_ceil, bq_clip_near, bq_clip_even, bq_clip_zero, bq_clip_wrap, bq_wrap_floor, bq_wrap_ceil, bq_wrap_near, bq_wrap_even, bq_wrap_zero, bq_wrap_clip, *])
local macro_rules | `(tactic| walk_at "kx") => `(tactic| simp [exSs, exS.eq_1, exS.eq_2, exS.eq_3, exS.eq_4, exS.eq_5, exS.eq_6, exS.eq_7, exS.eq_8, exS.eq_9, exS.eq_10, exS.eq_13, exS.eq_14, exS.eq_15, exS.eq_16, exS.eq_17, exS.eq_18, ev.eq_1, ev.eq_2, ev.eq_3, ev.eq_4, ev.eq_5, ev.eq_6, ev.eq_7, ev.eq_8, ev.eq_9, ev.eq_10, ev.eq_11, ev.eq_12, ev.eq_13, ev.eq_14, ev.eq_15, ev.eq_16, ev.eq_17, ev.eq_18, ev.eq_19, ev.eq_20, ev.eq_21, ev.eq_22, ev.eq_23, ev.eq_24, ev.eq_25, ev.eq_26, ev.eq_27, ev.eq_29, ev.eq_30, ev.eq_31, ev.eq_32, ev.eq_33, ev.eq_34, ev.eq_35, evs, evT, evO, evI, bind_ok, bind_exc, bind_bad, to_ok, to_exc, to_bad, of_so, of_no, nx_ok, dat_v, dat_own, dat_sl, sdat_v, sdat_own, sdat_bor, sdat_lk, sdat_ro, odat_L, odat_I, frz_v, frz_own, frz_sl, frzs_nil, frzs_cons, toS_v, toS_own, toS_sl, snx_so, snx_no, isi_non_int, isi_non_bool, isi_non_str, isi_non_list, isi_non_tuple, isi_non_cl, isi_bl_int, isi_bl_bool, isi_bl_str, isi_bl_list, isi_bl_tuple, isi_bl_cl, isi_int_int, isi_int_bool, isi_int_str, isi_int_list, isi_int_tuple, isi_int_cl, isi_str_int, isi_str_bool, isi_str_str, isi_str_list, isi_str_tuple, isi_str_cl, isi_tup_int, isi_tup_bool, isi_tup_str, isi_tup_list, isi_tup_tuple, isi_tup_cl, isi_lst_int, isi_lst_bool, isi_lst_str, isi_lst_list, isi_lst_tuple, isi_lst_cl, isi_scr_int, isi_scr_bool, isi_scr_str, isi_scr_list, isi_scr_tuple, isi_scr_cl, isi_ins_int, isi_ins_bool, isi_ins_str, isi_ins_list, isi_ins_tuple, isi_ins_cl, fin, outs, cmpR, cmpD, eqD, biD, lenD, lim, binD, augD, negD, truD, ixD, mutD, put, isLs, at_hot, at_cst, at_prop, at_meth, at_ccon, at_eqm, at_dct, at_sub, at_cl, at_gl, at_bl, at_flds, at_exc, at_kws, at_xcl, at_lf, hotB, asgT, callR, lends, lend, ndN, slOf, borN, back, argsE, setK, kindS, lose, lks, lock, lock1, unlock, unlock1, itemsD, inD_tup, inD_iL, flatD, eqF, rngI_iL, rgR_t, rgR_f, mkC, dropX, List.filterMap_cons, List.filterMap_nil, atI_0, atI_1, atI_2, atI_3, atI_4, iL_nil, iL_len, intsD_iL, plainAt, wipeE, restE, List.lookup_cons, List.lookup_nil, ne_floor_ceil, ne_floor_near, ne_floor_even, ne_floor_zero, ne_floor_clip, ne_floor_wrap, ne_ceil_floor, ne_ceil_near, ne_ceil_even, ne_ceil_zero, ne_ceil_clip, ne_ceil_wrap, ne_near_floor, ne_near_ceil, ne_near_even, ne_near_zero, ne_near_clip, ne_near_wrap, ne_even_floor, ne_even_ceil, ne_even_near, ne_even_zero, ne_even_clip, ne_even_wrap, ne_zero_floor, ne_zero_ceil, ne_zero_near, ne_zero_even, ne_zero_clip, ne_zero_wrap, ne_clip_floor, ne_clip_ceil, ne_clip_near, ne_clip_even, ne_clip_zero, ne_clip_wrap, ne_wrap_floor, ne_wrap_ceil, ne_wrap_near, ne_wrap_even, ne_wrap_zero, ne_wrap_clip, ne_name_low, ne_name_high, ne_name_is_round, ne_name_count, ne_low_name, ne_low_high, ne_low_is_round, ne_low_count, ne_high_name, ne_high_low, ne_high_is_round, ne_high_count, ne_is_round_name, ne_is_round_low, ne_is_round_high, ne_is_round_count, ne_count_name, ne_count_low, ne_count_high, ne_count_is_round, bq_name_low, bq_name_high, bq_name_is_round, bq_name_count, bq_low_name, bq_low_high, bq_low_is_round, bq_low_count, bq_high_name, bq_high_low, bq_high_is_round, bq_high_count, bq_is_round_name, bq_is_round_low, bq_is_round_high, bq_is_round_count, bq_count_name, bq_count_low, bq_count_high, bq_count_is_round, bq_floor_ceil, bq_floor_near, bq_floor_even, bq_floor_zero, bq_floor_clip, bq_floor_wrap, bq_ceil_floor, bq_ceil_near, bq_ceil_even, bq_ceil_zero, bq_ceil_clip, bq_ceil_wrap, bq_near_floor, bq_near_ceil, bq_near_even, bq_near_zero, bq_near_clip, bq_near_wrap, bq_even_floor, bq_even_ceil, bq_even_near, bq_even_zero, bq_even_clip, bq_even_wrap, bq_zero_floor, bq_zero_ceil, bq_zero_near, bq_zero_even, bq_zero_clip, bq_zero_wrap, bq_clip_floor, bq_clip_ceil, bq_clip_near, bq_clip_even, bq_clip_zero, bq_clip_wrap, bq_wrap_floor, bq_wrap_ceil, bq_wrap_near, bq_wrap_even, bq_wrap_zero, bq_wrap_clip, *])
def around (den t : Int) : List Int := if t % den = 0 then [t / den] else [t / den, t / den + 1]
def zs (den t : Int) : List Int := rngL (if 1 ≤ t / den ∧ t % den ≤ den - 2 then t / den - 1 else t / den) ((if t % den = 0 then t / den else t / den + 1) + 1)
def mir (l : List Int) : List Int := l.reverse.map (- ·)
def cset (k : Kd) (den t : Int) : List Int := match k with
  | .ev => if t % den = 0 ∧ den % 2 = 0 ∧ t / den % 2 = 1 then [t / den - 1, t / den, t / den + 1] else around den t
  | .ze => if t < 0 then mir (zs den (-t)) else zs den t
  | .cl lo hi => if t < 0 then rngL (if t < -(hi - lo) then -(hi - lo) else t) 1 else rngL 0 ((if hi - lo < t then hi - lo else t) + 1)
  | .wr lo hi => if t % (hi - lo + 1) = 0 then [0] else [t % (hi - lo + 1) - (hi - lo + 1), t % (hi - lo + 1)]
  | _ => around den t
theorem around_ok (n : Nat) (kd : D) (den t : Int) (h1 : divB den = true) : callF T.G T.fn (n+1) false "around_set" [.v kd, .v (.int den), .v (.int t)] = .ok (.v (.tup (iL (around den t)))) [] := by
  rw [callF, fn_around_set]
  simp only [f_around_set]
  have hh := hotG
  unfold around
  by_cases a : t % den = 0
  · walk_at "ky"
    rfl
  · walk_at "ky"
    rfl
theorem iL_map (f : Int → Int) (l : List Int) : iL (l.map f) = (iL l).map fun d => match d with | .int i => .int (f i) | d => d := by
  unfold iL; rw [List.map_map, List.map_map]; rfl
theorem iL_rev (l : List Int) : (iL l).reverse = iL l.reverse := (List.map_reverse).symm
theorem iL_mem {l : List Int} {d : D} (h : d ∈ iL l) : ∃ i, d = .int i ∧ i ∈ l := by
  obtain ⟨i, h1, h2⟩ := List.mem_map.mp h
  exact ⟨i, h2.symm, h1⟩
theorem mirrored_ok (n : Nat) (l : List Int) (hl : l.length ≤ 16777216) : callF T.G T.fn (n+1) false "mirrored" [.v (.tup (iL l))] = .ok (.v (.tup (iL (mir l)))) [] := by
  have hh := hotG
  have hc : ev (GT.at T.G false) (callF T.G T.fn n false) c1_mirrored [some (.v (.tup (iL l))), none] = .ok (.own (.L (iL (mir l)))) [some (.v (.tup (iL l))), none] := by
    unfold c1_mirrored
    have := comp_map (G := GT.at T.G false) (call := callF T.G T.fn n false) (vs := [1]) (g := .nm 1) (it := .seq (.rev (.var 0))) (el := .neg (.var 1)) (env := [some (.v (.tup (iL l))), none]) (e := [some (.v (.tup (iL l))), none]) (xs := iL l.reverse) (is := []) (e3 := [some (.v (.tup (iL l))), none]) (fun d => match d with | .int i => .int (-i) | d => d) rfl (by walk_at "kx"; rw [iL_rev]) (by walk_at "kx") (by rw [iL_len, List.length_reverse]; exact hl) (fun d m => ?_) (by walk_at "kx")
    · rw [this, ← iL_map]
      walk_at "kx"
      unfold mir
      rw [List.map_reverse]
    · obtain ⟨i, rfl, _⟩ := iL_mem m
      refine ⟨[some (.v (.tup (iL l))), some (.v (.int i))], .v (.int (-i)), ?_, ?_, ?_, ?_⟩ <;> walk_at "kx"
  rw [callF, fn_mirrored]
  simp only [f_mirrored]
  walk_at "kx"
end L24
end
section
set_option Elab.async false
set_option linter.all false
set_option maxRecDepth 100000
set_option maxHeartbeats 4000000
namespace L24
open PySem PySem.Spec PyProof.Rows L2 Ky
local macro_rules | `(tactic| walk_at "ky") => `(tactic| simp [exSs, exS, ev, evs, evT, evO, evI, bind_ok, bind_exc, bind_bad, to_ok, to_exc, to_bad, of_so, of_no, nx_ok, dat_v, dat_own, dat_sl, sdat_v, sdat_own, sdat_bor, sdat_lk, sdat_ro, odat_L, odat_I, frz_v, frz_own, frz_sl, frzs_nil, frzs_cons, toS_v, toS_own, toS_sl, snx_so, snx_no, isi_non_int, isi_non_bool, isi_non_str, isi_non_list, isi_non_tuple, isi_non_cl, isi_bl_int, isi_bl_bool, isi_bl_str, isi_bl_list, isi_bl_tuple, isi_bl_cl, isi_int_int, isi_int_bool, isi_int_str, isi_int_list, isi_int_tuple, isi_int_cl, isi_str_int, isi_str_bool, isi_str_str, isi_str_list, isi_str_tuple, isi_str_cl, isi_tup_int, isi_tup_bool, isi_tup_str, isi_tup_list, isi_tup_tuple, isi_tup_cl, isi_lst_int, isi_lst_bool, isi_lst_str, isi_lst_list, isi_lst_tuple, isi_lst_cl, isi_scr_int, isi_scr_bool, isi_scr_str, isi_scr_list, isi_scr_tuple, isi_scr_cl, isi_ins_int, isi_ins_bool, isi_ins_str, isi_ins_list, isi_ins_tuple, isi_ins_cl, fin, outs, cmpR, cmpD, eqD, biD, lenD, lim, binD, augD, negD, truD, ixD, mutD, put, isLs, at_hot, at_cst, at_prop, at_meth, at_ccon, at_eqm, at_dct, at_sub, at_cl, at_gl, at_bl, at_flds, at_exc, at_kws, at_xcl, at_lf, hotB, asgT, callR, lends, lend, ndN, slOf, borN, back, argsE, setK, kindS, lose, lks, lock, lock1, unlock, unlock1, itemsD, loopF_nil, loopF_cons, inD_tup, inD_iL, flatD, eqF, rngI_iL, rgR_t, rgR_f, mkC, dropX, List.filterMap_cons, List.filterMap_nil, atI_0, atI_1, atI_2, atI_3, atI_4, iL_nil, iL_len, intsD_iL, List.lookup_cons, List.lookup_nil, ne_floor_ceil, ne_floor_near, ne_floor_even, ne_floor_zero, ne_floor_clip, ne_floor_wrap, ne_ceil_floor, ne_ceil_near, ne_ceil_even, ne_ceil_zero, ne_ceil_clip, ne_ceil_wrap, ne_near_floor, ne_near_ceil, ne_near_even, ne_near_zero, ne_near_clip, ne_near_wrap, ne_even_floor, ne_even_ceil, ne_even_near, ne_even_zero, ne_even_clip, ne_even_wrap, ne_zero_floor, ne_zero_ceil, ne_zero_near, ne_zero_even, ne_zero_clip, ne_zero_wrap, ne_clip_floor, ne_clip_ceil, ne_clip_near, ne_clip_even, ne_clip_zero, ne_clip_wrap, ne_wrap_floor, ne_wrap_ceil, ne_wrap_near, ne_wrap_even, ne_wrap_zero, ne_wrap_clip, ne_name_low, ne_name_high, ne_name_is_round, ne_name_count, ne_low_name, ne_low_high, ne_low_is_round, ne_low_count, ne_high_name, ne_high_low, ne_high_is_round, ne_high_count, ne_is_round_name, ne_is_round_low, ne_is_round_high, ne_is_round_count, ne_count_name, ne_count_low, ne_count_high, ne_count_is_round, bq_name_low, bq_name_high, bq_name_is_round, bq_name_count, bq_low_name, bq_low_high, bq_low_is_round, bq_low_count, bq_high_name, bq_high_low, bq_high_is_round, bq_high_count, bq_is_round_name, bq_is_round_low, bq_is_round_high, bq_is_round_count, bq_count_name, bq_count_low, bq_count_high, bq_count_is_round, bq_floor_ceil, bq_floor_near, bq_floor_even, bq_floor_zero, bq_floor_clip, bq_floor_wrap, bq_ceil_floor, bq_ceil_near, bq_ceil_even, bq_ceil_zero, bq_ceil_clip, bq_ceil_wrap, bq_near_floor, bq_near_ceil, bq_near_even, bq_near_zero, bq_near_clip, bq_near_wrap, bq_even_floor, bq_even_ceil, bq_even_near, bq_even_zero, bq_even_clip, bq_even_wrap, bq_zero_floor, bq_zero_ceil, bq_zero_near, bq_zero_even, bq_zero_clip, bq_zero_wrap, bq_clip_floor, bq_clip_ceil, bq_clip_near, bq_clip_even, bq_clip_zero, bq_clip_wrap, bq_wrap_floor, bq_wrap_ceil, bq_wrap_near, bq_wrap_even, bq_wrap_zero, bq_wrap_clip, *])
local macro_rules | `(tactic| walk_at "kx") => `(tactic| simp [exSs, exS.eq_1, exS.eq_2, exS.eq_3, exS.eq_4, exS.eq_5, exS.eq_6, exS.eq_7, exS.eq_8, exS.eq_9, exS.eq_10, exS.eq_13, exS.eq_14, exS.eq_15, exS.eq_16, exS.eq_17, exS.eq_18, ev.eq_1, ev.eq_2, ev.eq_3, ev.eq_4, ev.eq_5, ev.eq_6, ev.eq_7, ev.eq_8, ev.eq_9, ev.eq_10, ev.eq_11, ev.eq_12, ev.eq_13, ev.eq_14, ev.eq_15, ev.eq_16, ev.eq_17, ev.eq_18, ev.eq_19, ev.eq_20, ev.eq_21, ev.eq_22, ev.eq_23, ev.eq_24, ev.eq_25, ev.eq_26, ev.eq_27, ev.eq_29, ev.eq_30, ev.eq_31, ev.eq_32, ev.eq_33, ev.eq_34, ev.eq_35, evs, evT, evO, evI, bind_ok, bind_exc, bind_bad, to_ok, to_exc, to_bad, of_so, of_no, nx_ok, dat_v, dat_own, dat_sl, sdat_v, sdat_own, sdat_bor, sdat_lk, sdat_ro, odat_L, odat_I, frz_v, frz_own, frz_sl, frzs_nil, frzs_cons, toS_v, toS_own, toS_sl, snx_so, snx_no, isi_non_int, isi_non_bool, isi_non_str, isi_non_list, isi_non_tuple, isi_non_cl, isi_bl_int, isi_bl_bool, isi_bl_str, isi_bl_list, isi_bl_tuple, isi_bl_cl, isi_int_int, isi_int_bool, isi_int_str, isi_int_list, isi_int_tuple, isi_int_cl, isi_str_int, isi_str_bool, isi_str_str, isi_str_list, isi_str_tuple, isi_str_cl, isi_tup_int, isi_tup_bool, isi_tup_str, isi_tup_list, isi_tup_tuple, isi_tup_cl, isi_lst_int, isi_lst_bool, isi_lst_str, isi_lst_list, isi_lst_tuple, isi_lst_cl, isi_scr_int, isi_scr_bool, isi_scr_str, isi_scr_list, isi_scr_tuple, isi_scr_cl, isi_ins_int, isi_ins_bool, isi_ins_str, isi_ins_list, isi_ins_tuple, isi_ins_cl, fin, outs, cmpR, cmpD, eqD, biD, lenD, lim, binD, augD, negD, truD, ixD, mutD, put, isLs, at_hot, at_cst, at_prop, at_meth, at_ccon, at_eqm, at_dct, at_sub, at_cl, at_gl, at_bl, at_flds, at_exc, at_kws, at_xcl, at_lf, hotB, asgT, callR, lends, lend, ndN, slOf, borN, back, argsE, setK, kindS, lose, lks, lock, lock1, unlock, unlock1, itemsD, inD_tup, inD_iL, flatD, eqF, rngI_iL, rgR_t, rgR_f, mkC, dropX, List.filterMap_cons, List.filterMap_nil, atI_0, atI_1, atI_2, atI_3, atI_4, iL_nil, iL_len, intsD_iL, plainAt, wipeE, restE, List.lookup_cons, List.lookup_nil, ne_floor_ceil, ne_floor_near, ne_floor_even, ne_floor_zero, ne_floor_clip, ne_floor_wrap, ne_ceil_floor, ne_ceil_near, ne_ceil_even, ne_ceil_zero, ne_ceil_clip, ne_ceil_wrap, ne_near_floor, ne_near_ceil, ne_near_even, ne_near_zero, ne_near_clip, ne_near_wrap, ne_even_floor, ne_even_ceil, ne_even_near, ne_even_zero, ne_even_clip, ne_even_wrap, ne_zero_floor, ne_zero_ceil, ne_zero_near, ne_zero_even, ne_zero_clip, ne_zero_wrap, ne_clip_floor, ne_clip_ceil, ne_clip_near, ne_clip_even, ne_clip_zero, ne_clip_wrap, ne_wrap_floor, ne_wrap_ceil, ne_wrap_near, ne_wrap_even, ne_wrap_zero, ne_wrap_clip, ne_name_low, ne_name_high, ne_name_is_round, ne_name_count, ne_low_name, ne_low_high, ne_low_is_round, ne_low_count, ne_high_name, ne_high_low, ne_high_is_round, ne_high_count, ne_is_round_name, ne_is_round_low, ne_is_round_high, ne_is_round_count, ne_count_name, ne_count_low, ne_count_high, ne_count_is_round, bq_name_low, bq_name_high, bq_name_is_round, bq_name_count, bq_low_name, bq_low_high, bq_low_is_round, bq_low_count, bq_high_name, bq_high_low, bq_high_is_round, bq_high_count, bq_is_round_name, bq_is_round_low, bq_is_round_high, bq_is_round_count, bq_count_name, bq_count_low, bq_count_high, bq_count_is_round, bq_floor_ceil, bq_floor_near, bq_floor_even, bq_floor_zero, bq_floor_clip, bq_floor_wrap, bq_ceil_floor, bq_ceil_near, bq_ceil_even, bq_ceil_zero, bq_ceil_clip, bq_ceil_wrap, bq_near_floor, bq_near_ceil, bq_near_even, bq_near_zero, bq_near_clip, bq_near_wrap, bq_even_floor, bq_even_ceil, bq_even_near, bq_even_zero, bq_even_clip, bq_even_wrap, bq_zero_floor, bq_zero_ceil, bq_zero_near, bq_zero_even, bq_zero_clip, bq_zero_wrap, bq_clip_floor, bq_clip_ceil, bq_clip_near, bq_clip_even, bq_clip_zero, bq_clip_wrap, bq_wrap_floor, bq_wrap_ceil, bq_wrap_near, bq_wrap_even, bq_wrap_zero, bq_wrap_clip, *])
theorem even_ok (n : Nat) (kd : D) (den t : Int) (h0 : 0 < den) (h1 : divB den = true) : callF T.G T.fn (n+2) false "even_set" [.v kd, .v (.int den), .v (.int t)] = .ok (.v (.tup (iL (cset .ev den t)))) [] := by
  have hh := hotG
  have ha := around_ok n kd den t h1
  rw [callF, fn_even_set]
  simp only [f_even_set]
  simp only [cset]
  by_cases a : t % den = 0
  · by_cases b : den % 2 = 0
    · by_cases c : t / den % 2 = 1
      · walk_at "kx"
        rfl
      · walk_at "kx"
    · walk_at "kx"
  · walk_at "kx"
theorem zs_len {den t : Int} : (zs den t).length ≤ 3 := by
  unfold zs
  rw [rngL_len]
  split <;> split <;> omega
theorem ediv_bd {t den : Int} (h0 : 0 < den) (h1 : 0 ≤ t) (h2 : t ≤ 1000000000000000000) : 0 ≤ t / den ∧ t / den ≤ 1000000000000000000 :=
  ⟨Int.ediv_nonneg h1 (by omega), Int.le_trans (Int.ediv_le_self _ h1) h2⟩
theorem zero_pos (n : Nat) (kd : D) (den t : Int) (h0 : 0 < den) (h1 : divB den = true) (h2 : 0 ≤ t) (h3 : t ≤ 1000000000000000000) : callF T.G T.fn (n+1) false "zero_set" [.v kd, .v (.int den), .v (.int t)] = .ok (.v (.tup (iL (zs den t)))) [] := by
  have hh := hotG
  obtain ⟨g1, g2⟩ := ediv_bd h0 h2 h3
  have hr := rgB_of (i := if 1 ≤ t / den ∧ t % den ≤ den - 2 then t / den - 1 else t / den) (j := (if t % den = 0 then t / den else t / den + 1) + 1) (by split <;> omega) (by split <;> omega) (by split <;> omega) (by split <;> omega) (by show _ ≤ 16777216; split <;> split <;> omega)
  have hn : ¬ t < 0 := by omega
  rw [callF, fn_zero_set]
  simp only [f_zero_set]
  unfold zs
  by_cases a : 1 ≤ t / den
  · by_cases b : t % den ≤ den - 2
    · rw [if_pos ⟨a, b⟩] at hr ⊢
      by_cases c : t % den = 0
      · rw [if_pos c] at hr ⊢
        have b2 : 2 ≤ den := by omega
        walk_at "kx"
      · rw [if_neg c] at hr ⊢
        walk_at "kx"
    · rw [if_neg (fun z => b z.2)] at hr ⊢
      by_cases c : t % den = 0
      · rw [if_pos c] at hr ⊢
        have b2 : ¬ 2 ≤ den := by omega
        walk_at "kx"
      · rw [if_neg c] at hr ⊢
        walk_at "kx"
  · rw [if_neg (fun z => a z.1)] at hr ⊢
    by_cases c : t % den = 0
    · rw [if_pos c] at hr ⊢
      walk_at "kx"
    · rw [if_neg c] at hr ⊢
      walk_at "kx"
theorem zero_ok (n : Nat) (kd : D) (den t : Int) (h0 : 0 < den) (h1 : divB den = true) (h2 : -1000000000000000000 ≤ t) (h3 : t ≤ 1000000000000000000) : callF T.G T.fn (n+3) false "zero_set" [.v kd, .v (.int den), .v (.int t)] = .ok (.v (.tup (iL (cset .ze den t)))) [] := by
  by_cases a : t < 0
  · have hh := hotG
    have hz := zero_pos (n + 1) kd den (-t) h0 h1 (by omega) (by omega)
    have hm := mirrored_ok (n + 1) (zs den (-t)) (Nat.le_trans zs_len (by decide))
    rw [callF, fn_zero_set]
    simp only [f_zero_set, cset]
    walk_at "kx"
  · simp only [cset]
    rw [if_neg a]
    exact zero_pos (n + 2) kd den t h0 h1 (by omega) h3
theorem clip_ok (n : Nat) (den t lo hi : Int) (h0 : -1000000000 ≤ lo ∧ lo ≤ 0 ∧ 0 ≤ hi ∧ hi ≤ 1000000000) (h2 : -1000000000000000000 ≤ t) (h3 : t ≤ 1000000000000000000) (h4 : hi - lo ≤ 10000 ∨ (-10000 ≤ t ∧ t ≤ 10000)) :
    callF T.G T.fn (n+2) false "clip_set" [.v (kD (.cl lo hi)), .v (.int den), .v (.int t)] = .ok (.v (.tup (iL (cset (.cl lo hi) den t)))) [] := by
  obtain ⟨g1, g2, g3, g4⟩ := h0
  have hh := hotG
  have hf := flds_K
  have he : callF T.G T.fn (n+1) false "clip_ends" [.v (kD (.cl lo hi)), .v (.int t)] = .ok (.v (.tup [.int (if t < 0 then (if t < -(hi - lo) then -(hi - lo) else t) else 0), .int (if t < 0 then 0 else (if hi - lo < t then hi - lo else t))])) [] := by
    rw [callF, fn_clip_ends]
    simp only [f_clip_ends, kD, Kd.nm, Kd.lo, Kd.hi]
    by_cases a : t < 0
    · by_cases b : t < -(hi - lo)
      · walk_at "kx"
      · walk_at "kx"
    · by_cases b : hi - lo < t
      · walk_at "kx"
      · walk_at "kx"
  rw [callF, fn_clip_set]
  simp only [f_clip_set, cset]
  by_cases a : t < 0
  · rw [if_pos a] at he ⊢
    rw [if_pos a] at he
    have hr := rgB_of (i := if t < -(hi - lo) then -(hi - lo) else t) (j := 1) (by split <;> omega) (by split <;> omega) (by omega) (by omega) (by show _ ≤ 16777216; split <;> omega)
    generalize (if t < -(hi - lo) then -(hi - lo) else t) = u at *
    walk_at "kx"
  · rw [if_neg a] at he ⊢
    rw [if_neg a] at he
    have hr := rgB_of (i := 0) (j := (if hi - lo < t then hi - lo else t) + 1) (by omega) (by omega) (by split <;> omega) (by split <;> omega) (by show _ ≤ 16777216; split <;> omega)
    generalize (if hi - lo < t then hi - lo else t) = u at *
    walk_at "kx"
theorem wrap_ok (n : Nat) (den t lo hi : Int) (h0 : -1000000000 ≤ lo ∧ lo ≤ 0 ∧ 0 ≤ hi ∧ hi ≤ 1000000000) :
    callF T.G T.fn (n+1) false "wrap_set" [.v (kD (.wr lo hi)), .v (.int den), .v (.int t)] = .ok (.v (.tup (iL (cset (.wr lo hi) den t)))) [] := by
  obtain ⟨g1, g2, g3, g4⟩ := h0
  have hh := hotG
  have hf := flds_K
  have hp : 0 < hi - lo + 1 := by omega
  rw [callF, fn_wrap_set]
  simp only [f_wrap_set, cset, kD, Kd.nm, Kd.lo, Kd.hi]
  by_cases a : t % (hi - lo + 1) = 0
  · walk_at "kx"
    rfl
  · walk_at "kx"
    rfl
end L24
end
section
set_option Elab.async false
set_option linter.all false
set_option maxRecDepth 100000
set_option maxHeartbeats 4000000
namespace L24
open PySem PySem.Spec PyProof.Rows L2 Ky
local macro_rules | `(tactic| walk_at "ky") => `(tactic| simp [exSs, exS, ev, evs, evT, evO, evI, bind_ok, bind_exc, bind_bad, to_ok, to_exc, to_bad, of_so, of_no, nx_ok, dat_v, dat_own, dat_sl, sdat_v, sdat_own, sdat_bor, sdat_lk, sdat_ro, odat_L, odat_I, frz_v, frz_own, frz_sl, frzs_nil, frzs_cons, toS_v, toS_own, toS_sl, snx_so, snx_no, isi_non_int, isi_non_bool, isi_non_str, isi_non_list, isi_non_tuple, isi_non_cl, isi_bl_int, isi_bl_bool, isi_bl_str, isi_bl_list, isi_bl_tuple, isi_bl_cl, isi_int_int, isi_int_bool, isi_int_str, isi_int_list, isi_int_tuple, isi_int_cl, isi_str_int, isi_str_bool, isi_str_str, isi_str_list, isi_str_tuple, isi_str_cl, isi_tup_int, isi_tup_bool, isi_tup_str, isi_tup_list, isi_tup_tuple, isi_tup_cl, isi_lst_int, isi_lst_bool, isi_lst_str, isi_lst_list, isi_lst_tuple, isi_lst_cl, isi_scr_int, isi_scr_bool, isi_scr_str, isi_scr_list, isi_scr_tuple, isi_scr_cl, isi_ins_int, isi_ins_bool, isi_ins_str, isi_ins_list, isi_ins_tuple, isi_ins_cl, fin, outs, cmpR, cmpD, eqD, biD, lenD, lim, binD, augD, negD, truD, ixD, mutD, put, isLs, at_hot, at_cst, at_prop, at_meth, at_ccon, at_eqm, at_dct, at_sub, at_cl, at_gl, at_bl, at_flds, at_exc, at_kws, at_xcl, at_lf, hotB, asgT, callR, lends, lend, ndN, slOf, borN, back, argsE, setK, kindS, lose, lks, lock, lock1, unlock, unlock1, itemsD, loopF_nil, loopF_cons, inD_tup, inD_iL, flatD, eqF, rngI_iL, rgR_t, rgR_f, mkC, dropX, List.filterMap_cons, List.filterMap_nil, atI_0, atI_1, atI_2, atI_3, atI_4, iL_nil, iL_len, intsD_iL, List.lookup_cons, List.lookup_nil, ne_floor_ceil, ne_floor_near, ne_floor_even, ne_floor_zero, ne_floor_clip, ne_floor_wrap, ne_ceil_floor, ne_ceil_near, ne_ceil_even, ne_ceil_zero, ne_ceil_clip, ne_ceil_wrap, ne_near_floor, ne_near_ceil, ne_near_even, ne_near_zero, ne_near_clip, ne_near_wrap, ne_even_floor, ne_even_ceil, ne_even_near, ne_even_zero, ne_even_clip, ne_even_wrap, ne_zero_floor, ne_zero_ceil, ne_zero_near, ne_zero_even, ne_zero_clip, ne_zero_wrap, ne_clip_floor, ne_clip_ceil, ne_clip_near, ne_clip_even, ne_clip_zero, ne_clip_wrap, ne_wrap_floor, ne_wrap_ceil, ne_wrap_near, ne_wrap_even, ne_wrap_zero, ne_wrap_clip, ne_name_low, ne_name_high, ne_name_is_round, ne_name_count, ne_low_name, ne_low_high, ne_low_is_round, ne_low_count, ne_high_name, ne_high_low, ne_high_is_round, ne_high_count, ne_is_round_name, ne_is_round_low, ne_is_round_high, ne_is_round_count, ne_count_name, ne_count_low, ne_count_high, ne_count_is_round, bq_name_low, bq_name_high, bq_name_is_round, bq_name_count, bq_low_name, bq_low_high, bq_low_is_round, bq_low_count, bq_high_name, bq_high_low, bq_high_is_round, bq_high_count, bq_is_round_name, bq_is_round_low, bq_is_round_high, bq_is_round_count, bq_count_name, bq_count_low, bq_count_high, bq_count_is_round, bq_floor_ceil, bq_floor_near, bq_floor_even, bq_floor_zero, bq_floor_clip, bq_floor_wrap, bq_ceil_floor, bq_ceil_near, bq_ceil_even, bq_ceil_zero, bq_ceil_clip, bq_ceil_wrap, bq_near_floor, bq_near_ceil, bq_near_even, bq_near_zero, bq_near_clip, bq_near_wrap, bq_even_floor, bq_even_ceil, bq_even_near, bq_even_zero, bq_even_clip, bq_even_wrap, bq_zero_floor, bq_zero_ceil, bq_zero_near, bq_zero_even, bq_zero_clip, bq_zero_wrap, bq_clip_floor, bq_clip_ceil, bq_clip_near, bq_clip_even, bq_clip_zero, bq_clip_wrap, bq_wrap_floor, bq_wrap_ceil, bq_wrap_near, bq_wrap_even, bq_wrap_zero, bq_wrap_clip, *])
local macro_rules | `(tactic| walk_at "kx") => `(tactic| simp [exSs, exS.eq_1, exS.eq_2, exS.eq_3, exS.eq_4, exS.eq_5, exS.eq_6, exS.eq_7, exS.eq_8, exS.eq_9, exS.eq_10, exS.eq_13, exS.eq_14, exS.eq_15, exS.eq_16, exS.eq_17, exS.eq_18, ev.eq_1, ev.eq_2, ev.eq_3, ev.eq_4, ev.eq_5, ev.eq_6, ev.eq_7, ev.eq_8, ev.eq_9, ev.eq_10, ev.eq_11, ev.eq_12, ev.eq_13, ev.eq_14, ev.eq_15, ev.eq_16, ev.eq_17, ev.eq_18, ev.eq_19, ev.eq_20, ev.eq_21, ev.eq_22, ev.eq_23, ev.eq_24, ev.eq_25, ev.eq_26, ev.eq_27, ev.eq_29, ev.eq_30, ev.eq_31, ev.eq_32, ev.eq_33, ev.eq_34, ev.eq_35, evs, evT, evO, evI, bind_ok, bind_exc, bind_bad, to_ok, to_exc, to_bad, of_so, of_no, nx_ok, dat_v, dat_own, dat_sl, sdat_v, sdat_own, sdat_bor, sdat_lk, sdat_ro, odat_L, odat_I, frz_v, frz_own, frz_sl, frzs_nil, frzs_cons, toS_v, toS_own, toS_sl, snx_so, snx_no, isi_non_int, isi_non_bool, isi_non_str, isi_non_list, isi_non_tuple, isi_non_cl, isi_bl_int, isi_bl_bool, isi_bl_str, isi_bl_list, isi_bl_tuple, isi_bl_cl, isi_int_int, isi_int_bool, isi_int_str, isi_int_list, isi_int_tuple, isi_int_cl, isi_str_int, isi_str_bool, isi_str_str, isi_str_list, isi_str_tuple, isi_str_cl, isi_tup_int, isi_tup_bool, isi_tup_str, isi_tup_list, isi_tup_tuple, isi_tup_cl, isi_lst_int, isi_lst_bool, isi_lst_str, isi_lst_list, isi_lst_tuple, isi_lst_cl, isi_scr_int, isi_scr_bool, isi_scr_str, isi_scr_list, isi_scr_tuple, isi_scr_cl, isi_ins_int, isi_ins_bool, isi_ins_str, isi_ins_list, isi_ins_tuple, isi_ins_cl, fin, outs, cmpR, cmpD, eqD, biD, lenD, lim, binD, augD, negD, truD, ixD, mutD, put, isLs, at_hot, at_cst, at_prop, at_meth, at_ccon, at_eqm, at_dct, at_sub, at_cl, at_gl, at_bl, at_flds, at_exc, at_kws, at_xcl, at_lf, hotB, asgT, callR, lends, lend, ndN, slOf, borN, back, argsE, setK, kindS, lose, lks, lock, lock1, unlock, unlock1, itemsD, inD_tup, inD_iL, flatD, eqF, rngI_iL, rgR_t, rgR_f, mkC, dropX, List.filterMap_cons, List.filterMap_nil, atI_0, atI_1, atI_2, atI_3, atI_4, iL_nil, iL_len, intsD_iL, plainAt, wipeE, restE, List.lookup_cons, List.lookup_nil, ne_floor_ceil, ne_floor_near, ne_floor_even, ne_floor_zero, ne_floor_clip, ne_floor_wrap, ne_ceil_floor, ne_ceil_near, ne_ceil_even, ne_ceil_zero, ne_ceil_clip, ne_ceil_wrap, ne_near_floor, ne_near_ceil, ne_near_even, ne_near_zero, ne_near_clip, ne_near_wrap, ne_even_floor, ne_even_ceil, ne_even_near, ne_even_zero, ne_even_clip, ne_even_wrap, ne_zero_floor, ne_zero_ceil, ne_zero_near, ne_zero_even, ne_zero_clip, ne_zero_wrap, ne_clip_floor, ne_clip_ceil, ne_clip_near, ne_clip_even, ne_clip_zero, ne_clip_wrap, ne_wrap_floor, ne_wrap_ceil, ne_wrap_near, ne_wrap_even, ne_wrap_zero, ne_wrap_clip, ne_name_low, ne_name_high, ne_name_is_round, ne_name_count, ne_low_name, ne_low_high, ne_low_is_round, ne_low_count, ne_high_name, ne_high_low, ne_high_is_round, ne_high_count, ne_is_round_name, ne_is_round_low, ne_is_round_high, ne_is_round_count, ne_count_name, ne_count_low, ne_count_high, ne_count_is_round, bq_name_low, bq_name_high, bq_name_is_round, bq_name_count, bq_low_name, bq_low_high, bq_low_is_round, bq_low_count, bq_high_name, bq_high_low, bq_high_is_round, bq_high_count, bq_is_round_name, bq_is_round_low, bq_is_round_high, bq_is_round_count, bq_count_name, bq_count_low, bq_count_high, bq_count_is_round, bq_floor_ceil, bq_floor_near, bq_floor_even, bq_floor_zero, bq_floor_clip, bq_floor_wrap, bq_ceil_floor, bq_ceil_near, bq_ceil_even, bq_ceil_zero, bq_ceil_clip, bq_ceil_wrap, bq_near_floor, bq_near_ceil, bq_near_even, bq_near_zero, bq_near_clip, bq_near_wrap, bq_even_floor, bq_even_ceil, bq_even_near, bq_even_zero, bq_even_clip, bq_even_wrap, bq_zero_floor, bq_zero_ceil, bq_zero_near, bq_zero_even, bq_zero_clip, bq_zero_wrap, bq_clip_floor, bq_clip_ceil, bq_clip_near, bq_clip_even, bq_clip_zero, bq_clip_wrap, bq_wrap_floor, bq_wrap_ceil, bq_wrap_near, bq_wrap_even, bq_wrap_zero, bq_wrap_clip, *])
def Kd.wrp : Kd → Bool | .wr _ _ => true | _ => false
def Ask (k : Kd) (den t : Int) : Prop := k.ok ∧ k.dn den = true ∧ divB den = true ∧ -1000000000000000000 ≤ t ∧ t ≤ 1000000000000000000 ∧ (k.wrp = true ∨ k.hi - k.lo ≤ 10000 ∨ (-10000 ≤ t ∧ t ≤ 10000))
def sfn : Kd → Str
  | .ev => "even_set" | .ze => "zero_set" | .cl _ _ => "clip_set" | .wr _ _ => "wrap_set" | _ => "around_set"
def setsL : List (Str × D) := [("floor", .fn "around_set"), ("ceil", .fn "around_set"), ("near", .fn "around_set"), ("even", .fn "even_set"), ("zero", .fn "zero_set"), ("clip", .fn "clip_set"), ("wrap", .fn "wrap_set")]
theorem dct_S : T.G.dct "SETS" = some setsL := by kernel_rfl
theorem dct_L (k : Kd) : List.lookup k.nm setsL = some (.fn (sfn k)) := by
  cases k <;> kernel_rfl
theorem gl_S (k : Kd) : sfn k ∈ T.G.gl := by
  cases k <;> exact List.contains_iff_mem.mp (by kernel_rfl)
theorem dn_pos {k : Kd} {den : Int} (h : k.dn den = true) : 0 < den := by
  unfold Kd.dn at h
  simp at h
  omega
theorem one_ok (n : Nat) (k : Kd) (den t : Int) (ha : Ask k den t) : callF T.G T.fn (n+3) false (sfn k) [.v (kD k), .v (.int den), .v (.int t)] = .ok (.v (.tup (iL (cset k den t)))) [] := by
  obtain ⟨g1, g2, g3, g4, g5, g6⟩ := ha
  have h0 := dn_pos g2
  cases k with
  | fl => exact around_ok (n+2) _ den t g3
  | ce => exact around_ok (n+2) _ den t g3
  | ne => exact around_ok (n+2) _ den t g3
  | ev => exact even_ok (n+1) _ den t h0 g3
  | ze => exact zero_ok n _ den t h0 g3 g4 g5
  | cl lo hi => exact clip_ok (n+1) den t lo hi g1 g4 g5 (g6.resolve_left Bool.false_ne_true)
  | wr lo hi => exact wrap_ok (n+2) den t lo hi g1
theorem members_ok (n : Nat) (k : Kd) (den t : Int) (ha : Ask k den t) : callF T.G T.fn (n+4) false "members_of" [.v (kD k), .v (kD k), .v (.int den), .v (.int t)] = .ok (.v (.tup (iL (cset k den t)))) [] := by
  have h1 := one_ok n k den t ha
  have h2 := dct_S
  have h3 := dct_L k
  have h4 := gl_S k
  have h5 := eq_ok (n+2) false k
  have h6 := eqm_K
  have h7 := flds_K
  have h8 : ∀ c fs, toP (D.ins c fs) = none := fun _ _ => rfl
  have hh := hotG
  rw [callF, fn_members_of]
  simp only [f_members_of]
  unfold kD at h1 h5 ⊢
  walk_at "kx"
theorem set_ok (n : Nat) (k : Kd) (den t : Int) (ha : Ask k den t) : callF T.G T.fn (n+5) false "choice_set" [.v (kD k), .v (.int den), .v (.int t)] = .ok (.v (.tup (iL (cset k den t)))) [] := by
  have h1 := members_ok n k den t ha
  have h2 := den_ok (n+2) k den
  rw [if_pos ha.2.1] at h2
  have hh := hotG
  rw [callF, fn_choice_set]
  simp only [f_choice_set]
  walk_at "kx"
theorem set_no (n : Nat) (k : Kd) (den t : Int) (hd : k.dn den = false) : callF T.G T.fn (n+3) false "choice_set" [.v (kD k), .v (.int den), .v (.int t)] = .exc "BadCount" [("count", .int den)] := by
  have h2 := den_ok n k den
  rw [if_neg (by rw [hd]; exact Bool.false_ne_true)] at h2
  have hh := hotG
  rw [callF, fn_choice_set]
  simp only [f_choice_set]
  walk_at "kx"
theorem exc_W : T.G.exc "WebError" = none := by kernel_rfl
theorem xcl_ok : T.G.xcl = [("BadCount" : Str), "BadKind", "BadLength", "BadPlace", "Mismatch", "NotChosen", "WebError"] := by kernel_rfl
theorem sub_C1 : T.G.sub "BadCount" "BadCount" = true := by kernel_rfl
theorem sub_C2 : T.G.sub "BadCount" "BadKind" = false := by kernel_rfl
theorem sub_C3 : T.G.sub "BadCount" "BadLength" = false := by kernel_rfl
theorem sub_C4 : T.G.sub "BadCount" "BadPlace" = false := by kernel_rfl
theorem sub_C5 : T.G.sub "BadCount" "Mismatch" = false := by kernel_rfl
theorem sub_C6 : T.G.sub "BadCount" "NotChosen" = false := by kernel_rfl
theorem sub_C7 : T.G.sub "BadCount" "WebError" = true := by kernel_rfl
theorem refused_ok (n : Nat) (k : Kd) (den t : Int) (hk : k.ok) (hd : k.dn den = false) : callF T.G T.fn (n+4) false "_law_refused" [.v (pD k), .v (.int den), .v (.int t)] = .ok (.v (.bl true)) [] := by
  have h1 := set_no n k den t hd
  have h2 := kind_ok (n+1) k hk
  have h3 := is_int_ok (n+2) true den
  have c0 := exc_C
  have c1 := sub_C1
  have c2 := sub_C2
  have c3 := sub_C3
  have c4 := sub_C4
  have c5 := sub_C5
  have c6 := sub_C6
  have c7 := sub_C7
  have c8 := xcl_ok
  have hh := hotG
  rw [callF, fn__law_refused]
  simp only [f__law_refused]
  walk_at "kx"
theorem row_ok (n : Nat) (l : List Int) (hl : l.length < 16777216) : callF T.G T.fn (n+2) false "_law_row" [.v (.tup (iL l)), .v (.lst (iL l))] = .ok (.v (.bl true)) [] := by
  have hh := hotG
  have h1 : ∀ i : Int, callF T.G T.fn (n+1) false "_law_is_int" [.v (.int i)] = .ok (.v (.bl true)) [] := fun i => is_int_ok n false i
  have hf : ∃ e, exS T.G (callF T.G T.fn (n+1)) l1__law_row false [some (.v (.tup (iL l))), some (.v (.lst (iL l))), none] = .next e ∧ ∃ v, e = [some (.v (.tup (iL l))), some (.v (.lst (iL l))), v] := by
    refine for_keep (xs := iL (rngL 0 (l.length : Int))) (is := []) (e := [some (.v (.tup (iL l))), some (.v (.lst (iL l))), none]) (fun e => e = [some (.v (.tup (iL l))), some (.v (.lst (iL l))), none] ∨ ∃ i, e = [some (.v (.tup (iL l))), some (.v (.lst (iL l))), some (.v (.int i))]) ?_ (.inl rfl) ?_ ?_
    · exact evI_r1 (r := .v (.int l.length)) (by walk_at "kx") rfl (smallB_of (by omega) (by omega))
    · rintro d e hd w
      obtain ⟨i, rfl, hi⟩ := iL_mem hd
      rw [rngL_mem] at hi
      obtain ⟨j, rfl⟩ := Int.eq_ofNat_of_zero_le hi.1
      have hj : j < l.length := by omega
      have e1 : atI (iL l) (j : Int) = some (.int l[j]) := by rw [Ky.atI_nat, iL_get, List.getElem?_eq_getElem hj]; rfl
      refine ⟨[some (.v (.tup (iL l))), some (.v (.lst (iL l))), some (.v (.int j))], _, ?_, ?_, .inr ⟨j, rfl⟩⟩
      · rcases w with rfl | ⟨i, rfl⟩ <;> rfl
      · walk_at "kx"
    · rintro e2 (rfl | ⟨i, rfl⟩)
      · exact ⟨_, rfl, _, rfl⟩
      · exact ⟨_, rfl, _, rfl⟩
  obtain ⟨_, hf, v, rfl⟩ := hf
  refine (callF_run fn__law_row rfl rfl (r := .ret (.v (.bl true)) [some (.v (.tup (iL l))), some (.v (.lst (iL l))), v]) ?_).trans rfl
  simp only [f__law_row]
  revert hf
  induction l1__law_row using gen_sx with | h F => ?_
  intro hf
  walk_at "kx"
end L24
end
section
set_option Elab.async false
set_option linter.all false
set_option maxRecDepth 100000
set_option maxHeartbeats 4000000
namespace L24
open PySem PySem.Spec PyProof.Rows L2 Ky
local macro_rules | `(tactic| walk_at "ky") => `(tactic| simp [exSs, exS, ev, evs, evT, evO, evI, bind_ok, bind_exc, bind_bad, to_ok, to_exc, to_bad, of_so, of_no, nx_ok, dat_v, dat_own, dat_sl, sdat_v, sdat_own, sdat_bor, sdat_lk, sdat_ro, odat_L, odat_I, frz_v, frz_own, frz_sl, frzs_nil, frzs_cons, toS_v, toS_own, toS_sl, snx_so, snx_no, isi_non_int, isi_non_bool, isi_non_str, isi_non_list, isi_non_tuple, isi_non_cl, isi_bl_int, isi_bl_bool, isi_bl_str, isi_bl_list, isi_bl_tuple, isi_bl_cl, isi_int_int, isi_int_bool, isi_int_str, isi_int_list, isi_int_tuple, isi_int_cl, isi_str_int, isi_str_bool, isi_str_str, isi_str_list, isi_str_tuple, isi_str_cl, isi_tup_int, isi_tup_bool, isi_tup_str, isi_tup_list, isi_tup_tuple, isi_tup_cl, isi_lst_int, isi_lst_bool, isi_lst_str, isi_lst_list, isi_lst_tuple, isi_lst_cl, isi_scr_int, isi_scr_bool, isi_scr_str, isi_scr_list, isi_scr_tuple, isi_scr_cl, isi_ins_int, isi_ins_bool, isi_ins_str, isi_ins_list, isi_ins_tuple, isi_ins_cl, fin, outs, cmpR, cmpD, eqD, biD, lenD, lim, binD, augD, negD, truD, ixD, mutD, put_pok, pok_no, pok_v, pok_own, pok_ro, pok_fsl, isLs, at_hot, at_cst, at_prop, at_meth, at_ccon, at_eqm, at_dct, at_sub, at_cl, at_gl, at_bl, at_flds, at_exc, at_kws, at_xcl, at_lf, hotB, asgT, callR, lends, lend, ndN, slOf, borN, back, argsE, setK, kindS, lose, lks, lock, lock1, unlock, unlock1, itemsD, loopF_nil, loopF_cons, inD_tup, inD_iL, flatD, eqF, rngI_iL, rgR_t, rgR_f, mkC, dropX, List.filterMap_cons, List.filterMap_nil, atI_0, atI_1, atI_2, atI_3, atI_4, iL_nil, iL_len, intsD_iL, List.lookup_cons, List.lookup_nil, ne_floor_ceil, ne_floor_near, ne_floor_even, ne_floor_zero, ne_floor_clip, ne_floor_wrap, ne_ceil_floor, ne_ceil_near, ne_ceil_even, ne_ceil_zero, ne_ceil_clip, ne_ceil_wrap, ne_near_floor, ne_near_ceil, ne_near_even, ne_near_zero, ne_near_clip, ne_near_wrap, ne_even_floor, ne_even_ceil, ne_even_near, ne_even_zero, ne_even_clip, ne_even_wrap, ne_zero_floor, ne_zero_ceil, ne_zero_near, ne_zero_even, ne_zero_clip, ne_zero_wrap, ne_clip_floor, ne_clip_ceil, ne_clip_near, ne_clip_even, ne_clip_zero, ne_clip_wrap, ne_wrap_floor, ne_wrap_ceil, ne_wrap_near, ne_wrap_even, ne_wrap_zero, ne_wrap_clip, ne_name_low, ne_name_high, ne_name_is_round, ne_name_count, ne_low_name, ne_low_high, ne_low_is_round, ne_low_count, ne_high_name, ne_high_low, ne_high_is_round, ne_high_count, ne_is_round_name, ne_is_round_low, ne_is_round_high, ne_is_round_count, ne_count_name, ne_count_low, ne_count_high, ne_count_is_round, bq_name_low, bq_name_high, bq_name_is_round, bq_name_count, bq_low_name, bq_low_high, bq_low_is_round, bq_low_count, bq_high_name, bq_high_low, bq_high_is_round, bq_high_count, bq_is_round_name, bq_is_round_low, bq_is_round_high, bq_is_round_count, bq_count_name, bq_count_low, bq_count_high, bq_count_is_round, bq_floor_ceil, bq_floor_near, bq_floor_even, bq_floor_zero, bq_floor_clip, bq_floor_wrap, bq_ceil_floor, bq_ceil_near, bq_ceil_even, bq_ceil_zero, bq_ceil_clip, bq_ceil_wrap, bq_near_floor, bq_near_ceil, bq_near_even, bq_near_zero, bq_near_clip, bq_near_wrap, bq_even_floor, bq_even_ceil, bq_even_near, bq_even_zero, bq_even_clip, bq_even_wrap, bq_zero_floor, bq_zero_ceil, bq_zero_near, bq_zero_even, bq_zero_clip, bq_zero_wrap, bq_clip_floor, bq_clip_ceil, bq_clip_near, bq_clip_even, bq_clip_zero, bq_clip_wrap, bq_wrap_floor, bq_wrap_ceil, bq_wrap_near, bq_wrap_even, bq_wrap_zero, bq_wrap_clip, *])
local macro_rules | `(tactic| walk_at "kx") => `(tactic| simp [exSs, exS.eq_1, exS.eq_2, exS.eq_3, exS.eq_4, exS.eq_5, exS.eq_6, exS.eq_7, exS.eq_8, exS.eq_9, exS.eq_10, exS.eq_13, exS.eq_14, exS.eq_15, exS.eq_16, exS.eq_17, exS.eq_18, ev.eq_1, ev.eq_2, ev.eq_3, ev.eq_4, ev.eq_5, ev.eq_6, ev.eq_7, ev.eq_8, ev.eq_9, ev.eq_10, ev.eq_11, ev.eq_12, ev.eq_13, ev.eq_14, ev.eq_15, ev.eq_16, ev.eq_17, ev.eq_18, ev.eq_19, ev.eq_20, ev.eq_21, ev.eq_22, ev.eq_23, ev.eq_24, ev.eq_25, ev.eq_26, ev.eq_27, ev.eq_29, ev.eq_30, ev.eq_31, ev.eq_32, ev.eq_33, ev.eq_34, ev.eq_35, evs, evT, evO, evI, bind_ok, bind_exc, bind_bad, to_ok, to_exc, to_bad, of_so, of_no, nx_ok, dat_v, dat_own, dat_sl, sdat_v, sdat_own, sdat_bor, sdat_lk, sdat_ro, odat_L, odat_I, frz_v, frz_own, frz_sl, frzs_nil, frzs_cons, toS_v, toS_own, toS_sl, snx_so, snx_no, isi_non_int, isi_non_bool, isi_non_str, isi_non_list, isi_non_tuple, isi_non_cl, isi_bl_int, isi_bl_bool, isi_bl_str, isi_bl_list, isi_bl_tuple, isi_bl_cl, isi_int_int, isi_int_bool, isi_int_str, isi_int_list, isi_int_tuple, isi_int_cl, isi_str_int, isi_str_bool, isi_str_str, isi_str_list, isi_str_tuple, isi_str_cl, isi_tup_int, isi_tup_bool, isi_tup_str, isi_tup_list, isi_tup_tuple, isi_tup_cl, isi_lst_int, isi_lst_bool, isi_lst_str, isi_lst_list, isi_lst_tuple, isi_lst_cl, isi_scr_int, isi_scr_bool, isi_scr_str, isi_scr_list, isi_scr_tuple, isi_scr_cl, isi_ins_int, isi_ins_bool, isi_ins_str, isi_ins_list, isi_ins_tuple, isi_ins_cl, fin, outs, cmpR, cmpD, eqD, biD, lenD, lim, binD, augD, negD, truD, ixD, mutD, put_pok, pok_no, pok_v, pok_own, pok_ro, pok_fsl, isLs, at_hot, at_cst, at_prop, at_meth, at_ccon, at_eqm, at_dct, at_sub, at_cl, at_gl, at_bl, at_flds, at_exc, at_kws, at_xcl, at_lf, hotB, asgT, callR, lends, lend, ndN, slOf, borN, back, argsE, setK, kindS, lose, lks, lock, lock1, unlock, unlock1, itemsD, inD_tup, inD_iL, flatD, eqF, rngI_iL, rgR_t, rgR_f, mkC, dropX, List.filterMap_cons, List.filterMap_nil, atI_0, atI_1, atI_2, atI_3, atI_4, iL_nil, iL_len, intsD_iL, plainAt, wipeE, restE, List.lookup_cons, List.lookup_nil, ne_floor_ceil, ne_floor_near, ne_floor_even, ne_floor_zero, ne_floor_clip, ne_floor_wrap, ne_ceil_floor, ne_ceil_near, ne_ceil_even, ne_ceil_zero, ne_ceil_clip, ne_ceil_wrap, ne_near_floor, ne_near_ceil, ne_near_even, ne_near_zero, ne_near_clip, ne_near_wrap, ne_even_floor, ne_even_ceil, ne_even_near, ne_even_zero, ne_even_clip, ne_even_wrap, ne_zero_floor, ne_zero_ceil, ne_zero_near, ne_zero_even, ne_zero_clip, ne_zero_wrap, ne_clip_floor, ne_clip_ceil, ne_clip_near, ne_clip_even, ne_clip_zero, ne_clip_wrap, ne_wrap_floor, ne_wrap_ceil, ne_wrap_near, ne_wrap_even, ne_wrap_zero, ne_wrap_clip, ne_name_low, ne_name_high, ne_name_is_round, ne_name_count, ne_low_name, ne_low_high, ne_low_is_round, ne_low_count, ne_high_name, ne_high_low, ne_high_is_round, ne_high_count, ne_is_round_name, ne_is_round_low, ne_is_round_high, ne_is_round_count, ne_count_name, ne_count_low, ne_count_high, ne_count_is_round, bq_name_low, bq_name_high, bq_name_is_round, bq_name_count, bq_low_name, bq_low_high, bq_low_is_round, bq_low_count, bq_high_name, bq_high_low, bq_high_is_round, bq_high_count, bq_is_round_name, bq_is_round_low, bq_is_round_high, bq_is_round_count, bq_count_name, bq_count_low, bq_count_high, bq_count_is_round, bq_floor_ceil, bq_floor_near, bq_floor_even, bq_floor_zero, bq_floor_clip, bq_floor_wrap, bq_ceil_floor, bq_ceil_near, bq_ceil_even, bq_ceil_zero, bq_ceil_clip, bq_ceil_wrap, bq_near_floor, bq_near_ceil, bq_near_even, bq_near_zero, bq_near_clip, bq_near_wrap, bq_even_floor, bq_even_ceil, bq_even_near, bq_even_zero, bq_even_clip, bq_even_wrap, bq_zero_floor, bq_zero_ceil, bq_zero_near, bq_zero_even, bq_zero_clip, bq_zero_wrap, bq_clip_floor, bq_clip_ceil, bq_clip_near, bq_clip_even, bq_clip_zero, bq_clip_wrap, bq_wrap_floor, bq_wrap_ceil, bq_wrap_near, bq_wrap_even, bq_wrap_zero, bq_wrap_clip, *])
def bigM : Int := (10 ^ 60) ^ 10
theorem big_ev (n : Nat) (e : Ky.Env) : ev (T.G.at false) (callF T.G T.fn n false) (.bin .Pow (.bin .Pow (.cst (.int 10)) (.cst (.int 60))) (.cst (.int 10))) e = .ok (.v (.int bigM)) e := by kernel_rfl
theorem cut_63 (ns : List Int) (hl : ns.length ≤ 63) : Ky.cutD ns none (some 63) = ns := by
  unfold Ky.cutD
  have e1 : HT.sIx ns.length 0 none = 0 := rfl
  have e2 : HT.sIx ns.length ns.length (some 63) = ns.length := by
    show (if (63 : Int) < 0 then ((63 : Int) + ns.length).toNat else min (63 : Int).toNat ns.length) = ns.length
    rw [if_neg (by decide)]
    show min 63 ns.length = ns.length
    omega
  rw [e1, e2]
  simp
theorem pool_ok (n : Nat) (ns : List Int) (hl : ns.length ≤ 63) : ∃ p : List Int, callF T.G T.fn (n+1) false "_law_pool" [.v (.scr ns)] = .ok (.own (.L (iL p))) [] ∧ p.length ≤ 63 := by
  have hh := hotG
  refine ⟨ns.map fun x => (if x < 0 then -x else x) % bigM, ?_, by rw [List.length_map]; exact hl⟩
  have hp := big_ev n
  have hM : 0 < bigM := by decide +kernel
  have hcut : slcD (.scr ns) none (some 63) = some (.own (.L (iL ns))) := by
    show some (R.own (O.L ((Ky.cutD ns none (some 63)).map D.int))) = _
    rw [cut_63 ns hl]; rfl
  have hc : ev (T.G.at false) (callF T.G T.fn n false) c1__law_pool [some (.v (.scr ns)), none] = .ok (.own (.L (iL (ns.map fun x => (if x < 0 then -x else x) % bigM)))) [some (.v (.scr ns)), none] := by
    unfold c1__law_pool
    refine (comp_map (xs := iL ns) (is := []) (e := [some (.v (.scr ns)), none]) (e3 := [some (.v (.scr ns)), none]) (fun d => match d with | .int x => .int ((if x < 0 then -x else x) % bigM) | d => d) rfl ?_ rfl ?_ ?_ rfl).trans ?_
    · walk_at "kx"
    · rw [iL_len]; exact Nat.le_trans hl (by decide)
    · intro d m
      obtain ⟨x, rfl, _⟩ := iL_mem m
      refine ⟨[some (.v (.scr ns)), some (.v (.int x))], .v (.int ((if x < 0 then -x else x) % bigM)), rfl, ?_, rfl, rfl⟩
      rw [ev]
      simp only [hp]
      walk_at "kx"
    · rw [iL_map]; rfl
  refine (callF_run fn__law_pool rfl rfl (E := [some (.v (.scr ns)), none]) (r := .ret (.own (.L (iL (ns.map fun x => (if x < 0 then -x else x) % bigM)))) [some (.v (.scr ns)), none]) ?_).trans rfl
  simp only [f__law_pool]
  revert hc
  generalize (ns.map fun x => (if x < 0 then -x else x) % bigM) = X1
  induction c1__law_pool using gen_ex with | h F => ?_
  intro hc
  walk_at "kx"
def SK (k : Kd) : Prop := -9 ≤ k.lo ∧ k.lo ≤ 0 ∧ 0 ≤ k.hi ∧ k.hi ≤ 9
def kinds (a b c d : Int) : List Kd := [.fl, .ce, .ne, .ev, .ze, .cl (-a) b, .wr (-c) d]
theorem kinds_ok (n : Nat) (p : List Int) (hl : p.length ≤ 63) : ∃ a b c d p', callF T.G T.fn (n+3) false "_law_kinds" [.bor (.L (iL p))] = .ok (.own (.L ((kinds a b c d).map pD))) [.L (iL p')] ∧ (∀ k ∈ kinds a b c d, SK k) ∧ p'.length ≤ 63 := by
  have hh := hotG
  obtain ⟨a, p1, e1, a1, a2, q1⟩ := bound_spec n 5 p hl (by decide)
  obtain ⟨b, p2, e2, b1, b2, q2⟩ := bound_spec n 6 p1 q1 (by decide)
  obtain ⟨c, p3, e3, c1, c2, q3⟩ := bound_spec n 5 p2 q2 (by decide)
  obtain ⟨d, p4, e4, d1, d2, q4⟩ := bound_spec n 6 p3 q3 (by decide)
  refine ⟨a, b, c, d, p4, ?_, ?_, q4⟩
  · have f1 : exS T.G (callF T.G T.fn (n+2)) l2__law_kinds false [some (.bor (.L (iL p))), some (.own (.L [])), none, none] = .next [some (.bor (.L (iL p))), some (.own (.L ([Kd.fl, .ce, .ne, .ev, .ze].map pD))), some (.v (.str "zero")), none] := by
      unfold l2__law_kinds
      simp only [List.map, pD, Kd.nm, Kd.lo, Kd.hi]
      walk_at "ky"
    have f2 : exS T.G (callF T.G T.fn (n+2)) l1__law_kinds false [some (.bor (.L (iL p))), some (.own (.L ([Kd.fl, .ce, .ne, .ev, .ze].map pD))), some (.v (.str "zero")), none] = .next [some (.bor (.L (iL p4))), some (.own (.L ((kinds a b c d).map pD))), some (.v (.str "wrap")), some (.v (.int (-c)))] := by
      unfold l1__law_kinds
      simp only [List.map, pD, kinds, Kd.nm, Kd.lo, Kd.hi]
      walk_at "ky"
    refine (callF_run fn__law_kinds rfl rfl (E := [some (.bor (.L (iL p))), none, none, none]) (r := .ret (.sl 1) [some (.bor (.L (iL p4))), some (.own (.L ((kinds a b c d).map pD))), some (.v (.str "wrap")), some (.v (.int (-c)))]) ?_).trans rfl
    simp only [f__law_kinds]
    revert f1 f2
    generalize (kinds a b c d).map pD = X1
    generalize [Kd.fl, .ce, .ne, .ev, .ze].map pD = X2
    induction l2__law_kinds using gen_sx with | h F => ?_
    induction l1__law_kinds using gen_sx with | h F2 => ?_
    intro f1 f2
    walk_at "kx"
  · intro k hk
    simp only [kinds, List.mem_cons, List.not_mem_nil, or_false] at hk
    unfold SK
    rcases hk with rfl | rfl | rfl | rfl | rfl | rfl | rfl <;> simp [Kd.lo, Kd.hi] <;> omega
end L24
end
section
set_option Elab.async false
set_option linter.all false
set_option maxRecDepth 100000
set_option maxHeartbeats 4000000
namespace L24
open PySem PySem.Spec PyProof.Rows L2 Ky
local macro_rules | `(tactic| walk_at "ky") => `(tactic| simp [exSs, exS, ev, evs, evT, evO, evI, bind_ok, bind_exc, bind_bad, to_ok, to_exc, to_bad, of_so, of_no, nx_ok, dat_v, dat_own, dat_sl, sdat_v, sdat_own, sdat_bor, sdat_lk, sdat_ro, odat_L, odat_I, frz_v, frz_own, frz_sl, frzs_nil, frzs_cons, toS_v, toS_own, toS_sl, snx_so, snx_no, isi_non_int, isi_non_bool, isi_non_str, isi_non_list, isi_non_tuple, isi_non_cl, isi_bl_int, isi_bl_bool, isi_bl_str, isi_bl_list, isi_bl_tuple, isi_bl_cl, isi_int_int, isi_int_bool, isi_int_str, isi_int_list, isi_int_tuple, isi_int_cl, isi_str_int, isi_str_bool, isi_str_str, isi_str_list, isi_str_tuple, isi_str_cl, isi_tup_int, isi_tup_bool, isi_tup_str, isi_tup_list, isi_tup_tuple, isi_tup_cl, isi_lst_int, isi_lst_bool, isi_lst_str, isi_lst_list, isi_lst_tuple, isi_lst_cl, isi_scr_int, isi_scr_bool, isi_scr_str, isi_scr_list, isi_scr_tuple, isi_scr_cl, isi_ins_int, isi_ins_bool, isi_ins_str, isi_ins_list, isi_ins_tuple, isi_ins_cl, fin, outs, cmpR, cmpD, eqD, biD, lenD, lim, binD, augD, negD, truD, ixD, mutD, put_pok, pok_no, pok_v, pok_own, pok_ro, pok_fsl, isLs, at_hot, at_cst, at_prop, at_meth, at_ccon, at_eqm, at_dct, at_sub, at_cl, at_gl, at_bl, at_flds, at_exc, at_kws, at_xcl, at_lf, hotB, asgT, callR, lends, lend, ndN, slOf, borN, back, argsE, setK, kindS, lose, lks, lock, lock1, unlock, unlock1, itemsD, loopF_nil, loopF_cons, inD_tup, inD_iL, flatD, eqF, rngI_iL, rgR_t, rgR_f, mkC, dropX, List.filterMap_cons, List.filterMap_nil, atI_0, atI_1, atI_2, atI_3, atI_4, iL_nil, iL_len, intsD_iL, List.lookup_cons, List.lookup_nil, ne_floor_ceil, ne_floor_near, ne_floor_even, ne_floor_zero, ne_floor_clip, ne_floor_wrap, ne_ceil_floor, ne_ceil_near, ne_ceil_even, ne_ceil_zero, ne_ceil_clip, ne_ceil_wrap, ne_near_floor, ne_near_ceil, ne_near_even, ne_near_zero, ne_near_clip, ne_near_wrap, ne_even_floor, ne_even_ceil, ne_even_near, ne_even_zero, ne_even_clip, ne_even_wrap, ne_zero_floor, ne_zero_ceil, ne_zero_near, ne_zero_even, ne_zero_clip, ne_zero_wrap, ne_clip_floor, ne_clip_ceil, ne_clip_near, ne_clip_even, ne_clip_zero, ne_clip_wrap, ne_wrap_floor, ne_wrap_ceil, ne_wrap_near, ne_wrap_even, ne_wrap_zero, ne_wrap_clip, ne_name_low, ne_name_high, ne_name_is_round, ne_name_count, ne_low_name, ne_low_high, ne_low_is_round, ne_low_count, ne_high_name, ne_high_low, ne_high_is_round, ne_high_count, ne_is_round_name, ne_is_round_low, ne_is_round_high, ne_is_round_count, ne_count_name, ne_count_low, ne_count_high, ne_count_is_round, bq_name_low, bq_name_high, bq_name_is_round, bq_name_count, bq_low_name, bq_low_high, bq_low_is_round, bq_low_count, bq_high_name, bq_high_low, bq_high_is_round, bq_high_count, bq_is_round_name, bq_is_round_low, bq_is_round_high, bq_is_round_count, bq_count_name, bq_count_low, bq_count_high, bq_count_is_round, bq_floor_ceil, bq_floor_near, bq_floor_even, bq_floor_zero, bq_floor_clip, bq_floor_wrap, bq_ceil_floor, bq_ceil_near, bq_ceil_even, bq_ceil_zero, bq_ceil_clip, bq_ceil_wrap, bq_near_floor, bq_near_ceil, bq_near_even, bq_near_zero, bq_near_clip, bq_near_wrap, bq_even_floor, bq_even_ceil, bq_even_near, bq_even_zero, bq_even_clip, bq_even_wrap, bq_zero_floor, bq_zero_ceil, bq_zero_near, bq_zero_even, bq_zero_clip, bq_zero_wrap, bq_clip_floor, bq_clip_ceil, bq_clip_near, bq_clip_even, bq_clip_zero, bq_clip_wrap, bq_wrap_floor, bq_wrap_ceil, bq_wrap_near, bq_wrap_even, bq_wrap_zero, bq_wrap_clip, *])
local macro_rules | `(tactic| walk_at "kx") => `(tactic| simp [exSs, exS.eq_1, exS.eq_2, exS.eq_3, exS.eq_4, exS.eq_5, exS.eq_6, exS.eq_7, exS.eq_8, exS.eq_9, exS.eq_10, exS.eq_13, exS.eq_14, exS.eq_15, exS.eq_16, exS.eq_17, exS.eq_18, ev.eq_1, ev.eq_2, ev.eq_3, ev.eq_4, ev.eq_5, ev.eq_6, ev.eq_7, ev.eq_8, ev.eq_9, ev.eq_10, ev.eq_11, ev.eq_12, ev.eq_13, ev.eq_14, ev.eq_15, ev.eq_16, ev.eq_17, ev.eq_18, ev.eq_19, ev.eq_20, ev.eq_21, ev.eq_22, ev.eq_23, ev.eq_24, ev.eq_25, ev.eq_26, ev.eq_27, ev.eq_29, ev.eq_30, ev.eq_31, ev.eq_32, ev.eq_33, ev.eq_34, ev.eq_35, evs, evT, evO, evI, bind_ok, bind_exc, bind_bad, to_ok, to_exc, to_bad, of_so, of_no, nx_ok, dat_v, dat_own, dat_sl, sdat_v, sdat_own, sdat_bor, sdat_lk, sdat_ro, odat_L, odat_I, frz_v, frz_own, frz_sl, frzs_nil, frzs_cons, toS_v, toS_own, toS_sl, snx_so, snx_no, isi_non_int, isi_non_bool, isi_non_str, isi_non_list, isi_non_tuple, isi_non_cl, isi_bl_int, isi_bl_bool, isi_bl_str, isi_bl_list, isi_bl_tuple, isi_bl_cl, isi_int_int, isi_int_bool, isi_int_str, isi_int_list, isi_int_tuple, isi_int_cl, isi_str_int, isi_str_bool, isi_str_str, isi_str_list, isi_str_tuple, isi_str_cl, isi_tup_int, isi_tup_bool, isi_tup_str, isi_tup_list, isi_tup_tuple, isi_tup_cl, isi_lst_int, isi_lst_bool, isi_lst_str, isi_lst_list, isi_lst_tuple, isi_lst_cl, isi_scr_int, isi_scr_bool, isi_scr_str, isi_scr_list, isi_scr_tuple, isi_scr_cl, isi_ins_int, isi_ins_bool, isi_ins_str, isi_ins_list, isi_ins_tuple, isi_ins_cl, fin, outs, cmpR, cmpD, eqD, biD, lenD, lim, binD, augD, negD, truD, ixD, mutD, put_pok, pok_no, pok_v, pok_own, pok_ro, pok_fsl, isLs, at_hot, at_cst, at_prop, at_meth, at_ccon, at_eqm, at_dct, at_sub, at_cl, at_gl, at_bl, at_flds, at_exc, at_kws, at_xcl, at_lf, hotB, asgT, callR, lends, lend, ndN, slOf, borN, back, argsE, setK, kindS, lose, lks, lock, lock1, unlock, unlock1, itemsD, inD_tup, inD_iL, flatD, eqF, rngI_iL, rgR_t, rgR_f, mkC, dropX, List.filterMap_cons, List.filterMap_nil, atI_0, atI_1, atI_2, atI_3, atI_4, iL_nil, iL_len, intsD_iL, plainAt, wipeE, restE, List.lookup_cons, List.lookup_nil, ne_floor_ceil, ne_floor_near, ne_floor_even, ne_floor_zero, ne_floor_clip, ne_floor_wrap, ne_ceil_floor, ne_ceil_near, ne_ceil_even, ne_ceil_zero, ne_ceil_clip, ne_ceil_wrap, ne_near_floor, ne_near_ceil, ne_near_even, ne_near_zero, ne_near_clip, ne_near_wrap, ne_even_floor, ne_even_ceil, ne_even_near, ne_even_zero, ne_even_clip, ne_even_wrap, ne_zero_floor, ne_zero_ceil, ne_zero_near, ne_zero_even, ne_zero_clip, ne_zero_wrap, ne_clip_floor, ne_clip_ceil, ne_clip_near, ne_clip_even, ne_clip_zero, ne_clip_wrap, ne_wrap_floor, ne_wrap_ceil, ne_wrap_near, ne_wrap_even, ne_wrap_zero, ne_wrap_clip, ne_name_low, ne_name_high, ne_name_is_round, ne_name_count, ne_low_name, ne_low_high, ne_low_is_round, ne_low_count, ne_high_name, ne_high_low, ne_high_is_round, ne_high_count, ne_is_round_name, ne_is_round_low, ne_is_round_high, ne_is_round_count, ne_count_name, ne_count_low, ne_count_high, ne_count_is_round, bq_name_low, bq_name_high, bq_name_is_round, bq_name_count, bq_low_name, bq_low_high, bq_low_is_round, bq_low_count, bq_high_name, bq_high_low, bq_high_is_round, bq_high_count, bq_is_round_name, bq_is_round_low, bq_is_round_high, bq_is_round_count, bq_count_name, bq_count_low, bq_count_high, bq_count_is_round, bq_floor_ceil, bq_floor_near, bq_floor_even, bq_floor_zero, bq_floor_clip, bq_floor_wrap, bq_ceil_floor, bq_ceil_near, bq_ceil_even, bq_ceil_zero, bq_ceil_clip, bq_ceil_wrap, bq_near_floor, bq_near_ceil, bq_near_even, bq_near_zero, bq_near_clip, bq_near_wrap, bq_even_floor, bq_even_ceil, bq_even_near, bq_even_zero, bq_even_clip, bq_even_wrap, bq_zero_floor, bq_zero_ceil, bq_zero_near, bq_zero_even, bq_zero_clip, bq_zero_wrap, bq_clip_floor, bq_clip_ceil, bq_clip_near, bq_clip_even, bq_clip_zero, bq_clip_wrap, bq_wrap_floor, bq_wrap_ceil, bq_wrap_near, bq_wrap_even, bq_wrap_zero, bq_wrap_clip, *])
/-- the plain rounding of a part -/
def md (k : Kd) (d t : Int) : Int := match k with
  | .fl => t / d
  | .ce => -((-t) / d)
  | .ze => if 0 < t then t / d else -((-t) / d)
  | .ne => (2 * t + d) / (2 * d)
  | .ev => if 2 * d * ((2 * t + d) / (2 * d)) = 2 * t + d then (2 * t + d) / (2 * d) - (2 * t + d) / (2 * d) % 2 else (2 * t + d) / (2 * d)
  | .cl lo hi => if (if t < hi then t else hi) > lo then (if t < hi then t else hi) else lo
  | .wr lo hi => lo + (t - lo) % (hi - lo + 1)
theorem made_ok (n : Nat) (k : Kd) (d t : Int) (h0 : 0 < d) (h1 : d ≤ 12) (hk : SK k) : callF T.G T.fn (n+1) false "_law_made" [.v (pD k), .v (.int t), .v (.int d)] = .ok (.v (.int (md k d t))) [] := by
  have hh := hotG
  obtain ⟨g1, g2, g3, g4⟩ := hk
  have d1 : divB d = true := divB_of h0 (by omega)
  have d2 : divB (2 * d) = true := divB_of (by omega) (by omega)
  have m1 : ∀ x, mulB 2 x = true := fun x => mulB_l (by decide) (by decide)
  have m2 : ∀ x, mulB (2 * d) x = true := fun x => mulB_l (by omega) (by omega)
  rw [callF, fn__law_made]
  simp only [f__law_made, pD]
  cases k with
  | fl => simp only [Kd.nm, Kd.lo, Kd.hi, md]; walk_at "ky"
  | ce => simp only [Kd.nm, Kd.lo, Kd.hi, md]; walk_at "ky"
  | ne => simp only [Kd.nm, Kd.lo, Kd.hi, md]; walk_at "ky"
  | ev =>
    simp only [Kd.nm, Kd.lo, Kd.hi, md]
    by_cases a : 2 * d * ((2 * t + d) / (2 * d)) = 2 * t + d
    · walk_at "ky"
    · walk_at "ky"
  | ze =>
    simp only [Kd.nm, Kd.lo, Kd.hi, md]
    by_cases a : 0 < t
    · walk_at "ky"
    · walk_at "ky"
  | cl lo hi =>
    simp only [Kd.nm, Kd.lo, Kd.hi, md]
    walk_at "ky"
  | wr lo hi =>
    simp only [Kd.nm, Kd.lo, Kd.hi, md] at g1 g2 g3 g4 ⊢
    have p : 0 < hi - lo + 1 := by omega
    walk_at "ky"
end L24
end
section
set_option Elab.async false
set_option linter.all false
set_option maxRecDepth 100000
set_option maxHeartbeats 0
namespace L24
open PySem PySem.Spec PyProof.Rows L2 Ky
theorem twelve {d : Int} (h0 : 0 < d) (h1 : d ≤ 12) : d = 1 ∨ d = 2 ∨ d = 3 ∨ d = 4 ∨ d = 5 ∨ d = 6 ∨ d = 7 ∨ d = 8 ∨ d = 9 ∨ d = 10 ∨ d = 11 ∨ d = 12 := by omega
theorem nineteen {m : Int} (h0 : 0 < m) (h1 : m ≤ 19) : m = 1 ∨ m = 2 ∨ m = 3 ∨ m = 4 ∨ m = 5 ∨ m = 6 ∨ m = 7 ∨ m = 8 ∨ m = 9 ∨ m = 10 ∨ m = 11 ∨ m = 12 ∨ m = 13 ∨ m = 14 ∨ m = 15 ∨ m = 16 ∨ m = 17 ∨ m = 18 ∨ m = 19 := by omega
theorem around_mem {d t x : Int} : x ∈ around d t ↔ x = t / d ∨ (t % d ≠ 0 ∧ x = t / d + 1) := by
  unfold around
  split
  · rename_i h; simp [h]
  · rename_i h; simp [h]
theorem fl_mem {d t x : Int} (h0 : 0 < d) (h1 : d ≤ 12) : (∃ s, 0 ≤ s ∧ s < 2 * d ∧ x = (s + t) / d - s / d) ↔ x ∈ around d t := by
  rw [around_mem]
  rcases twelve h0 h1 with h | h | h | h | h | h | h | h | h | h | h | h <;> (
    constructor
    · rintro ⟨s, a, b, rfl⟩
      subst h
      omega
    · rintro (e | ⟨z, e⟩)
      · exact ⟨0, by omega, by omega, by subst h; omega⟩
      · exact ⟨d - t % d, by subst h; omega, by subst h; omega, by subst h; omega⟩)
theorem ce_mem {d t x : Int} (h0 : 0 < d) (h1 : d ≤ 12) : (∃ s, 0 ≤ s ∧ s < 2 * d ∧ x = -((-(s + t)) / d) - -((-s) / d)) ↔ x ∈ around d t := by
  rw [around_mem]
  rcases twelve h0 h1 with h | h | h | h | h | h | h | h | h | h | h | h <;> (
    constructor
    · rintro ⟨s, a, b, rfl⟩
      subst h
      omega
    · rintro (e | ⟨z, e⟩)
      · by_cases y : t % d = 0
        · exact ⟨0, by omega, by omega, by subst h; omega⟩
        · exact ⟨d - t % d, by subst h; omega, by subst h; omega, by subst h; omega⟩
      · exact ⟨0, by omega, by omega, by subst h; omega⟩)
theorem ne_mem {d t x : Int} (h0 : 0 < d) (h1 : d ≤ 12) : (∃ s, 0 ≤ s ∧ s < 2 * d ∧ x = (2 * (s + t) + d) / (2 * d) - (2 * s + d) / (2 * d)) ↔ x ∈ around d t := by
  rw [around_mem]
  rcases twelve h0 h1 with h | h | h | h | h | h | h | h | h | h | h | h <;> (
    constructor
    · rintro ⟨s, a, b, rfl⟩
      subst h
      omega
    · rintro (e | ⟨z, e⟩)
      · exact ⟨d - d / 2, by subst h; omega, by subst h; omega, by subst h; omega⟩
      · exact ⟨2 * d - t % d - d / 2, by subst h; omega, by subst h; omega, by subst h; omega⟩)
end L24
end
section
set_option Elab.async false
set_option linter.all false
set_option maxRecDepth 100000
set_option maxHeartbeats 0
namespace L24
open PySem PySem.Spec PyProof.Rows L2 Ky
def evn (d t : Int) : Int := if 2 * d * ((2 * t + d) / (2 * d)) = 2 * t + d then (2 * t + d) / (2 * d) - (2 * t + d) / (2 * d) % 2 else (2 * t + d) / (2 * d)
theorem even_mem {d t x : Int} : x ∈ cset .ev d t ↔ x = t / d ∨ (t % d ≠ 0 ∧ x = t / d + 1) ∨ (t % d = 0 ∧ d % 2 = 0 ∧ t / d % 2 = 1 ∧ (x = t / d - 1 ∨ x = t / d + 1)) := by
  simp only [cset]
  split
  · rename_i h; simp [h]; omega
  · rename_i h
    rw [around_mem]
    constructor
    · rintro (e | ⟨z, e⟩)
      · exact .inl e
      · exact .inr (.inl ⟨z, e⟩)
    · rintro (e | ⟨z, e⟩ | ⟨z1, z2, z3, _⟩)
      · exact .inl e
      · exact .inr ⟨z, e⟩
      · exact absurd ⟨z1, z2, z3⟩ h
theorem ev_mem {d t x : Int} (h0 : 0 < d) (h1 : d ≤ 12) : (∃ s, 0 ≤ s ∧ s < 2 * d ∧ x = evn d (s + t) - evn d s) ↔ x ∈ cset .ev d t := by
  rw [even_mem]
  unfold evn
  rcases twelve h0 h1 with h | h | h | h | h | h | h | h | h | h | h | h <;> (
    constructor
    · rintro ⟨s, a, b, e⟩
      subst h
      revert e
      split <;> split <;> (intro e; omega)
    · rintro (e | ⟨z, e⟩ | ⟨z1, z2, z3, e | e⟩)
      · by_cases y : d % 2 = 0 ∧ t % d ≠ 0
        · exact ⟨3 * (d / 2), by subst h; omega, by subst h; omega, by subst h; split <;> split <;> omega⟩
        · by_cases y2 : d % 2 = 0
          · exact ⟨0, by omega, by omega, by subst h; split <;> split <;> omega⟩
          · exact ⟨d - d / 2, by subst h; omega, by subst h; omega, by subst h; split <;> split <;> omega⟩
      · by_cases y : d % 2 = 0
        · exact ⟨d / 2, by subst h; omega, by subst h; omega, by subst h; split <;> split <;> omega⟩
        · exact ⟨2 * d - t % d - d / 2, by subst h; omega, by subst h; omega, by subst h; split <;> split <;> omega⟩
      · exact ⟨3 * (d / 2), by subst h; omega, by subst h; omega, by subst h; split <;> split <;> omega⟩
      · exact ⟨d / 2, by subst h; omega, by subst h; omega, by subst h; split <;> split <;> omega⟩)
end L24
end
section
set_option Elab.async false
set_option linter.all false
set_option maxRecDepth 100000
set_option maxHeartbeats 0
namespace L24
open PySem PySem.Spec PyProof.Rows L2 Ky
def zer (d t : Int) : Int := if 0 < t then t / d else -((-t) / d)
theorem zer_neg {d t : Int} : zer d (-t) = -zer d t := by
  unfold zer
  by_cases a : 0 < t
  · rw [if_neg (by omega), if_pos a, Int.neg_neg]
  · by_cases b : t = 0
    · subst b; simp
    · rw [if_pos (by omega), if_neg a, Int.neg_neg]
theorem zs_mem {d t x : Int} : x ∈ zs d t ↔ (if 1 ≤ t / d ∧ t % d ≤ d - 2 then t / d - 1 else t / d) ≤ x ∧ x < (if t % d = 0 then t / d else t / d + 1) + 1 := rngL_mem
theorem zp_mem {d t x A : Int} (h0 : 0 < d) (h1 : d ≤ 12) (ht : 0 ≤ t) (hA : A = t + 2 * d) : (∃ s, -A ≤ s ∧ s < A + 1 ∧ x = zer d (s + t) - zer d s) ↔ x ∈ zs d t := by
  rw [zs_mem]
  unfold zer
  rcases twelve h0 h1 with h | h | h | h | h | h | h | h | h | h | h | h <;> (
    constructor
    · rintro ⟨s, a, b, e⟩
      subst h
      revert e
      split <;> split <;> intro e <;> split <;> split <;> omega
    · rintro ⟨e1, e2⟩
      by_cases y : x = t / d
      · exact ⟨0, by omega, by omega, by subst h; split <;> omega⟩
      · by_cases y2 : x = t / d + 1
        · exact ⟨d - t % d, by subst h; omega, by subst h; omega, by subst h; revert e1 e2; split <;> split <;> intro e1 e2 <;> split <;> split <;> omega⟩
        · exact ⟨-(t % d + 1), by subst h; omega, by subst h; omega, by subst h; revert e1 e2; split <;> split <;> intro e1 e2 <;> split <;> split <;> omega⟩)
theorem mir_mem {x : Int} {l : List Int} : x ∈ mir l ↔ -x ∈ l := by
  unfold mir
  rw [List.mem_map]
  constructor
  · rintro ⟨a, h, rfl⟩
    rw [Int.neg_neg]
    exact List.mem_reverse.mp h
  · intro h
    exact ⟨-x, List.mem_reverse.mpr h, Int.neg_neg x⟩
theorem ze_mem {d t x A : Int} (h0 : 0 < d) (h1 : d ≤ 12) (hA : A = (if t < 0 then -t else t) + 2 * d) : (∃ s, -A ≤ s ∧ s < A + 1 ∧ x = zer d (s + t) - zer d s) ↔ x ∈ cset .ze d t := by
  simp only [cset]
  by_cases a : t < 0
  · rw [if_pos a] at hA ⊢
    rw [mir_mem, ← zp_mem h0 h1 (by omega) hA]
    constructor
    · rintro ⟨s, g1, g2, e⟩
      refine ⟨-s, by omega, by omega, ?_⟩
      rw [← Int.neg_add, zer_neg, zer_neg]
      omega
    · rintro ⟨s, g1, g2, e⟩
      refine ⟨-s, by omega, by omega, ?_⟩
      have := @zer_neg d (s + -t)
      have q : -(s + -t) = -s + t := by omega
      rw [q] at this
      rw [this, zer_neg]
      omega
  · rw [if_neg a] at hA ⊢
    exact zp_mem h0 h1 (by omega) hA
def clp (lo hi t : Int) : Int := if (if t < hi then t else hi) > lo then (if t < hi then t else hi) else lo
theorem clp_of {lo hi t : Int} (h : lo ≤ hi) : (t ≤ lo ∧ clp lo hi t = lo) ∨ (lo < t ∧ t < hi ∧ clp lo hi t = t) ∨ (hi ≤ t ∧ clp lo hi t = hi) := by
  unfold clp
  split <;> split <;> omega
theorem cl_mem {lo hi d t x A : Int} (h : lo ≤ 0) (h2 : 0 ≤ hi) (hA : A = if t < 0 then -t else t) : (∃ s, lo - A - 1 ≤ s ∧ s < hi + A + 2 ∧ x = clp lo hi (s + t) - clp lo hi s) ↔ x ∈ cset (.cl lo hi) d t := by
  simp only [cset]
  have hh : lo ≤ hi := by omega
  by_cases a : t < 0
  · rw [if_pos a] at hA ⊢
    rw [rngL_mem]
    constructor
    · rintro ⟨s, g1, g2, e⟩
      have c1 := @clp_of lo hi (s + t) hh
      have c2 := @clp_of lo hi s hh
      split <;> omega
    · rintro ⟨g1, g2⟩
      refine ⟨hi + x - t, ?_, ?_, ?_⟩
      · revert g1; split <;> intro g1 <;> omega
      · revert g1; split <;> intro g1 <;> omega
      · have c1 := @clp_of lo hi (hi + x - t + t) hh
        have c2 := @clp_of lo hi (hi + x - t) hh
        revert g1; split <;> intro g1 <;> omega
  · rw [if_neg a] at hA ⊢
    rw [rngL_mem]
    constructor
    · rintro ⟨s, g1, g2, e⟩
      have c1 := @clp_of lo hi (s + t) hh
      have c2 := @clp_of lo hi s hh
      split <;> omega
    · rintro ⟨g1, g2⟩
      refine ⟨lo + x - t, ?_, ?_, ?_⟩
      · revert g2; split <;> intro g2 <;> omega
      · revert g2; split <;> intro g2 <;> omega
      · have c1 := @clp_of lo hi (lo + x - t + t) hh
        have c2 := @clp_of lo hi (lo + x - t) hh
        revert g2; split <;> intro g2 <;> omega
theorem wm_mem {lo m t x : Int} (h0 : 0 < m) (h1 : m ≤ 19) : (∃ s, 0 ≤ s ∧ s < m ∧ x = (lo + (s + t - lo) % m) - (lo + (s - lo) % m)) ↔ x ∈ (if t % m = 0 then [0] else [t % m - m, t % m]) := by
  have q : x ∈ (if t % m = 0 then [0] else [t % m - m, t % m]) ↔ (t % m = 0 ∧ x = 0) ∨ (t % m ≠ 0 ∧ (x = t % m - m ∨ x = t % m)) := by
    split <;> rename_i z <;> simp [z]
  rw [q]
  rcases nineteen h0 h1 with h | h | h | h | h | h | h | h | h | h | h | h | h | h | h | h | h | h | h <;> (
    constructor
    · rintro ⟨s, a, b, rfl⟩
      subst h
      omega
    · rintro (⟨z, e⟩ | ⟨z, e | e⟩)
      · exact ⟨0, by omega, by omega, by subst h; omega⟩
      · exact ⟨(m - t % m + lo) % m, by subst h; omega, by subst h; omega, by subst h; omega⟩
      · exact ⟨lo % m, by subst h; omega, by subst h; omega, by subst h; omega⟩)
theorem wr_mem {lo hi d t x : Int} (h0 : 0 < hi - lo + 1) (h1 : hi - lo + 1 ≤ 19) : (∃ s, 0 ≤ s ∧ s < hi - lo + 1 ∧ x = md (.wr lo hi) d (s + t) - md (.wr lo hi) d s) ↔ x ∈ cset (.wr lo hi) d t := by
  simp only [cset, md]
  exact wm_mem h0 h1
end L24
end
section
set_option Elab.async false
set_option linter.all false
set_option maxRecDepth 100000
set_option maxHeartbeats 4000000
namespace L24
open PySem PySem.Spec PyProof.Rows L2 Ky
local macro_rules | `(tactic| walk_at "ky") => `(tactic| simp [exSs, exS, ev, evs, evT, evO, evI, bind_ok, bind_exc, bind_bad, to_ok, to_exc, to_bad, of_so, of_no, nx_ok, dat_v, dat_own, dat_sl, sdat_v, sdat_own, sdat_bor, sdat_lk, sdat_ro, odat_L, odat_I, frz_v, frz_own, frz_sl, frzs_nil, frzs_cons, toS_v, toS_own, toS_sl, snx_so, snx_no, isi_non_int, isi_non_bool, isi_non_str, isi_non_list, isi_non_tuple, isi_non_cl, isi_bl_int, isi_bl_bool, isi_bl_str, isi_bl_list, isi_bl_tuple, isi_bl_cl, isi_int_int, isi_int_bool, isi_int_str, isi_int_list, isi_int_tuple, isi_int_cl, isi_str_int, isi_str_bool, isi_str_str, isi_str_list, isi_str_tuple, isi_str_cl, isi_tup_int, isi_tup_bool, isi_tup_str, isi_tup_list, isi_tup_tuple, isi_tup_cl, isi_lst_int, isi_lst_bool, isi_lst_str, isi_lst_list, isi_lst_tuple, isi_lst_cl, isi_scr_int, isi_scr_bool, isi_scr_str, isi_scr_list, isi_scr_tuple, isi_scr_cl, isi_ins_int, isi_ins_bool, isi_ins_str, isi_ins_list, isi_ins_tuple, isi_ins_cl, fin, outs, cmpR, cmpD, eqD, biD, lenD, lim, binD, augD, negD, truD, ixD, mutD, put_pok, pok_no, pok_v, pok_own, pok_ro, pok_fsl, isLs, at_hot, at_cst, at_prop, at_meth, at_ccon, at_eqm, at_dct, at_sub, at_cl, at_gl, at_bl, at_flds, at_exc, at_kws, at_xcl, at_lf, hotB, asgT, callR, lends, lend, ndN, slOf, borN, back, argsE, setK, kindS, lose, lks, lock, lock1, unlock, unlock1, itemsD, loopF_nil, loopF_cons, inD_tup, inD_iL, flatD, eqF, rngI_iL, rgR_t, rgR_f, mkC, dropX, List.filterMap_cons, List.filterMap_nil, atI_0, atI_1, atI_2, atI_3, atI_4, iL_nil, iL_len, intsD_iL, List.lookup_cons, List.lookup_nil, ne_floor_ceil, ne_floor_near, ne_floor_even, ne_floor_zero, ne_floor_clip, ne_floor_wrap, ne_ceil_floor, ne_ceil_near, ne_ceil_even, ne_ceil_zero, ne_ceil_clip, ne_ceil_wrap, ne_near_floor, ne_near_ceil, ne_near_even, ne_near_zero, ne_near_clip, ne_near_wrap, ne_even_floor, ne_even_ceil, ne_even_near, ne_even_zero, ne_even_clip, ne_even_wrap, ne_zero_floor, ne_zero_ceil, ne_zero_near, ne_zero_even, ne_zero_clip, ne_zero_wrap, ne_clip_floor, ne_clip_ceil, ne_clip_near, ne_clip_even, ne_clip_zero, ne_clip_wrap, ne_wrap_floor, ne_wrap_ceil, ne_wrap_near, ne_wrap_even, ne_wrap_zero, ne_wrap_clip, ne_name_low, ne_name_high, ne_name_is_round, ne_name_count, ne_low_name, ne_low_high, ne_low_is_round, ne_low_count, ne_high_name, ne_high_low, ne_high_is_round, ne_high_count, ne_is_round_name, ne_is_round_low, ne_is_round_high, ne_is_round_count, ne_count_name, ne_count_low, ne_count_high, ne_count_is_round, bq_name_low, bq_name_high, bq_name_is_round, bq_name_count, bq_low_name, bq_low_high, bq_low_is_round, bq_low_count, bq_high_name, bq_high_low, bq_high_is_round, bq_high_count, bq_is_round_name, bq_is_round_low, bq_is_round_high, bq_is_round_count, bq_count_name, bq_count_low, bq_count_high, bq_count_is_round, bq_floor_ceil, bq_floor_near, bq_floor_even, bq_floor_zero, bq_floor_clip, bq_floor_wrap, bq_ceil_floor, bq_ceil_near, bq_ceil_even, bq_ceil_zero, bq_ceil_clip, bq_ceil_wrap, bq_near_floor, bq_near_ceil, bq_near_even, bq_near_zero, bq_near_clip, bq_near_wrap, bq_even_floor, bq_even_ceil, bq_even_near, bq_even_zero, bq_even_clip, bq_even_wrap, bq_zero_floor, bq_zero_ceil, bq_zero_near, bq_zero_even, bq_zero_clip, bq_zero_wrap, bq_clip_floor, bq_clip_ceil, bq_clip_near, bq_clip_even, bq_clip_zero, bq_clip_wrap, bq_wrap_floor, bq_wrap_ceil, bq_wrap_near, bq_wrap_even, bq_wrap_zero, bq_wrap_clip, *])
local macro_rules | `(tactic| walk_at "kx") => `(tactic| simp [exSs, exS.eq_1, exS.eq_2, exS.eq_3, exS.eq_4, exS.eq_5, exS.eq_6, exS.eq_7, exS.eq_8, exS.eq_9, exS.eq_10, exS.eq_13, exS.eq_14, exS.eq_15, exS.eq_16, exS.eq_17, exS.eq_18, ev.eq_1, ev.eq_2, ev.eq_3, ev.eq_4, ev.eq_5, ev.eq_6, ev.eq_7, ev.eq_8, ev.eq_9, ev.eq_10, ev.eq_11, ev.eq_12, ev.eq_13, ev.eq_14, ev.eq_15, ev.eq_16, ev.eq_17, ev.eq_18, ev.eq_19, ev.eq_20, ev.eq_21, ev.eq_22, ev.eq_23, ev.eq_24, ev.eq_25, ev.eq_26, ev.eq_27, ev.eq_29, ev.eq_30, ev.eq_31, ev.eq_32, ev.eq_33, ev.eq_34, ev.eq_35, evs, evT, evO, evI, bind_ok, bind_exc, bind_bad, to_ok, to_exc, to_bad, of_so, of_no, nx_ok, dat_v, dat_own, dat_sl, sdat_v, sdat_own, sdat_bor, sdat_lk, sdat_ro, odat_L, odat_I, frz_v, frz_own, frz_sl, frzs_nil, frzs_cons, toS_v, toS_own, toS_sl, snx_so, snx_no, isi_non_int, isi_non_bool, isi_non_str, isi_non_list, isi_non_tuple, isi_non_cl, isi_bl_int, isi_bl_bool, isi_bl_str, isi_bl_list, isi_bl_tuple, isi_bl_cl, isi_int_int, isi_int_bool, isi_int_str, isi_int_list, isi_int_tuple, isi_int_cl, isi_str_int, isi_str_bool, isi_str_str, isi_str_list, isi_str_tuple, isi_str_cl, isi_tup_int, isi_tup_bool, isi_tup_str, isi_tup_list, isi_tup_tuple, isi_tup_cl, isi_lst_int, isi_lst_bool, isi_lst_str, isi_lst_list, isi_lst_tuple, isi_lst_cl, isi_scr_int, isi_scr_bool, isi_scr_str, isi_scr_list, isi_scr_tuple, isi_scr_cl, isi_ins_int, isi_ins_bool, isi_ins_str, isi_ins_list, isi_ins_tuple, isi_ins_cl, fin, outs, cmpR, cmpD, eqD, biD, lenD, lim, binD, augD, negD, truD, ixD, mutD, put_pok, pok_no, pok_v, pok_own, pok_ro, pok_fsl, isLs, at_hot, at_cst, at_prop, at_meth, at_ccon, at_eqm, at_dct, at_sub, at_cl, at_gl, at_bl, at_flds, at_exc, at_kws, at_xcl, at_lf, hotB, asgT, callR, lends, lend, ndN, slOf, borN, back, argsE, setK, kindS, lose, lks, lock, lock1, unlock, unlock1, itemsD, inD_tup, inD_iL, flatD, eqF, rngI_iL, rgR_t, rgR_f, mkC, dropX, List.filterMap_cons, List.filterMap_nil, atI_0, atI_1, atI_2, atI_3, atI_4, iL_nil, iL_len, intsD_iL, plainAt, wipeE, restE, List.lookup_cons, List.lookup_nil, ne_floor_ceil, ne_floor_near, ne_floor_even, ne_floor_zero, ne_floor_clip, ne_floor_wrap, ne_ceil_floor, ne_ceil_near, ne_ceil_even, ne_ceil_zero, ne_ceil_clip, ne_ceil_wrap, ne_near_floor, ne_near_ceil, ne_near_even, ne_near_zero, ne_near_clip, ne_near_wrap, ne_even_floor, ne_even_ceil, ne_even_near, ne_even_zero, ne_even_clip, ne_even_wrap, ne_zero_floor, ne_zero_ceil, ne_zero_near, ne_zero_even, ne_zero_clip, ne_zero_wrap, ne_clip_floor, ne_clip_ceil, ne_clip_near, ne_clip_even, ne_clip_zero, ne_clip_wrap, ne_wrap_floor, ne_wrap_ceil, ne_wrap_near, ne_wrap_even, ne_wrap_zero, ne_wrap_clip, ne_name_low, ne_name_high, ne_name_is_round, ne_name_count, ne_low_name, ne_low_high, ne_low_is_round, ne_low_count, ne_high_name, ne_high_low, ne_high_is_round, ne_high_count, ne_is_round_name, ne_is_round_low, ne_is_round_high, ne_is_round_count, ne_count_name, ne_count_low, ne_count_high, ne_count_is_round, bq_name_low, bq_name_high, bq_name_is_round, bq_name_count, bq_low_name, bq_low_high, bq_low_is_round, bq_low_count, bq_high_name, bq_high_low, bq_high_is_round, bq_high_count, bq_is_round_name, bq_is_round_low, bq_is_round_high, bq_is_round_count, bq_count_name, bq_count_low, bq_count_high, bq_count_is_round, bq_floor_ceil, bq_floor_near, bq_floor_even, bq_floor_zero, bq_floor_clip, bq_floor_wrap, bq_ceil_floor, bq_ceil_near, bq_ceil_even, bq_ceil_zero, bq_ceil_clip, bq_ceil_wrap, bq_near_floor, bq_near_ceil, bq_near_even, bq_near_zero, bq_near_clip, bq_near_wrap, bq_even_floor, bq_even_ceil, bq_even_near, bq_even_zero, bq_even_clip, bq_even_wrap, bq_zero_floor, bq_zero_ceil, bq_zero_near, bq_zero_even, bq_zero_clip, bq_zero_wrap, bq_clip_floor, bq_clip_ceil, bq_clip_near, bq_clip_even, bq_clip_zero, bq_clip_wrap, bq_wrap_floor, bq_wrap_ceil, bq_wrap_near, bq_wrap_even, bq_wrap_zero, bq_wrap_clip, *])
def ab (t : Int) : Int := if t < 0 then -t else t
def slo (k : Kd) (d t : Int) : Int := match k with
  | .ze => -(ab t) - 2 * d
  | .cl lo _ => lo - ab t - 1
  | _ => 0
def shi (k : Kd) (d t : Int) : Int := match k with
  | .ze => ab t + 2 * d + 1
  | .cl _ hi => hi + ab t + 2
  | .wr lo hi => hi - lo + 1
  | _ => 2 * d
theorem sh_mem {k : Kd} {d t x : Int} (h0 : 0 < d) (h1 : d ≤ 12) (hk : SK k) : (∃ s, slo k d t ≤ s ∧ s < shi k d t ∧ x = md k d (s + t) - md k d s) ↔ x ∈ cset k d t := by
  obtain ⟨g1, g2, g3, g4⟩ := hk
  cases k with
  | fl => exact fl_mem h0 h1
  | ce => exact ce_mem h0 h1
  | ne => exact ne_mem h0 h1
  | ev => exact ev_mem h0 h1
  | ze =>
    refine Iff.trans ?_ (ze_mem (A := ab t + 2 * d) h0 h1 rfl)
    have e : slo .ze d t = -(ab t + 2 * d) := by show -(ab t) - 2 * d = _; omega
    rw [e]
    rfl
  | cl lo hi => exact cl_mem g2 g3 rfl
  | wr lo hi => 
    simp only [Kd.lo, Kd.hi] at g1 g2 g3 g4
    exact wr_mem (by omega) (by omega)
theorem zs_asc {d t : Int} : (zs d t).Pairwise (· < ·) := rngL_asc _ _
theorem around_asc {d t : Int} : (around d t).Pairwise (· < ·) := by
  unfold around
  split
  · simp
  · simp; omega
theorem cset_asc {k : Kd} {d t : Int} (hk : k.lo ≤ 0 ∧ 0 ≤ k.hi) : (cset k d t).Pairwise (· < ·) := by
  cases k with
  | fl => exact around_asc
  | ce => exact around_asc
  | ne => exact around_asc
  | ev =>
    simp only [cset]
    split
    · simp; omega
    · exact around_asc
  | ze =>
    simp only [cset]
    split
    · unfold mir
      rw [List.pairwise_map, List.pairwise_reverse]
      exact zs_asc.imp fun {a b} h => by omega
    · exact zs_asc
  | cl lo hi =>
    simp only [cset]
    split
    · exact rngL_asc _ _
    · exact rngL_asc _ _
  | wr lo hi =>
    simp only [cset]
    simp only [Kd.lo, Kd.hi] at hk
    split
    · simp
    · simp; omega
def tE (k : Kd) (d t : Int) (f : List Int) (v6 v7 v8 : Option D) : Ky.Env := [some (.v (pD k)), some (.v (.int d)), some (.v (.int t)), some (.v (.int (slo k d t))), some (.v (.int (shi k d t))), some (.own (.L (iL f))), fsl v6, fsl v7, fsl v8, none]
theorem tried_loop (n : Nat) (k : Kd) (d t : Int) (h0 : 0 < d) (h1 : d ≤ 12) (hk : SK k) (ht : -1000 ≤ t ∧ t ≤ 1000) : ∃ e, exS T.G (callF T.G T.fn (n+1)) l1__law_tried false (tE k d t [] none none none) = .next e ∧ ∃ f v6 v7 v8, e = tE k d t f v6 v7 v8 ∧ sortI f = cset k d t ∧ f.length ≤ 16777215 := by
  have hh := hotG
  have hm : ∀ u, callF T.G T.fn (n+1) false "_law_made" [.v (pD k), .v (.int u), .v (.int d)] = .ok (.v (.int (md k d u))) [] := fun u => made_ok n k d u h0 h1 hk
  have hB : -2000 ≤ slo k d t ∧ slo k d t ≤ 2000 ∧ -2000 ≤ shi k d t ∧ shi k d t ≤ 2000 := by
    obtain ⟨g1, g2, g3, g4⟩ := hk
    cases k <;> simp only [slo, shi, ab, Kd.lo, Kd.hi] at g1 g2 g3 g4 ⊢ <;> (try split) <;> omega
  unfold l1__law_tried
  refine for_run (xs := iL (rngL (slo k d t) (shi k d t))) (is := []) (e := tE k d t [] none none none) (fun pre e => ∃ f v6 v7 v8, e = tE k d t f v6 v7 v8 ∧ f.Nodup ∧ f.length ≤ pre.length ∧ ∀ x, x ∈ f ↔ ∃ s, D.int s ∈ pre ∧ x = md k d (s + t) - md k d s) ?_ ⟨[], none, none, none, rfl, by simp, by simp, by simp⟩ ?_ ?_
  · exact evI_r2 (r := .v (.int (slo k d t))) (r2 := .v (.int (shi k d t))) rfl rfl rfl rfl (smallB_of (by omega) (by omega)) (smallB_of (by omega) (by omega))
  · rintro pre x post e hx ⟨f, v6, v7, v8, rfl, f1, f2, f3⟩
    have hl : pre.length < 16777216 := by
      have := congrArg List.length hx
      rw [iL_len, rngL_len, List.length_append, List.length_cons] at this
      omega
    obtain ⟨s, rfl, _⟩ : ∃ i, x = .int i ∧ i ∈ rngL (slo k d t) (shi k d t) := iL_mem (by rw [hx]; simp)
    have hl2 : f.length < 16777216 := by omega
    by_cases hy : md k d (s + t) - md k d s ∈ f
    · refine ⟨tE k d t f (some (.int s)) v7 v8, tE k d t f (some (.int s)) (some (.int (md k d s))) (some (.int (md k d (s + t) - md k d s))), ?_, ?_, f, _, _, _, rfl, f1, by rw [List.length_append]; omega, ?_⟩
      · unfold tE
        walk_at "kx"
        rfl
      · unfold tE
        rw [← fsl_so]
        clear f3 hx
        walk_at "kx"
        simp [fsl]
      · intro x
        rw [f3]
        constructor
        · rintro ⟨u, hu, e⟩
          exact ⟨u, List.mem_append_left _ hu, e⟩
        · rintro ⟨u, hu, e⟩
          rcases List.mem_append.mp hu with hu | hu
          · exact ⟨u, hu, e⟩
          · simp at hu
            subst hu
            rw [← f3, e]
            exact hy
    · refine ⟨tE k d t f (some (.int s)) v7 v8, tE k d t (f ++ [md k d (s + t) - md k d s]) (some (.int s)) (some (.int (md k d s))) (some (.int (md k d (s + t) - md k d s))), ?_, ?_, f ++ [md k d (s + t) - md k d s], _, _, _, rfl, ?_, ?_, ?_⟩
      · unfold tE
        walk_at "kx"
        rfl
      · unfold tE
        rw [← fsl_so]
        clear f3 hx
        walk_at "kx"
        simp [fsl, iL]
      · rw [List.nodup_append]
        refine ⟨f1, by simp, ?_⟩
        intro a ha b hb e
        simp at hb
        subst hb
        subst e
        exact hy ha
      · rw [List.length_append, List.length_append]; simp; omega
      · intro x
        rw [List.mem_append, f3]
        constructor
        · rintro (⟨u, hu, e⟩ | hu)
          · exact ⟨u, List.mem_append_left _ hu, e⟩
          · simp at hu
            exact ⟨s, by simp, hu⟩
        · rintro ⟨u, hu, e⟩
          rcases List.mem_append.mp hu with hu | hu
          · exact .inl ⟨u, hu, e⟩
          · simp at hu
            subst hu
            right
            simp [e]
  · rintro e ⟨f, v6, v7, v8, rfl, f1, f2, f3⟩
    refine ⟨_, rfl, f, v6, v7, v8, rfl, ?_, ?_⟩
    · refine sortI_eq f1 (cset_asc ⟨hk.2.1, hk.2.2.1⟩) fun x => ?_
      rw [f3, ← sh_mem h0 h1 hk]
      constructor
      · rintro ⟨s, hs, e⟩
        obtain ⟨i, hi, hi2⟩ := iL_mem hs
        cases hi
        rw [rngL_mem] at hi2
        exact ⟨s, hi2.1, hi2.2, e⟩
      · rintro ⟨s, a, b, e⟩
        exact ⟨s, List.mem_map.mpr ⟨s, rngL_mem.mpr ⟨a, b⟩, rfl⟩, e⟩
    · rw [iL_len, rngL_len] at f2
      omega
end L24
end
section
set_option Elab.async false
set_option linter.all false
set_option maxRecDepth 100000
set_option maxHeartbeats 4000000
namespace L24
open PySem PySem.Spec PyProof.Rows L2 Ky
local macro_rules | `(tactic| walk_at "ky") => `(tactic| simp [exSs, exS, ev, evs, evT, evO, evI, bind_ok, bind_exc, bind_bad, to_ok, to_exc, to_bad, of_so, of_no, nx_ok, dat_v, dat_own, dat_sl, sdat_v, sdat_own, sdat_bor, sdat_lk, sdat_ro, odat_L, odat_I, frz_v, frz_own, frz_sl, frzs_nil, frzs_cons, toS_v, toS_own, toS_sl, snx_so, snx_no, isi_non_int, isi_non_bool, isi_non_str, isi_non_list, isi_non_tuple, isi_non_cl, isi_bl_int, isi_bl_bool, isi_bl_str, isi_bl_list, isi_bl_tuple, isi_bl_cl, isi_int_int, isi_int_bool, isi_int_str, isi_int_list, isi_int_tuple, isi_int_cl, isi_str_int, isi_str_bool, isi_str_str, isi_str_list, isi_str_tuple, isi_str_cl, isi_tup_int, isi_tup_bool, isi_tup_str, isi_tup_list, isi_tup_tuple, isi_tup_cl, isi_lst_int, isi_lst_bool, isi_lst_str, isi_lst_list, isi_lst_tuple, isi_lst_cl, isi_scr_int, isi_scr_bool, isi_scr_str, isi_scr_list, isi_scr_tuple, isi_scr_cl, isi_ins_int, isi_ins_bool, isi_ins_str, isi_ins_list, isi_ins_tuple, isi_ins_cl, fin, outs, cmpR, cmpD, eqD, biD, lenD, lim, binD, augD, negD, truD, ixD, mutD, put_pok, pok_no, pok_v, pok_own, pok_ro, pok_fsl, isLs, at_hot, at_cst, at_prop, at_meth, at_ccon, at_eqm, at_dct, at_sub, at_cl, at_gl, at_bl, at_flds, at_exc, at_kws, at_xcl, at_lf, hotB, asgT, callR, lends, lend, ndN, slOf, borN, back, argsE, setK, kindS, lose, lks, lock, lock1, unlock, unlock1, itemsD, loopF_nil, loopF_cons, inD_tup, inD_iL, flatD, eqF, rngI_iL, rgR_t, rgR_f, mkC, dropX, List.filterMap_cons, List.filterMap_nil, atI_0, atI_1, atI_2, atI_3, atI_4, iL_nil, iL_len, intsD_iL, List.lookup_cons, List.lookup_nil, ne_floor_ceil, ne_floor_near, ne_floor_even, ne_floor_zero, ne_floor_clip, ne_floor_wrap, ne_ceil_floor, ne_ceil_near, ne_ceil_even, ne_ceil_zero, ne_ceil_clip, ne_ceil_wrap, ne_near_floor, ne_near_ceil, ne_near_even, ne_near_zero, ne_near_clip, ne_near_wrap, ne_even_floor, ne_even_ceil, ne_even_near, ne_even_zero, ne_even_clip, ne_even_wrap, ne_zero_floor, ne_zero_ceil, ne_zero_near, ne_zero_even, ne_zero_clip, ne_zero_wrap, ne_clip_floor, ne_clip_ceil, ne_clip_near, ne_clip_even, ne_clip_zero, ne_clip_wrap, ne_wrap_floor, ne_wrap_ceil, ne_wrap_near, ne_wrap_even, ne_wrap_zero, ne_wrap_clip, ne_name_low, ne_name_high, ne_name_is_round, ne_name_count, ne_low_name, ne_low_high, ne_low_is_round, ne_low_count, ne_high_name, ne_high_low, ne_high_is_round, ne_high_count, ne_is_round_name, ne_is_round_low, ne_is_round_high, ne_is_round_count, ne_count_name, ne_count_low, ne_count_high, ne_count_is_round, bq_name_low, bq_name_high, bq_name_is_round, bq_name_count, bq_low_name, bq_low_high, bq_low_is_round, bq_low_count, bq_high_name, bq_high_low, bq_high_is_round, bq_high_count, bq_is_round_name, bq_is_round_low, bq_is_round_high, bq_is_round_count, bq_count_name, bq_count_low, bq_count_high, bq_count_is_round, bq_floor_ceil, bq_floor_near, bq_floor_even, bq_floor_zero, bq_floor_clip, bq_floor_wrap, bq_ceil_floor, bq_ceil_near, bq_ceil_even, bq_ceil_zero, bq_ceil_clip, bq_ceil_wrap, bq_near_floor, bq_near_ceil, bq_near_even, bq_near_zero, bq_near_clip, bq_near_wrap, bq_even_floor, bq_even_ceil, bq_even_near, bq_even_zero, bq_even_clip, bq_even_wrap, bq_zero_floor, bq_zero_ceil, bq_zero_near, bq_zero_even, bq_zero_clip, bq_zero_wrap, bq_clip_floor, bq_clip_ceil, bq_clip_near, bq_clip_even, bq_clip_zero, bq_clip_wrap, bq_wrap_floor, bq_wrap_ceil, bq_wrap_near, bq_wrap_even, bq_wrap_zero, bq_wrap_clip, *])
local macro_rules | `(tactic| walk_at "kx") => `(tactic| simp [exSs, exS.eq_1, exS.eq_2, exS.eq_3, exS.eq_4, exS.eq_5, exS.eq_6, exS.eq_7, exS.eq_8, exS.eq_9, exS.eq_10, exS.eq_13, exS.eq_14, exS.eq_15, exS.eq_16, exS.eq_17, exS.eq_18, ev.eq_1, ev.eq_2, ev.eq_3, ev.eq_4, ev.eq_5, ev.eq_6, ev.eq_7, ev.eq_8, ev.eq_9, ev.eq_10, ev.eq_11, ev.eq_12, ev.eq_13, ev.eq_14, ev.eq_15, ev.eq_16, ev.eq_17, ev.eq_18, ev.eq_19, ev.eq_20, ev.eq_21, ev.eq_22, ev.eq_23, ev.eq_24, ev.eq_25, ev.eq_26, ev.eq_27, ev.eq_29, ev.eq_30, ev.eq_31, ev.eq_32, ev.eq_33, ev.eq_34, ev.eq_35, evs, evT, evO, evI, bind_ok, bind_exc, bind_bad, to_ok, to_exc, to_bad, of_so, of_no, nx_ok, dat_v, dat_own, dat_sl, sdat_v, sdat_own, sdat_bor, sdat_lk, sdat_ro, odat_L, odat_I, frz_v, frz_own, frz_sl, frzs_nil, frzs_cons, toS_v, toS_own, toS_sl, snx_so, snx_no, isi_non_int, isi_non_bool, isi_non_str, isi_non_list, isi_non_tuple, isi_non_cl, isi_bl_int, isi_bl_bool, isi_bl_str, isi_bl_list, isi_bl_tuple, isi_bl_cl, isi_int_int, isi_int_bool, isi_int_str, isi_int_list, isi_int_tuple, isi_int_cl, isi_str_int, isi_str_bool, isi_str_str, isi_str_list, isi_str_tuple, isi_str_cl, isi_tup_int, isi_tup_bool, isi_tup_str, isi_tup_list, isi_tup_tuple, isi_tup_cl, isi_lst_int, isi_lst_bool, isi_lst_str, isi_lst_list, isi_lst_tuple, isi_lst_cl, isi_scr_int, isi_scr_bool, isi_scr_str, isi_scr_list, isi_scr_tuple, isi_scr_cl, isi_ins_int, isi_ins_bool, isi_ins_str, isi_ins_list, isi_ins_tuple, isi_ins_cl, fin, outs, cmpR, cmpD, eqD, biD, lenD, lim, binD, augD, negD, truD, ixD, mutD, put_pok, pok_no, pok_v, pok_own, pok_ro, pok_fsl, isLs, at_hot, at_cst, at_prop, at_meth, at_ccon, at_eqm, at_dct, at_sub, at_cl, at_gl, at_bl, at_flds, at_exc, at_kws, at_xcl, at_lf, hotB, asgT, callR, lends, lend, ndN, slOf, borN, back, argsE, setK, kindS, lose, lks, lock, lock1, unlock, unlock1, itemsD, inD_tup, inD_iL, flatD, eqF, rngI_iL, rgR_t, rgR_f, mkC, dropX, List.filterMap_cons, List.filterMap_nil, atI_0, atI_1, atI_2, atI_3, atI_4, iL_nil, iL_len, intsD_iL, plainAt, wipeE, restE, List.lookup_cons, List.lookup_nil, ne_floor_ceil, ne_floor_near, ne_floor_even, ne_floor_zero, ne_floor_clip, ne_floor_wrap, ne_ceil_floor, ne_ceil_near, ne_ceil_even, ne_ceil_zero, ne_ceil_clip, ne_ceil_wrap, ne_near_floor, ne_near_ceil, ne_near_even, ne_near_zero, ne_near_clip, ne_near_wrap, ne_even_floor, ne_even_ceil, ne_even_near, ne_even_zero, ne_even_clip, ne_even_wrap, ne_zero_floor, ne_zero_ceil, ne_zero_near, ne_zero_even, ne_zero_clip, ne_zero_wrap, ne_clip_floor, ne_clip_ceil, ne_clip_near, ne_clip_even, ne_clip_zero, ne_clip_wrap, ne_wrap_floor, ne_wrap_ceil, ne_wrap_near, ne_wrap_even, ne_wrap_zero, ne_wrap_clip, ne_name_low, ne_name_high, ne_name_is_round, ne_name_count, ne_low_name, ne_low_high, ne_low_is_round, ne_low_count, ne_high_name, ne_high_low, ne_high_is_round, ne_high_count, ne_is_round_name, ne_is_round_low, ne_is_round_high, ne_is_round_count, ne_count_name, ne_count_low, ne_count_high, ne_count_is_round, bq_name_low, bq_name_high, bq_name_is_round, bq_name_count, bq_low_name, bq_low_high, bq_low_is_round, bq_low_count, bq_high_name, bq_high_low, bq_high_is_round, bq_high_count, bq_is_round_name, bq_is_round_low, bq_is_round_high, bq_is_round_count, bq_count_name, bq_count_low, bq_count_high, bq_count_is_round, bq_floor_ceil, bq_floor_near, bq_floor_even, bq_floor_zero, bq_floor_clip, bq_floor_wrap, bq_ceil_floor, bq_ceil_near, bq_ceil_even, bq_ceil_zero, bq_ceil_clip, bq_ceil_wrap, bq_near_floor, bq_near_ceil, bq_near_even, bq_near_zero, bq_near_clip, bq_near_wrap, bq_even_floor, bq_even_ceil, bq_even_near, bq_even_zero, bq_even_clip, bq_even_wrap, bq_zero_floor, bq_zero_ceil, bq_zero_near, bq_zero_even, bq_zero_clip, bq_zero_wrap, bq_clip_floor, bq_clip_ceil, bq_clip_near, bq_clip_even, bq_clip_zero, bq_clip_wrap, bq_wrap_floor, bq_wrap_ceil, bq_wrap_near, bq_wrap_even, bq_wrap_zero, bq_wrap_clip, *])
theorem tried_ok (n : Nat) (k : Kd) (d t : Int) (h0 : 0 < d) (h1 : d ≤ 12) (hk : SK k) (ht : -1000 ≤ t ∧ t ≤ 1000) : callF T.G T.fn (n+2) false "_law_tried" [.v (pD k), .v (.int d), .v (.int t)] = .ok (.own (.L (iL (cset k d t)))) [] := by
  have hh := hotG
  obtain ⟨e, hf, f, v6, v7, v8, rfl, hs, hl⟩ := tried_loop n k d t h0 h1 hk ht
  have hs2 : (sortI f).map D.int = iL (cset k d t) := by rw [hs]; rfl
  have m1 : ∀ x, mulB 2 x = true := fun x => mulB_l (by decide) (by decide)
  have hc : ev (T.G.at false) (callF T.G T.fn (n+1) false) c1__law_tried (tE k d t f v6 v7 v8) = .ok (.own (.L (iL f))) (tE k d t f v6 v7 v8) := by
    unfold c1__law_tried
    refine (comp_map (xs := iL f) (is := [5]) (e := tE k d t f v6 v7 v8) (e3 := tE k d t f v6 v7 v8) (fun d => d) rfl rfl rfl ?_ ?_ rfl).trans ?_
    · rw [iL_len]; exact Nat.le_trans hl (by decide)
    · intro x m
      obtain ⟨i, rfl, _⟩ := iL_mem m
      exact ⟨(lock [5] (tE k d t f v6 v7 v8)).set 9 (some (.v (.int i))), .v (.int i), rfl, rfl, rfl, rfl⟩
    · rw [List.map_id']; rfl
  refine (callF_run fn__law_tried rfl rfl (E := [some (.v (pD k)), some (.v (.int d)), some (.v (.int t)), none, none, none, none, none, none, none]) (r := .ret (.own (.L (iL (cset k d t)))) (tE k d t f v6 v7 v8)) ?_).trans rfl
  simp only [f__law_tried]
  revert hf hc
  induction l1__law_tried using gen_sx with | h F => ?_
  induction c1__law_tried using gen_ex with | h F2 => ?_
  intro hf hc
  clear hl hs
  unfold tE at *
  simp only [← fsl_no, iL_nil] at hf
  cases k <;> simp only [pD, Kd.nm, Kd.lo, Kd.hi, slo, shi, ab] at hf hc hs2 ⊢ <;> walk_at "kx"
/-- the great question's list, ahead of its sorting -/
def fnd (k : Kd) (d s : Int) : List Int := match k with
  | .ev => if 0 < s - d * (s / d) then [s / d, s / d + 1] else if d % 2 = 0 ∧ s / d % 2 = 1 then [s / d - 1, s / d, s / d + 1] else [s / d]
  | .ze => (if 0 < s - d * (s / d) then [s / d, s / d + 1] else [s / d]) ++ (if 0 < s / d ∧ s - d * (s / d) < d - 1 then [s / d - 1] else [])
  | .cl lo hi => rngL 0 ((if hi - lo < s then hi - lo else s) + 1)
  | .wr lo hi => if 0 < s % (hi - lo + 1) then [s % (hi - lo + 1), s % (hi - lo + 1) - (hi - lo + 1)] else [0]
  | _ => if 0 < s - d * (s / d) then [s / d, s / d + 1] else [s / d]
theorem fnd_nodup {k : Kd} {d s : Int} (hk : k.lo ≤ 0 ∧ 0 ≤ k.hi) : (fnd k d s).Nodup := by
  cases k with
  | cl lo hi => exact (rngL_asc _ _).imp fun h => by omega
  | wr lo hi =>
    simp only [fnd]
    simp only [Kd.lo, Kd.hi] at hk
    split <;> simp <;> omega
  | ev => simp only [fnd]; split <;> (try split) <;> simp <;> omega
  | ze => simp only [fnd]; split <;> split <;> simp <;> omega
  | fl => simp only [fnd]; split <;> simp <;> omega
  | ce => simp only [fnd]; split <;> simp <;> omega
  | ne => simp only [fnd]; split <;> simp <;> omega
theorem fnd_mem {k : Kd} {d s x : Int} (h0 : 0 < d) (hs : 0 ≤ s) (hk : k.lo ≤ 0 ∧ 0 ≤ k.hi) : x ∈ fnd k d s ↔ x ∈ cset k d s := by
  have r0 := Int.emod_nonneg s (show d ≠ 0 by omega)
  have r1 := Int.emod_lt_of_pos s h0
  have hn : ¬ s < 0 := by omega
  have A : x ∈ (if 0 < s % d then [s / d, s / d + 1] else [s / d]) ↔ x ∈ around d s := by
    rw [around_mem]
    split <;> simp <;> omega
  cases k with
  | fl => simp only [fnd, cset]; rw [← Int.emod_def]; exact A
  | ce => simp only [fnd, cset]; rw [← Int.emod_def]; exact A
  | ne => simp only [fnd, cset]; rw [← Int.emod_def]; exact A
  | ev =>
    rw [even_mem]
    simp only [fnd]
    rw [← Int.emod_def]
    split
    · simp; omega
    · split
      · simp; omega
      · simp; omega
  | ze =>
    simp only [fnd, cset]
    rw [← Int.emod_def, if_neg hn, zs_mem]
    have q0 := Int.ediv_nonneg hs (show 0 ≤ d by omega)
    generalize s / d = q at *
    generalize s % d = r at *
    by_cases a : 0 < r <;> by_cases b : 0 < q ∧ r < d - 1 <;> by_cases c : 1 ≤ q ∧ r ≤ d - 2 <;> by_cases e : r = 0 <;> simp [a, b, c, e] <;> omega
  | cl lo hi => simp only [fnd, cset]; rw [if_neg hn]
  | wr lo hi =>
    simp only [fnd, cset]
    simp only [Kd.lo, Kd.hi] at hk
    have w0 := Int.emod_nonneg s (show hi - lo + 1 ≠ 0 by omega)
    generalize s % (hi - lo + 1) = r at *
    split
    · rw [if_neg (by omega)]; simp; omega
    · rw [if_pos (by omega)]
theorem neg_div {d t : Int} (h0 : 0 < d) : (t % d = 0 → (-t) / d = -(t / d) ∧ (-t) % d = 0) ∧ (t % d ≠ 0 → (-t) / d = -(t / d) - 1 ∧ (-t) % d = d - t % d) := by
  have e := Int.mul_ediv_add_emod t d
  have r0 := Int.emod_nonneg t (show d ≠ 0 by omega)
  have r1 := Int.emod_lt_of_pos t h0
  constructor
  · intro z
    refine (Int.ediv_emod_unique h0).mpr ⟨?_, by omega, by omega⟩
    rw [Int.mul_neg]; omega
  · intro z
    refine (Int.ediv_emod_unique h0).mpr ⟨?_, by omega, by omega⟩
    rw [Int.mul_sub, Int.mul_neg]; omega
theorem mem_neg {k : Kd} {d t x : Int} (h0 : 0 < d) (ht : t < 0) (hk : k.lo ≤ 0 ∧ 0 ≤ k.hi) : x ∈ cset k d t ↔ -x ∈ cset k d (-t) := by
  obtain ⟨n1, n2⟩ := @neg_div d t h0
  have r0 := Int.emod_nonneg t (show d ≠ 0 by omega)
  have r1 := Int.emod_lt_of_pos t h0
  have A : x ∈ around d t ↔ -x ∈ around d (-t) := by
    rw [around_mem, around_mem]
    by_cases a : t % d = 0
    · obtain ⟨b, c⟩ := n1 a
      rw [b, c]; omega
    · obtain ⟨b, c⟩ := n2 a
      rw [b, c]; omega
  cases k with
  | fl => exact A
  | ce => exact A
  | ne => exact A
  | ev =>
    rw [even_mem, even_mem]
    by_cases a : t % d = 0
    · obtain ⟨b, c⟩ := n1 a
      rw [b, c]; omega
    · obtain ⟨b, c⟩ := n2 a
      rw [b, c]; omega
  | ze =>
    simp only [cset]
    rw [if_pos ht, if_neg (by omega), mir_mem]
  | cl lo hi =>
    simp only [cset]
    simp only [Kd.lo, Kd.hi] at hk
    rw [if_pos ht, if_neg (c := -t < 0) (by omega), rngL_mem, rngL_mem]
    split <;> split <;> omega
  | wr lo hi =>
    simp only [cset]
    simp only [Kd.lo, Kd.hi] at hk
    obtain ⟨n3, n4⟩ := @neg_div (hi - lo + 1) t (by omega)
    by_cases a : t % (hi - lo + 1) = 0
    · rw [if_pos a, if_pos (n3 a).2]; simp <;> omega
    · have w1 := Int.emod_lt_of_pos t (show 0 < hi - lo + 1 by omega)
      rw [if_neg a, if_neg (by rw [(n4 a).2]; omega), (n4 a).2]; simp <;> omega
theorem set_pos {k : Kd} {d t : Int} (h0 : 0 < d) (ht : ¬ t < 0) (hk : k.lo ≤ 0 ∧ 0 ≤ k.hi) : sortI (fnd k d t) = cset k d t :=
  sortI_eq (fnd_nodup hk) (cset_asc hk) fun x => fnd_mem h0 (by omega) hk
theorem set_neg {k : Kd} {d t : Int} (h0 : 0 < d) (ht : t < 0) (hk : k.lo ≤ 0 ∧ 0 ≤ k.hi) : sortI ((fnd k d (-t)).map (- ·)) = cset k d t := by
  refine sortI_eq ?_ (cset_asc hk) fun x => ?_
  · refine List.Pairwise.map _ (fun a b h => ?_) (fnd_nodup (k := k) (d := d) (s := -t) hk)
    omega
  · rw [mem_neg h0 ht hk, ← fnd_mem h0 (by omega) hk, List.mem_map]
    constructor
    · rintro ⟨a, h, rfl⟩; rw [Int.neg_neg]; exact h
    · intro h; exact ⟨-x, h, Int.neg_neg x⟩
end L24
end
section
set_option Elab.async false
set_option linter.all false
set_option maxRecDepth 100000
set_option maxHeartbeats 4000000
namespace L24
open PySem PySem.Spec PyProof.Rows L2 Ky
local macro_rules | `(tactic| walk_at "ky") => `(tactic| simp [exSs, exS, ev, evs, evT, evO, evI, bind_ok, bind_exc, bind_bad, to_ok, to_exc, to_bad, of_so, of_no, nx_ok, dat_v, dat_own, dat_sl, sdat_v, sdat_own, sdat_bor, sdat_lk, sdat_ro, odat_L, odat_I, frz_v, frz_own, frz_sl, frzs_nil, frzs_cons, toS_v, toS_own, toS_sl, snx_so, snx_no, isi_non_int, isi_non_bool, isi_non_str, isi_non_list, isi_non_tuple, isi_non_cl, isi_bl_int, isi_bl_bool, isi_bl_str, isi_bl_list, isi_bl_tuple, isi_bl_cl, isi_int_int, isi_int_bool, isi_int_str, isi_int_list, isi_int_tuple, isi_int_cl, isi_str_int, isi_str_bool, isi_str_str, isi_str_list, isi_str_tuple, isi_str_cl, isi_tup_int, isi_tup_bool, isi_tup_str, isi_tup_list, isi_tup_tuple, isi_tup_cl, isi_lst_int, isi_lst_bool, isi_lst_str, isi_lst_list, isi_lst_tuple, isi_lst_cl, isi_scr_int, isi_scr_bool, isi_scr_str, isi_scr_list, isi_scr_tuple, isi_scr_cl, isi_ins_int, isi_ins_bool, isi_ins_str, isi_ins_list, isi_ins_tuple, isi_ins_cl, fin, outs, cmpR, cmpD, eqD, biD, lenD, lim, binD, augD, negD, truD, ixD, mutD, put_pok, pok_no, pok_v, pok_own, pok_ro, pok_fsl, isLs, at_hot, at_cst, at_prop, at_meth, at_ccon, at_eqm, at_dct, at_sub, at_cl, at_gl, at_bl, at_flds, at_exc, at_kws, at_xcl, at_lf, hotB, asgT, callR, lends, lend, ndN, slOf, borN, back, argsE, setK, kindS, lose, lks, lock, lock1, unlock, unlock1, itemsD, loopF_nil, loopF_cons, inD_tup, inD_iL, flatD, eqF, rngI_iL, rgR_t, rgR_f, mkC, dropX, List.filterMap_cons, List.filterMap_nil, atI_0, atI_1, atI_2, atI_3, atI_4, iL_nil, iL_len, intsD_iL, List.lookup_cons, List.lookup_nil, ne_floor_ceil, ne_floor_near, ne_floor_even, ne_floor_zero, ne_floor_clip, ne_floor_wrap, ne_ceil_floor, ne_ceil_near, ne_ceil_even, ne_ceil_zero, ne_ceil_clip, ne_ceil_wrap, ne_near_floor, ne_near_ceil, ne_near_even, ne_near_zero, ne_near_clip, ne_near_wrap, ne_even_floor, ne_even_ceil, ne_even_near, ne_even_zero, ne_even_clip, ne_even_wrap, ne_zero_floor, ne_zero_ceil, ne_zero_near, ne_zero_even, ne_zero_clip, ne_zero_wrap, ne_clip_floor, ne_clip_ceil, ne_clip_near, ne_clip_even, ne_clip_zero, ne_clip_wrap, ne_wrap_floor, ne_wrap_ceil, ne_wrap_near, ne_wrap_even, ne_wrap_zero, ne_wrap_clip, ne_name_low, ne_name_high, ne_name_is_round, ne_name_count, ne_low_name, ne_low_high, ne_low_is_round, ne_low_count, ne_high_name, ne_high_low, ne_high_is_round, ne_high_count, ne_is_round_name, ne_is_round_low, ne_is_round_high, ne_is_round_count, ne_count_name, ne_count_low, ne_count_high, ne_count_is_round, bq_name_low, bq_name_high, bq_name_is_round, bq_name_count, bq_low_name, bq_low_high, bq_low_is_round, bq_low_count, bq_high_name, bq_high_low, bq_high_is_round, bq_high_count, bq_is_round_name, bq_is_round_low, bq_is_round_high, bq_is_round_count, bq_count_name, bq_count_low, bq_count_high, bq_count_is_round, bq_floor_ceil, bq_floor_near, bq_floor_even, bq_floor_zero, bq_floor_clip, bq_floor_wrap, bq_ceil_floor, bq_ceil_near, bq_ceil_even, bq_ceil_zero, bq_ceil_clip, bq_ceil_wrap, bq_near_floor, bq_near_ceil, bq_near_even, bq_near_zero, bq_near_clip, bq_near_wrap, bq_even_floor, bq_even_ceil, bq_even_near, bq_even_zero, bq_even_clip, bq_even_wrap, bq_zero_floor, bq_zero_ceil, bq_zero_near, bq_zero_even, bq_zero_clip, bq_zero_wrap, bq_clip_floor, bq_clip_ceil, bq_clip_near, bq_clip_even, bq_clip_zero, bq_clip_wrap, bq_wrap_floor, bq_wrap_ceil, bq_wrap_near, bq_wrap_even, bq_wrap_zero, bq_wrap_clip, *])
local macro_rules | `(tactic| walk_at "kx") => `(tactic| simp [exSs, exS.eq_1, exS.eq_2, exS.eq_3, exS.eq_4, exS.eq_5, exS.eq_6, exS.eq_7, exS.eq_8, exS.eq_9, exS.eq_10, exS.eq_13, exS.eq_14, exS.eq_15, exS.eq_16, exS.eq_17, exS.eq_18, ev.eq_1, ev.eq_2, ev.eq_3, ev.eq_4, ev.eq_5, ev.eq_6, ev.eq_7, ev.eq_8, ev.eq_9, ev.eq_10, ev.eq_11, ev.eq_12, ev.eq_13, ev.eq_14, ev.eq_15, ev.eq_16, ev.eq_17, ev.eq_18, ev.eq_19, ev.eq_20, ev.eq_21, ev.eq_22, ev.eq_23, ev.eq_24, ev.eq_25, ev.eq_26, ev.eq_27, ev.eq_29, ev.eq_30, ev.eq_31, ev.eq_32, ev.eq_33, ev.eq_34, ev.eq_35, evs, evT, evO, evI, bind_ok, bind_exc, bind_bad, to_ok, to_exc, to_bad, of_so, of_no, nx_ok, dat_v, dat_own, dat_sl, sdat_v, sdat_own, sdat_bor, sdat_lk, sdat_ro, odat_L, odat_I, frz_v, frz_own, frz_sl, frzs_nil, frzs_cons, toS_v, toS_own, toS_sl, snx_so, snx_no, isi_non_int, isi_non_bool, isi_non_str, isi_non_list, isi_non_tuple, isi_non_cl, isi_bl_int, isi_bl_bool, isi_bl_str, isi_bl_list, isi_bl_tuple, isi_bl_cl, isi_int_int, isi_int_bool, isi_int_str, isi_int_list, isi_int_tuple, isi_int_cl, isi_str_int, isi_str_bool, isi_str_str, isi_str_list, isi_str_tuple, isi_str_cl, isi_tup_int, isi_tup_bool, isi_tup_str, isi_tup_list, isi_tup_tuple, isi_tup_cl, isi_lst_int, isi_lst_bool, isi_lst_str, isi_lst_list, isi_lst_tuple, isi_lst_cl, isi_scr_int, isi_scr_bool, isi_scr_str, isi_scr_list, isi_scr_tuple, isi_scr_cl, isi_ins_int, isi_ins_bool, isi_ins_str, isi_ins_list, isi_ins_tuple, isi_ins_cl, fin, outs, cmpR, cmpD, eqD, biD, lenD, lim, binD, augD, negD, truD, ixD, mutD, put_pok, pok_no, pok_v, pok_own, pok_ro, pok_fsl, isLs, at_hot, at_cst, at_prop, at_meth, at_ccon, at_eqm, at_dct, at_sub, at_cl, at_gl, at_bl, at_flds, at_exc, at_kws, at_xcl, at_lf, hotB, asgT, callR, lends, lend, ndN, slOf, borN, back, argsE, setK, kindS, lose, lks, lock, lock1, unlock, unlock1, itemsD, inD_tup, inD_iL, flatD, eqF, rngI_iL, rgR_t, rgR_f, mkC, dropX, List.filterMap_cons, List.filterMap_nil, atI_0, atI_1, atI_2, atI_3, atI_4, iL_nil, iL_len, intsD_iL, plainAt, wipeE, restE, List.lookup_cons, List.lookup_nil, ne_floor_ceil, ne_floor_near, ne_floor_even, ne_floor_zero, ne_floor_clip, ne_floor_wrap, ne_ceil_floor, ne_ceil_near, ne_ceil_even, ne_ceil_zero, ne_ceil_clip, ne_ceil_wrap, ne_near_floor, ne_near_ceil, ne_near_even, ne_near_zero, ne_near_clip, ne_near_wrap, ne_even_floor, ne_even_ceil, ne_even_near, ne_even_zero, ne_even_clip, ne_even_wrap, ne_zero_floor, ne_zero_ceil, ne_zero_near, ne_zero_even, ne_zero_clip, ne_zero_wrap, ne_clip_floor, ne_clip_ceil, ne_clip_near, ne_clip_even, ne_clip_zero, ne_clip_wrap, ne_wrap_floor, ne_wrap_ceil, ne_wrap_near, ne_wrap_even, ne_wrap_zero, ne_wrap_clip, ne_name_low, ne_name_high, ne_name_is_round, ne_name_count, ne_low_name, ne_low_high, ne_low_is_round, ne_low_count, ne_high_name, ne_high_low, ne_high_is_round, ne_high_count, ne_is_round_name, ne_is_round_low, ne_is_round_high, ne_is_round_count, ne_count_name, ne_count_low, ne_count_high, ne_count_is_round, bq_name_low, bq_name_high, bq_name_is_round, bq_name_count, bq_low_name, bq_low_high, bq_low_is_round, bq_low_count, bq_high_name, bq_high_low, bq_high_is_round, bq_high_count, bq_is_round_name, bq_is_round_low, bq_is_round_high, bq_is_round_count, bq_count_name, bq_count_low, bq_count_high, bq_count_is_round, bq_floor_ceil, bq_floor_near, bq_floor_even, bq_floor_zero, bq_floor_clip, bq_floor_wrap, bq_ceil_floor, bq_ceil_near, bq_ceil_even, bq_ceil_zero, bq_ceil_clip, bq_ceil_wrap, bq_near_floor, bq_near_ceil, bq_near_even, bq_near_zero, bq_near_clip, bq_near_wrap, bq_even_floor, bq_even_ceil, bq_even_near, bq_even_zero, bq_even_clip, bq_even_wrap, bq_zero_floor, bq_zero_ceil, bq_zero_near, bq_zero_even, bq_zero_clip, bq_zero_wrap, bq_clip_floor, bq_clip_ceil, bq_clip_near, bq_clip_even, bq_clip_zero, bq_clip_wrap, bq_wrap_floor, bq_wrap_ceil, bq_wrap_near, bq_wrap_even, bq_wrap_zero, bq_wrap_clip, *])
def sE (k : Kd) (d t s q r : Int) (l : List Int) (v7 : Option S) : Ky.Env := [some (.v (pD k)), some (.v (.int d)), some (.v (.int t)), some (.v (.int s)), some (.v (.int q)), some (.v (.int r)), some (.own (.L (iL l))), v7, none, none]
theorem set_part1 (n : Nat) (k : Kd) (d t s : Int) (R : Sxs) (ha : Ask k d t) (hs : s = if t < 0 then -t else t) : ∃ r v7, exSs T.G (callF T.G T.fn n) (.cons (.set 3 (.bi .abs (.cons (.bi .int (.cons (.var 2) .nil)) .nil))) (.cons (.set 4 (.bin .FloorDiv (.var 3) (.var 1))) (.cons (.set 5 (.bin .Sub (.var 3) (.bin .Mult (.var 1) (.var 4)))) (.cons (.set 6 (.lst (.cons (.var 4) .nil))) (.cons (.ifs (.cmp .Gt (.var 5) (.cst (.int 0))) (.cons (.ex (.mut .append 6 (.cons (.bin .Add (.var 4) (.cst (.int 1))) .nil))) .nil) .nil) (.cons (.ifs (.an (.cmp .Eq (.idx (.var 0) (.cst (.int 0))) (.cst (.str "even"))) (.an (.cmp .Eq (.var 5) (.cst (.int 0))) (.cmp .Eq (.bin .Mod (.bi .int (.cons (.var 1) .nil)) (.cst (.int 2))) (.cst (.int 0))))) (.cons (.ifs (.cmp .Eq (.bin .Mod (.bi .int (.cons (.var 4) .nil)) (.cst (.int 2))) (.cst (.int 1))) (.cons (.set 6 (.lst (.cons (.bin .Sub (.var 4) (.cst (.int 1))) (.cons (.var 4) (.cons (.bin .Add (.var 4) (.cst (.int 1))) .nil))))) .nil) .nil) .nil) .nil) (.cons (.ifs (.an (.cmp .Eq (.idx (.var 0) (.cst (.int 0))) (.cst (.str "zero"))) (.an (.cmp .Gt (.var 4) (.cst (.int 0))) (.cmp .Lt (.var 5) (.bin .Sub (.var 1) (.cst (.int 1)))))) (.cons (.ex (.mut .append 6 (.cons (.bin .Sub (.var 4) (.cst (.int 1))) .nil))) .nil) .nil) (.cons (.ifs (.cmp .Eq (.idx (.var 0) (.cst (.int 0))) (.cst (.str "clip"))) (.cons (.set 7 (.bi .min2 (.cons (.bi .int (.cons (.var 3) .nil)) (.cons (.bi .int (.cons (.bin .Sub (.idx (.var 0) (.cst (.int 2))) (.idx (.var 0) (.cst (.int 1)))) .nil)) .nil)))) (.cons (.set 6 c3__law_set) .nil)) .nil) (.cons (.ifs (.cmp .Eq (.idx (.var 0) (.cst (.int 0))) (.cst (.str "wrap"))) (.cons (.set 5 (.bin .Mod (.bi .int (.cons (.var 3) .nil)) (.bin .Add (.bin .Sub (.idx (.var 0) (.cst (.int 2))) (.idx (.var 0) (.cst (.int 1)))) (.cst (.int 1))))) (.cons (.set 6 (.lst (.cons (.cst (.int 0)) .nil))) (.cons (.ifs (.cmp .Gt (.var 5) (.cst (.int 0))) (.cons (.set 6 (.lst (.cons (.var 5) (.cons (.bin .Sub (.var 5) (.bin .Add (.bin .Sub (.idx (.var 0) (.cst (.int 2))) (.idx (.var 0) (.cst (.int 1)))) (.cst (.int 1)))) .nil)))) .nil) .nil) .nil))) .nil) R))))))))) false [some (.v (pD k)), some (.v (.int d)), some (.v (.int t)), none, none, none, none, none, none, none] = exSs T.G (callF T.G T.fn n) R false (sE k d t s (s / d) r (fnd k d s) v7) := by
  have hh := hotG
  obtain ⟨g1, g2, g3, g4, g5, g6⟩ := ha
  obtain ⟨i1, i2, i3, i4⟩ := g1
  have h0 := dn_pos g2
  have s0 : 0 ≤ s := by rw [hs]; split <;> omega
  have s1 : s ≤ 1000000000000000000 := by rw [hs]; split <;> omega
  obtain ⟨q0, q1⟩ := ediv_bd h0 s0 s1
  have m1 : mulB d (s / d) = true := mulB_r (by omega) (by omega)
  have hw : 0 < k.hi - k.lo + 1 := by omega
  have hA : (if t < 0 then -t else t) = s := hs.symm
  have g7 : k.wrp = true ∨ k.hi - k.lo ≤ 10000 ∨ s ≤ 10000 := by
    rw [hs]
    rcases g6 with g | g
    · exact .inl g
    · right; split <;> omega
  clear hs g4 g5 g6 g2
  have hc : ∀ q r l m, 0 ≤ m → m ≤ 10000 → ev (T.G.at false) (callF T.G T.fn n false) c3__law_set (sE k d t s q r l (some (.v (.int m)))) = .ok (.own (.L (iL (rngL 0 (m + 1))))) (sE k d t s q r l (some (.v (.int m)))) := by
    intro q r l m m0 m2
    unfold c3__law_set
    refine (comp_map (xs := iL (rngL 0 (m + 1))) (is := []) (e := sE k d t s q r l (some (.v (.int m)))) (e3 := sE k d t s q r l (some (.v (.int m)))) (fun d => d) rfl (evI_r1 (r := .v (.int (m + 1))) rfl rfl (smallB_of (by omega) (by omega))) rfl ?_ ?_ rfl).trans ?_
    · rw [iL_len, rngL_len]; show _ ≤ 16777216; omega
    · intro x mm
      obtain ⟨i, rfl, _⟩ := iL_mem mm
      exact ⟨(sE k d t s q r l (some (.v (.int m)))).set 8 (some (.v (.int i))), .v (.int i), rfl, rfl, rfl, rfl⟩
    · rw [List.map_id']; rfl
  revert hc
  induction c3__law_set using gen_ex with | h F => ?_
  intro hc
  have e1 : 0 ≤ s - d * (s / d) := by
    rw [← Int.emod_def]; exact Int.emod_nonneg s (show d ≠ 0 by omega)
  unfold sE at *
  cases k with
  | fl =>
    simp only [pD, Kd.nm, Kd.lo, Kd.hi, fnd] at hc i1 i2 i3 i4 hw ⊢
    clear hc g7
    generalize hr : s - d * (s / d) = r at *
    refine ⟨r, none, ?_⟩
    by_cases a : 0 < r
    · rw [if_pos a]; walk_at "kx"; rfl
    · rw [if_neg a]; walk_at "kx"; rfl
  | ce =>
    simp only [pD, Kd.nm, Kd.lo, Kd.hi, fnd] at hc i1 i2 i3 i4 hw ⊢
    clear hc g7
    generalize hr : s - d * (s / d) = r at *
    refine ⟨r, none, ?_⟩
    by_cases a : 0 < r
    · rw [if_pos a]; walk_at "kx"; rfl
    · rw [if_neg a]; walk_at "kx"; rfl
  | ne =>
    simp only [pD, Kd.nm, Kd.lo, Kd.hi, fnd] at hc i1 i2 i3 i4 hw ⊢
    clear hc g7
    generalize hr : s - d * (s / d) = r at *
    refine ⟨r, none, ?_⟩
    by_cases a : 0 < r
    · rw [if_pos a]; walk_at "kx"; rfl
    · rw [if_neg a]; walk_at "kx"; rfl
  | ev =>
    simp only [pD, Kd.nm, Kd.lo, Kd.hi, fnd] at hc i1 i2 i3 i4 hw ⊢
    clear hc g7
    generalize hr : s - d * (s / d) = r at *
    refine ⟨r, none, ?_⟩
    by_cases a : 0 < r
    · have a2 : ¬ r = 0 := by omega
      rw [if_pos a]; walk_at "kx"; rfl
    · have a2 : r = 0 := by omega
      rw [if_neg a]; clear e1 a
      by_cases b : d % 2 = 0
      · by_cases c : s / d % 2 = 1
        · rw [if_pos ⟨b, c⟩]; walk_at "kx"; rfl
        · rw [if_neg (fun z => c z.2)]; walk_at "kx"; rfl
      · rw [if_neg (fun z => b z.1)]; walk_at "kx"; rfl
  | ze =>
    simp only [pD, Kd.nm, Kd.lo, Kd.hi, fnd] at hc i1 i2 i3 i4 hw ⊢
    clear hc g7
    generalize hr : s - d * (s / d) = r at *
    refine ⟨r, none, ?_⟩
    clear e1
    by_cases a : 0 < r
    · rw [if_pos a]
      by_cases b : 0 < s / d
      · by_cases c : r < d - 1
        · rw [if_pos ⟨b, c⟩]; walk_at "kx"; rfl
        · rw [if_neg (fun z => c z.2)]; walk_at "kx"; rfl
      · rw [if_neg (fun z => b z.1)]; walk_at "kx"; rfl
    · rw [if_neg a]
      by_cases b : 0 < s / d
      · by_cases c : r < d - 1
        · rw [if_pos ⟨b, c⟩]; walk_at "kx"; rfl
        · rw [if_neg (fun z => c z.2)]; walk_at "kx"; rfl
      · rw [if_neg (fun z => b z.1)]; walk_at "kx"; rfl
  | cl lo hi =>
    replace g7 := g7.resolve_left Bool.false_ne_true
    simp only [pD, Kd.nm, Kd.lo, Kd.hi, fnd] at hc i1 i2 i3 i4 hw g7 ⊢
    have hc1 := hc (s / d) (s - d * (s / d)) [s / d] (if hi - lo < s then hi - lo else s) (by split <;> omega) (by split <;> omega)
    have hc2 := hc (s / d) (s - d * (s / d)) [s / d, s / d + 1] (if hi - lo < s then hi - lo else s) (by split <;> omega) (by split <;> omega)
    clear hc
    clear g7
    generalize hm : (if hi - lo < s then hi - lo else s) = m at *
    generalize hr : s - d * (s / d) = r at *
    simp only [iL, List.map_cons, List.map_nil] at hc1 hc2 ⊢
    refine ⟨r, some (.v (.int m)), ?_⟩
    by_cases a : 0 < r
    · walk_at "kx"
    · walk_at "kx"
  | wr lo hi =>
    simp only [pD, Kd.nm, Kd.lo, Kd.hi, fnd] at hc i1 i2 i3 i4 hw ⊢
    clear hc g7
    generalize hr : s - d * (s / d) = r at *
    generalize hv : s % (hi - lo + 1) = v at *
    refine ⟨v, none, ?_⟩
    by_cases b : 0 < v
    · rw [if_pos b]
      by_cases a : 0 < r
      · walk_at "kx"; rfl
      · walk_at "kx"; rfl
    · rw [if_neg b]
      by_cases a : 0 < r
      · walk_at "kx"; rfl
      · walk_at "kx"; rfl
theorem fnd_len {k : Kd} {d t s : Int} (ha : Ask k d t) (hs : s = if t < 0 then -t else t) : (fnd k d s).length ≤ 10001 := by
  obtain ⟨g1, g2, g3, g4, g5, g6⟩ := ha
  obtain ⟨i1, i2, i3, i4⟩ := g1
  cases k with
  | cl lo hi =>
    simp only [fnd]
    replace g6 := g6.resolve_left Bool.false_ne_true
    simp only [Kd.lo, Kd.hi] at g6
    have hz : s ≤ 10000 ∨ hi - lo ≤ 10000 := by rw [hs]; split <;> omega
    rw [rngL_len]
    split <;> omega
  | wr lo hi => simp only [fnd]; split <;> simp
  | ev => simp only [fnd]; split <;> (try split) <;> simp
  | ze => simp only [fnd]; split <;> split <;> simp
  | fl => simp only [fnd]; split <;> simp
  | ce => simp only [fnd]; split <;> simp
  | ne => simp only [fnd]; split <;> simp
theorem set_part2 (n : Nat) (k : Kd) (d t s q r : Int) (l : List Int) (v7 : Option S) (hl : l.length ≤ 10001) (x : List Int) (hx : (if t < 0 then sortI (l.map (- ·)) else sortI l) = x) : ∃ e, exSs T.G (callF T.G T.fn n) (.cons (.ifs (.cmp .Lt (.var 2) (.cst (.int 0))) (.cons (.ret (.bi .sorted (.cons c2__law_set .nil))) .nil) .nil) (.cons (.ret (.bi .sorted (.cons c1__law_set .nil))) .nil)) false (sE k d t s q r l v7) = .ret (.own (.L (iL x))) e ∧ outs [.v (pD k), .v (.int d), .v (.int t)] e = some [] := by
  have hh := hotG
  refine ⟨sE k d t s q r l v7, ?_, rfl⟩
  have hc1 : ev (T.G.at false) (callF T.G T.fn n false) c1__law_set (sE k d t s q r l v7) = .ok (.own (.L (iL l))) (sE k d t s q r l v7) := by
    unfold c1__law_set
    refine (comp_map (xs := iL l) (is := [6]) (e := sE k d t s q r l v7) (e3 := sE k d t s q r l v7) (fun d => d) rfl rfl rfl ?_ ?_ rfl).trans ?_
    · rw [iL_len]; exact Nat.le_trans hl (by decide)
    · intro x m
      obtain ⟨i, rfl, _⟩ := iL_mem m
      exact ⟨(lock [6] (sE k d t s q r l v7)).set 9 (some (.v (.int i))), .v (.int i), rfl, rfl, rfl, rfl⟩
    · rw [List.map_id']; rfl
  have hc2 : ev (T.G.at false) (callF T.G T.fn n false) c2__law_set (sE k d t s q r l v7) = .ok (.own (.L (iL (l.map (- ·))))) (sE k d t s q r l v7) := by
    unfold c2__law_set
    refine (comp_map (xs := iL l) (is := [6]) (e := sE k d t s q r l v7) (e3 := sE k d t s q r l v7) (fun d => match d with | .int i => .int (-i) | d => d) rfl rfl rfl ?_ ?_ rfl).trans ?_
    · rw [iL_len]; exact Nat.le_trans hl (by decide)
    · intro x m
      obtain ⟨i, rfl, _⟩ := iL_mem m
      exact ⟨(lock [6] (sE k d t s q r l v7)).set 9 (some (.v (.int i))), .v (.int (-i)), rfl, rfl, rfl, rfl⟩
    · rw [iL_map]; rfl
  have s1 : (sortI l).map D.int = iL (sortI l) := rfl
  have s2 : (sortI (l.map (- ·))).map D.int = iL (sortI (l.map (- ·))) := rfl
  revert hc1 hc2
  induction c1__law_set using gen_ex with | h F => ?_
  induction c2__law_set using gen_ex with | h F2 => ?_
  intro hc1 hc2
  generalize hl2 : l.map (fun x => -x) = l2 at *
  unfold sE at *
  by_cases a : t < 0
  · rw [if_pos a] at hx
    subst hx
    clear hl2
    walk_at "kx"
  · rw [if_neg a] at hx
    subst hx
    clear hl2
    walk_at "kx"
theorem set2_ok (n : Nat) (k : Kd) (d t : Int) (ha : Ask k d t) : callF T.G T.fn (n+1) false "_law_set" [.v (pD k), .v (.int d), .v (.int t)] = .ok (.own (.L (iL (cset k d t)))) [] := by
  obtain ⟨r, v7, h1⟩ := set_part1 n k d t (if t < 0 then -t else t) (.cons (.ifs (.cmp .Lt (.var 2) (.cst (.int 0))) (.cons (.ret (.bi .sorted (.cons c2__law_set .nil))) .nil) .nil) (.cons (.ret (.bi .sorted (.cons c1__law_set .nil))) .nil)) ha rfl
  have hk : k.lo ≤ 0 ∧ 0 ≤ k.hi := ⟨ha.1.2.1, ha.1.2.2.1⟩
  obtain ⟨e, h2, h3⟩ := set_part2 n k d t (if t < 0 then -t else t) _ r _ v7 (fnd_len ha rfl) (cset k d t) (by
    by_cases a : t < 0
    · rw [if_pos a, if_pos a]; exact set_neg (dn_pos ha.2.1) a hk
    · rw [if_neg a, if_neg a]; exact set_pos (dn_pos ha.2.1) a hk)
  refine (callF_run fn__law_set rfl rfl (E := [some (.v (pD k)), some (.v (.int d)), some (.v (.int t)), none, none, none, none, none, none, none]) (r := .ret (.own (.L (iL (cset k d t)))) e) (h1.trans h2)).trans ?_
  unfold doneF fin
  simp only [h3]
end L24
end
section
set_option Elab.async false
set_option linter.all false
set_option maxRecDepth 100000
set_option maxHeartbeats 4000000
namespace L24
open PySem PySem.Spec PyProof.Rows L2 Ky
local macro_rules | `(tactic| walk_at "ky") => `(tactic| simp [exSs, exS, ev, evs, evT, evO, evI, bind_ok, bind_exc, bind_bad, to_ok, to_exc, to_bad, of_so, of_no, nx_ok, dat_v, dat_own, dat_sl, sdat_v, sdat_own, sdat_bor, sdat_lk, sdat_ro, odat_L, odat_I, frz_v, frz_own, frz_sl, frzs_nil, frzs_cons, toS_v, toS_own, toS_sl, snx_so, snx_no, isi_non_int, isi_non_bool, isi_non_str, isi_non_list, isi_non_tuple, isi_non_cl, isi_bl_int, isi_bl_bool, isi_bl_str, isi_bl_list, isi_bl_tuple, isi_bl_cl, isi_int_int, isi_int_bool, isi_int_str, isi_int_list, isi_int_tuple, isi_int_cl, isi_str_int, isi_str_bool, isi_str_str, isi_str_list, isi_str_tuple, isi_str_cl, isi_tup_int, isi_tup_bool, isi_tup_str, isi_tup_list, isi_tup_tuple, isi_tup_cl, isi_lst_int, isi_lst_bool, isi_lst_str, isi_lst_list, isi_lst_tuple, isi_lst_cl, isi_scr_int, isi_scr_bool, isi_scr_str, isi_scr_list, isi_scr_tuple, isi_scr_cl, isi_ins_int, isi_ins_bool, isi_ins_str, isi_ins_list, isi_ins_tuple, isi_ins_cl, fin, outs, cmpR, cmpD, eqD, biD, lenD, lim, binD, augD, negD, truD, ixD, mutD, put_pok, pok_no, pok_v, pok_own, pok_ro, pok_fsl, isLs, at_hot, at_cst, at_prop, at_meth, at_ccon, at_eqm, at_dct, at_sub, at_cl, at_gl, at_bl, at_flds, at_exc, at_kws, at_xcl, at_lf, hotB, asgT, callR, lends, lend, ndN, slOf, borN, back, argsE, setK, kindS, lose, lks, lock, lock1, unlock, unlock1, itemsD, loopF_nil, loopF_cons, inD_tup, inD_iL, flatD, eqF, rngI_iL, rgR_t, rgR_f, mkC, dropX, List.filterMap_cons, List.filterMap_nil, atI_0, atI_1, atI_2, atI_3, atI_4, iL_nil, iL_len, intsD_iL, List.lookup_cons, List.lookup_nil, ne_floor_ceil, ne_floor_near, ne_floor_even, ne_floor_zero, ne_floor_clip, ne_floor_wrap, ne_ceil_floor, ne_ceil_near, ne_ceil_even, ne_ceil_zero, ne_ceil_clip, ne_ceil_wrap, ne_near_floor, ne_near_ceil, ne_near_even, ne_near_zero, ne_near_clip, ne_near_wrap, ne_even_floor, ne_even_ceil, ne_even_near, ne_even_zero, ne_even_clip, ne_even_wrap, ne_zero_floor, ne_zero_ceil, ne_zero_near, ne_zero_even, ne_zero_clip, ne_zero_wrap, ne_clip_floor, ne_clip_ceil, ne_clip_near, ne_clip_even, ne_clip_zero, ne_clip_wrap, ne_wrap_floor, ne_wrap_ceil, ne_wrap_near, ne_wrap_even, ne_wrap_zero, ne_wrap_clip, ne_name_low, ne_name_high, ne_name_is_round, ne_name_count, ne_low_name, ne_low_high, ne_low_is_round, ne_low_count, ne_high_name, ne_high_low, ne_high_is_round, ne_high_count, ne_is_round_name, ne_is_round_low, ne_is_round_high, ne_is_round_count, ne_count_name, ne_count_low, ne_count_high, ne_count_is_round, bq_name_low, bq_name_high, bq_name_is_round, bq_name_count, bq_low_name, bq_low_high, bq_low_is_round, bq_low_count, bq_high_name, bq_high_low, bq_high_is_round, bq_high_count, bq_is_round_name, bq_is_round_low, bq_is_round_high, bq_is_round_count, bq_count_name, bq_count_low, bq_count_high, bq_count_is_round, bq_floor_ceil, bq_floor_near, bq_floor_even, bq_floor_zero, bq_floor_clip, bq_floor_wrap, bq_ceil_floor, bq_ceil_near, bq_ceil_even, bq_ceil_zero, bq_ceil_clip, bq_ceil_wrap, bq_near_floor, bq_near_ceil, bq_near_even, bq_near_zero, bq_near_clip, bq_near_wrap, bq_even_floor, bq_even_ceil, bq_even_near, bq_even_zero, bq_even_clip, bq_even_wrap, bq_zero_floor, bq_zero_ceil, bq_zero_near, bq_zero_even, bq_zero_clip, bq_zero_wrap, bq_clip_floor, bq_clip_ceil, bq_clip_near, bq_clip_even, bq_clip_zero, bq_clip_wrap, bq_wrap_floor, bq_wrap_ceil, bq_wrap_near, bq_wrap_even, bq_wrap_zero, bq_wrap_clip, *])
local macro_rules | `(tactic| walk_at "kx") => `(tactic| simp [exSs, exS.eq_1, exS.eq_2, exS.eq_3, exS.eq_4, exS.eq_5, exS.eq_6, exS.eq_7, exS.eq_8, exS.eq_9, exS.eq_10, exS.eq_13, exS.eq_14, exS.eq_15, exS.eq_16, exS.eq_17, exS.eq_18, ev.eq_1, ev.eq_2, ev.eq_3, ev.eq_4, ev.eq_5, ev.eq_6, ev.eq_7, ev.eq_8, ev.eq_9, ev.eq_10, ev.eq_11, ev.eq_12, ev.eq_13, ev.eq_14, ev.eq_15, ev.eq_16, ev.eq_17, ev.eq_18, ev.eq_19, ev.eq_20, ev.eq_21, ev.eq_22, ev.eq_23, ev.eq_24, ev.eq_25, ev.eq_26, ev.eq_27, ev.eq_29, ev.eq_30, ev.eq_31, ev.eq_32, ev.eq_33, ev.eq_34, ev.eq_35, evs, evT, evO, evI, bind_ok, bind_exc, bind_bad, to_ok, to_exc, to_bad, of_so, of_no, nx_ok, dat_v, dat_own, dat_sl, sdat_v, sdat_own, sdat_bor, sdat_lk, sdat_ro, odat_L, odat_I, frz_v, frz_own, frz_sl, frzs_nil, frzs_cons, toS_v, toS_own, toS_sl, snx_so, snx_no, isi_non_int, isi_non_bool, isi_non_str, isi_non_list, isi_non_tuple, isi_non_cl, isi_bl_int, isi_bl_bool, isi_bl_str, isi_bl_list, isi_bl_tuple, isi_bl_cl, isi_int_int, isi_int_bool, isi_int_str, isi_int_list, isi_int_tuple, isi_int_cl, isi_str_int, isi_str_bool, isi_str_str, isi_str_list, isi_str_tuple, isi_str_cl, isi_tup_int, isi_tup_bool, isi_tup_str, isi_tup_list, isi_tup_tuple, isi_tup_cl, isi_lst_int, isi_lst_bool, isi_lst_str, isi_lst_list, isi_lst_tuple, isi_lst_cl, isi_scr_int, isi_scr_bool, isi_scr_str, isi_scr_list, isi_scr_tuple, isi_scr_cl, isi_ins_int, isi_ins_bool, isi_ins_str, isi_ins_list, isi_ins_tuple, isi_ins_cl, fin, outs, cmpR, cmpD, eqD, biD, lenD, lim, binD, augD, negD, truD, ixD, mutD, put_pok, pok_no, pok_v, pok_own, pok_ro, pok_fsl, isLs, at_hot, at_cst, at_prop, at_meth, at_ccon, at_eqm, at_dct, at_sub, at_cl, at_gl, at_bl, at_flds, at_exc, at_kws, at_xcl, at_lf, hotB, asgT, callR, lends, lend, ndN, slOf, borN, back, argsE, setK, kindS, lose, lks, lock, lock1, unlock, unlock1, itemsD, inD_tup, inD_iL, flatD, eqF, rngI_iL, rgR_t, rgR_f, mkC, dropX, List.filterMap_cons, List.filterMap_nil, atI_0, atI_1, atI_2, atI_3, atI_4, iL_nil, iL_len, intsD_iL, plainAt, wipeE, restE, List.lookup_cons, List.lookup_nil, ne_floor_ceil, ne_floor_near, ne_floor_even, ne_floor_zero, ne_floor_clip, ne_floor_wrap, ne_ceil_floor, ne_ceil_near, ne_ceil_even, ne_ceil_zero, ne_ceil_clip, ne_ceil_wrap, ne_near_floor, ne_near_ceil, ne_near_even, ne_near_zero, ne_near_clip, ne_near_wrap, ne_even_floor, ne_even_ceil, ne_even_near, ne_even_zero, ne_even_clip, ne_even_wrap, ne_zero_floor, ne_zero_ceil, ne_zero_near, ne_zero_even, ne_zero_clip, ne_zero_wrap, ne_clip_floor, ne_clip_ceil, ne_clip_near, ne_clip_even, ne_clip_zero, ne_clip_wrap, ne_wrap_floor, ne_wrap_ceil, ne_wrap_near, ne_wrap_even, ne_wrap_zero, ne_wrap_clip, ne_name_low, ne_name_high, ne_name_is_round, ne_name_count, ne_low_name, ne_low_high, ne_low_is_round, ne_low_count, ne_high_name, ne_high_low, ne_high_is_round, ne_high_count, ne_is_round_name, ne_is_round_low, ne_is_round_high, ne_is_round_count, ne_count_name, ne_count_low, ne_count_high, ne_count_is_round, bq_name_low, bq_name_high, bq_name_is_round, bq_name_count, bq_low_name, bq_low_high, bq_low_is_round, bq_low_count, bq_high_name, bq_high_low, bq_high_is_round, bq_high_count, bq_is_round_name, bq_is_round_low, bq_is_round_high, bq_is_round_count, bq_count_name, bq_count_low, bq_count_high, bq_count_is_round, bq_floor_ceil, bq_floor_near, bq_floor_even, bq_floor_zero, bq_floor_clip, bq_floor_wrap, bq_ceil_floor, bq_ceil_near, bq_ceil_even, bq_ceil_zero, bq_ceil_clip, bq_ceil_wrap, bq_near_floor, bq_near_ceil, bq_near_even, bq_near_zero, bq_near_clip, bq_near_wrap, bq_even_floor, bq_even_ceil, bq_even_near, bq_even_zero, bq_even_clip, bq_even_wrap, bq_zero_floor, bq_zero_ceil, bq_zero_near, bq_zero_even, bq_zero_clip, bq_zero_wrap, bq_clip_floor, bq_clip_ceil, bq_clip_near, bq_clip_even, bq_clip_zero, bq_clip_wrap, bq_wrap_floor, bq_wrap_ceil, bq_wrap_near, bq_wrap_even, bq_wrap_zero, bq_wrap_clip, *])
theorem cset_len {k : Kd} {d t : Int} (ha : Ask k d t) : (cset k d t).length < 16777216 := by
  obtain ⟨g1, g2, g3, g4, g5, g6⟩ := ha
  obtain ⟨i1, i2, i3, i4⟩ := g1
  have A : (around d t).length ≤ 2 := by unfold around; split <;> simp
  cases k with
  | fl => exact Nat.lt_of_le_of_lt A (by decide)
  | ce => exact Nat.lt_of_le_of_lt A (by decide)
  | ne => exact Nat.lt_of_le_of_lt A (by decide)
  | ev =>
    simp only [cset]
    split
    · simp
    · exact Nat.lt_of_le_of_lt A (by decide)
  | ze =>
    simp only [cset]
    split
    · unfold mir; rw [List.length_map, List.length_reverse]; exact Nat.lt_of_le_of_lt zs_len (by decide)
    · exact Nat.lt_of_le_of_lt zs_len (by decide)
  | cl lo hi =>
    replace g6 := g6.resolve_left Bool.false_ne_true
    simp only [Kd.lo, Kd.hi] at g6
    simp only [cset]
    split
    · rw [rngL_len]; split <;> omega
    · rw [rngL_len]; split <;> omega
  | wr lo hi => simp only [cset]; split <;> simp
def rD (k : Kd) (d t : Int) : D := .tup [pD k, .int d, .int t, .lst (iL (cset k d t))]
def RowOk (x : D) : Prop := ∃ k d t, x = rD k d t ∧ Ask k d t
theorem ask_small {k : Kd} {d t : Int} (hk : SK k) (h0 : 0 < d) (h1 : d ≤ 12) (hb : k.bd = true → d = 1) (ht : -1000 ≤ t ∧ t ≤ 1000) : Ask k d t := by
  obtain ⟨g1, g2, g3, g4⟩ := hk
  refine ⟨⟨by omega, g2, g3, by omega⟩, ?_, divB_of h0 (by omega), by omega, by omega, .inr (.inl (by omega))⟩
  unfold Kd.dn
  cases h : k.bd
  · simp; omega
  · simp; have := hb h; omega
def mE (p : List Int) (ks : S) (rows : List D) (v3 v4 v5 v6 v7 v8 : Option S) : Ky.Env := [some (.bor (.L (iL p))), some ks, some (.own (.L rows)), v3, v4, v5, v6, v7, v8]
theorem small_inner (n : Nat) (k : Kd) (d b g : Int) (p : List Int) (ks : S) (rows : List D) (v7 v8 : Option D) (hk : SK k) (h0 : 0 < d) (h1 : d ≤ 12) (hb : k.bd = true → d = 1) (b0 : -100 ≤ b ∧ b ≤ 100) (g0 : -100 ≤ g ∧ g ≤ 100) (hl : rows.length ≤ 1000) :
    ∃ e, exS T.G (callF T.G T.fn (n+2)) l1__law_small false (mE p ks rows (some (.v (pD k))) (some (.v (.int d))) (some (.v (.int b))) (some (.v (.int g))) (fsl v7) (fsl v8)) = .next e ∧ ∃ rs v7 v8, e = mE p ks (rows ++ rs) (some (.v (pD k))) (some (.v (.int d))) (some (.v (.int b))) (some (.v (.int g))) (fsl v7) (fsl v8) ∧ (∀ x ∈ rs, RowOk x) ∧ rs.length = 6 := by
  have hh := hotG
  unfold l1__law_small
  refine for_run (xs := iL [b, b + 1, b - 1, -b, g, 0]) (is := []) (e := mE p ks rows (some (.v (pD k))) (some (.v (.int d))) (some (.v (.int b))) (some (.v (.int g))) (fsl v7) (fsl v8)) (fun pre e => ∃ rs v7 v8, e = mE p ks (rows ++ rs) (some (.v (pD k))) (some (.v (.int d))) (some (.v (.int b))) (some (.v (.int g))) (fsl v7) (fsl v8) ∧ (∀ x ∈ rs, RowOk x) ∧ rs.length = pre.length) ?_ ⟨[], v7, v8, by rw [List.append_nil]; rfl, by simp, rfl⟩ ?_ ?_
  · unfold mE
    walk_at "kx"
    rfl
  · rintro pre x post e hx ⟨rs, v7, v8, rfl, f1, f2⟩
    have hx2 : x ∈ iL [b, b + 1, b - 1, -b, g, 0] := by rw [hx]; simp
    have hp : pre.length ≤ 6 := by
      have := congrArg List.length hx
      rw [iL_len, List.length_append] at this
      simp at this
      omega
    obtain ⟨t, rfl, ht⟩ := iL_mem hx2
    have ht2 : -1000 ≤ t ∧ t ≤ 1000 := by
      simp at ht
      omega
    have hc := tried_ok n k d t h0 h1 hk ht2
    have hl2 : (rows ++ rs).length < 16777216 := by rw [List.length_append]; omega
    rw [List.length_append] at hl2
    refine ⟨mE p ks (rows ++ rs) (some (.v (pD k))) (some (.v (.int d))) (some (.v (.int b))) (some (.v (.int g))) (some (.v (.int t))) (fsl v8), mE p ks (rows ++ (rs ++ [rD k d t])) (some (.v (pD k))) (some (.v (.int d))) (some (.v (.int b))) (some (.v (.int g))) (some (.v (.int t))) (some (.v (.lst (iL (cset k d t))))), ?_, ?_, rs ++ [rD k d t], some (.int t), some (.lst (iL (cset k d t))), rfl, ?_, ?_⟩
    · unfold mE
      walk_at "kx"
    · unfold mE rD
      clear hx hx2 ht f1 f2
      walk_at "kx"
    · intro x hx
      rcases List.mem_append.mp hx with h | h
      · exact f1 x h
      · simp at h
        exact ⟨k, d, t, h, ask_small hk h0 h1 hb ht2⟩
    · rw [List.length_append, List.length_append, f2]; rfl
  · rintro e ⟨rs, v7, v8, rfl, f1, f2⟩
    exact ⟨_, rfl, rs, v7, v8, rfl, f1, f2⟩
theorem small_ok (n : Nat) (p : List Int) (ks : List Kd) (hl : p.length ≤ 63) (hk : ∀ k ∈ ks, SK k) (hn : ks.length = 7) : ∃ p' rs, callF T.G T.fn (n+3) false "_law_small" [.bor (.L (iL p)), .bor (.L (ks.map pD))] = .ok (.own (.L rs)) [.L (iL p'), .L (ks.map pD)] ∧ p'.length ≤ 63 ∧ (∀ x ∈ rs, RowOk x) ∧ rs.length = 42 := by
  have hh := hotG
  have hf : ∃ e, exS T.G (callF T.G T.fn (n+2)) l2__law_small false (mE p (.bor (.L (ks.map pD))) [] none none none none none none) = .next e ∧ ∃ p' rs v3 v4 v5 v6 v7 v8, e = mE p' (.bor (.L (ks.map pD))) rs v3 v4 v5 v6 v7 v8 ∧ p'.length ≤ 63 ∧ (∀ x ∈ rs, RowOk x) ∧ rs.length = 42 := by
    unfold l2__law_small
    refine for_run (xs := ks.map pD) (is := [1]) (e := mE p (.bor (.L (ks.map pD))) [] none none none none none none) (fun pre e => ∃ p' rs v3 v4 v5 v6 v7 v8, e = mE p' (.lk (.L (ks.map pD))) rs (fsl v3) (fsl v4) (fsl v5) (fsl v6) (fsl v7) (fsl v8) ∧ p'.length ≤ 63 ∧ (∀ x ∈ rs, RowOk x) ∧ rs.length = 6 * pre.length) rfl ⟨p, [], none, none, none, none, none, none, rfl, hl, by simp, rfl⟩ ?_ ?_
    · rintro pre x post e hx ⟨p0, rs, v3, v4, v5, v6, v7, v8, rfl, q0, f1, f2⟩
      have hx2 : x ∈ ks.map pD := by rw [hx]; simp
      have hp : pre.length ≤ 7 := by
        have := congrArg List.length hx
        rw [List.length_map, List.length_append, hn] at this
        omega
      obtain ⟨k, km, rfl⟩ := List.mem_map.mp hx2
      have hk2 := hk k km
      obtain ⟨d, p1, hd, d0, d1, db, q1⟩ : ∃ d p1, (k.bd = false → ∃ v, callF T.G T.fn (n+2) false "_law_take" [.bor (.L (iL p0)), .v (.int 12)] = .ok (.v (.int v)) [.L (iL p1)] ∧ d = 1 + (v + 3) % 12) ∧ 0 < d ∧ d ≤ 12 ∧ (k.bd = true → d = 1 ∧ p1 = p0) ∧ p1.length ≤ 63 := by
        cases hb : k.bd
        · obtain ⟨v, p1, e1, _, _, q1⟩ := take_spec (n+1) false 12 p0 q0 (by decide) (by decide)
          exact ⟨1 + (v + 3) % 12, p1, fun _ => ⟨v, e1, rfl⟩, by omega, by omega, fun h => absurd h Bool.false_ne_true, q1⟩
        · exact ⟨1, p0, fun h => absurd h.symm Bool.false_ne_true, by decide, by decide, fun _ => ⟨rfl, rfl⟩, q0⟩
      obtain ⟨v2, p2, e2, a2, b2, q2⟩ := take_spec (n+1) false 121 p1 q1 (by decide) (by decide)
      obtain ⟨v3', p3, e3, a3, b3, q3⟩ := take_spec (n+1) false 11 p2 q2 (by decide) (by decide)
      obtain ⟨v4', p4, e4, a4, b4, q4⟩ := take_spec (n+1) false 3 p3 q3 (by decide) (by decide)
      have mm : mulB d (v3' - 5) = true := mulB_l (by omega) (by omega)
      have hg : -100 ≤ d * (v3' - 5) + v4' - 1 ∧ d * (v3' - 5) + v4' - 1 ≤ 100 := by
        rcases twelve d0 d1 with h | h | h | h | h | h | h | h | h | h | h | h <;> subst h <;> omega
      obtain ⟨e, hi, rs2, w7, w8, rfl, r1, r2⟩ := small_inner n k d ((v2 + 67) % 121 - 60) (d * (v3' - 5) + v4' - 1) p4 (.lk (.L (ks.map pD))) rs v7 v8 hk2 d0 d1 (fun h => (db h).1) (by omega) hg (by omega)
      refine ⟨mE p0 (.lk (.L (ks.map pD))) rs (some (.v (pD k))) (fsl v4) (fsl v5) (fsl v6) (fsl v7) (fsl v8), mE p4 (.lk (.L (ks.map pD))) (rs ++ rs2) (some (.v (pD k))) (some (.v (.int d))) (some (.v (.int ((v2 + 67) % 121 - 60)))) (some (.v (.int (d * (v3' - 5) + v4' - 1)))) (fsl w7) (fsl w8), ?_, ?_, p4, rs ++ rs2, some (pD k), some (.int d), some (.int ((v2 + 67) % 121 - 60)), some (.int (d * (v3' - 5) + v4' - 1)), w7, w8, rfl, q4, ?_, ?_⟩
      · unfold mE
        walk_at "kx"
      · clear hx hx2 hk hk2 hg q0 q1 q2 q3 q4 a2 b2 a3 b3 a4 b4 f1 f2 r1 r2 km hp
        revert hi
        induction l1__law_small using gen_sx with | h F => ?_
        intro hi
        unfold mE at *
        generalize ks.map pD = ksD at *
        have base : (v2 + 67) % 121 - 60 = (v2 + 67) % 121 - 60 := rfl
        cases hb : k.bd
        · obtain ⟨v, e1, hd2⟩ := hd hb
          subst hd2
          clear hd db d0 d1 base
          cases k <;> first | (exact absurd hb.symm Bool.false_ne_true) | (simp only [pD, Kd.nm, Kd.lo, Kd.hi] at hi ⊢; walk_at "kx")
        · obtain ⟨rfl, rfl⟩ := db hb
          clear hd db d0 d1 base
          simp only [Int.one_mul] at hi ⊢
          cases k <;> first | (exact absurd hb Bool.false_ne_true) | (simp only [pD, Kd.nm, Kd.lo, Kd.hi] at hi ⊢; walk_at "kx")
      · intro x hx
        rcases List.mem_append.mp hx with h | h
        · exact f1 x h
        · exact r1 x h
      · rw [List.length_append, List.length_append, f2, r2]; simp; omega
    · rintro e ⟨p', rs, v3, v4, v5, v6, v7, v8, rfl, f0, f1, f2⟩
      exact ⟨_, rfl, p', rs, _, _, _, _, _, _, rfl, f0, f1, by rw [f2, List.length_map, hn]⟩
  obtain ⟨e, hf, p', rs, v3, v4, v5, v6, v7, v8, rfl, f0, f1, f2⟩ := hf
  refine ⟨p', rs, ?_, f0, f1, f2⟩
  refine (callF_run fn__law_small rfl rfl (E := [some (.bor (.L (iL p))), some (.bor (.L (ks.map pD))), none, none, none, none, none, none, none]) (r := .ret (.sl 2) (mE p' (.bor (.L (ks.map pD))) rs v3 v4 v5 v6 v7 v8)) ?_).trans rfl
  simp only [f__law_small]
  clear f0 f1 f2 hk hn hl
  revert hf
  induction l2__law_small using gen_sx with | h F => ?_
  intro hf
  unfold mE at *
  generalize ks.map pD = ksD at *
  walk_at "kx"
end L24
end
section
set_option Elab.async false
set_option linter.all false
set_option maxRecDepth 100000
set_option maxHeartbeats 4000000
namespace L24
open PySem PySem.Spec PyProof.Rows L2 Ky
local macro_rules | `(tactic| walk_at "ky") => `(tactic| simp [exSs, exS, ev, evs, evT, evO, evI, bind_ok, bind_exc, bind_bad, to_ok, to_exc, to_bad, of_so, of_no, nx_ok, dat_v, dat_own, dat_sl, sdat_v, sdat_own, sdat_bor, sdat_lk, sdat_ro, odat_L, odat_I, frz_v, frz_own, frz_sl, frzs_nil, frzs_cons, toS_v, toS_own, toS_sl, snx_so, snx_no, isi_non_int, isi_non_bool, isi_non_str, isi_non_list, isi_non_tuple, isi_non_cl, isi_bl_int, isi_bl_bool, isi_bl_str, isi_bl_list, isi_bl_tuple, isi_bl_cl, isi_int_int, isi_int_bool, isi_int_str, isi_int_list, isi_int_tuple, isi_int_cl, isi_str_int, isi_str_bool, isi_str_str, isi_str_list, isi_str_tuple, isi_str_cl, isi_tup_int, isi_tup_bool, isi_tup_str, isi_tup_list, isi_tup_tuple, isi_tup_cl, isi_lst_int, isi_lst_bool, isi_lst_str, isi_lst_list, isi_lst_tuple, isi_lst_cl, isi_scr_int, isi_scr_bool, isi_scr_str, isi_scr_list, isi_scr_tuple, isi_scr_cl, isi_ins_int, isi_ins_bool, isi_ins_str, isi_ins_list, isi_ins_tuple, isi_ins_cl, fin, outs, cmpR, cmpD, eqD, biD, lenD, lim, binD, augD, negD, truD, ixD, mutD, put_pok, pok_no, pok_v, pok_own, pok_ro, pok_fsl, isLs, at_hot, at_cst, at_prop, at_meth, at_ccon, at_eqm, at_dct, at_sub, at_cl, at_gl, at_bl, at_flds, at_exc, at_kws, at_xcl, at_lf, hotB, asgT, callR, lends, lend, ndN, slOf, borN, back, argsE, setK, kindS, lose, lks, lock, lock1, unlock, unlock1, itemsD, loopF_nil, loopF_cons, inD_tup, inD_iL, flatD, eqF, rngI_iL, rgR_t, rgR_f, mkC, dropX, List.filterMap_cons, List.filterMap_nil, atI_0, atI_1, atI_2, atI_3, atI_4, iL_nil, iL_len, intsD_iL, List.lookup_cons, List.lookup_nil, ne_floor_ceil, ne_floor_near, ne_floor_even, ne_floor_zero, ne_floor_clip, ne_floor_wrap, ne_ceil_floor, ne_ceil_near, ne_ceil_even, ne_ceil_zero, ne_ceil_clip, ne_ceil_wrap, ne_near_floor, ne_near_ceil, ne_near_even, ne_near_zero, ne_near_clip, ne_near_wrap, ne_even_floor, ne_even_ceil, ne_even_near, ne_even_zero, ne_even_clip, ne_even_wrap, ne_zero_floor, ne_zero_ceil, ne_zero_near, ne_zero_even, ne_zero_clip, ne_zero_wrap, ne_clip_floor, ne_clip_ceil, ne_clip_near, ne_clip_even, ne_clip_zero, ne_clip_wrap, ne_wrap_floor, ne_wrap_ceil, ne_wrap_near, ne_wrap_even, ne_wrap_zero, ne_wrap_clip, ne_name_low, ne_name_high, ne_name_is_round, ne_name_count, ne_low_name, ne_low_high, ne_low_is_round, ne_low_count, ne_high_name, ne_high_low, ne_high_is_round, ne_high_count, ne_is_round_name, ne_is_round_low, ne_is_round_high, ne_is_round_count, ne_count_name, ne_count_low, ne_count_high, ne_count_is_round, bq_name_low, bq_name_high, bq_name_is_round, bq_name_count, bq_low_name, bq_low_high, bq_low_is_round, bq_low_count, bq_high_name, bq_high_low, bq_high_is_round, bq_high_count, bq_is_round_name, bq_is_round_low, bq_is_round_high, bq_is_round_count, bq_count_name, bq_count_low, bq_count_high, bq_count_is_round, bq_floor_ceil, bq_floor_near, bq_floor_even, bq_floor_zero, bq_floor_clip, bq_floor_wrap, bq_ceil_floor, bq_ceil_near, bq_ceil_even, bq_ceil_zero, bq_ceil_clip, bq_ceil_wrap, bq_near_floor, bq_near_ceil, bq_near_even, bq_near_zero, bq_near_clip, bq_near_wrap, bq_even_floor, bq_even_ceil, bq_even_near, bq_even_zero, bq_even_clip, bq_even_wrap, bq_zero_floor, bq_zero_ceil, bq_zero_near, bq_zero_even, bq_zero_clip, bq_zero_wrap, bq_clip_floor, bq_clip_ceil, bq_clip_near, bq_clip_even, bq_clip_zero, bq_clip_wrap, bq_wrap_floor, bq_wrap_ceil, bq_wrap_near, bq_wrap_even, bq_wrap_zero, bq_wrap_clip, *])
local macro_rules | `(tactic| walk_at "kx") => `(tactic| simp [exSs, exS.eq_1, exS.eq_2, exS.eq_3, exS.eq_4, exS.eq_5, exS.eq_6, exS.eq_7, exS.eq_8, exS.eq_9, exS.eq_10, exS.eq_13, exS.eq_14, exS.eq_15, exS.eq_16, exS.eq_17, exS.eq_18, ev.eq_1, ev.eq_2, ev.eq_3, ev.eq_4, ev.eq_5, ev.eq_6, ev.eq_7, ev.eq_8, ev.eq_9, ev.eq_10, ev.eq_11, ev.eq_12, ev.eq_13, ev.eq_14, ev.eq_15, ev.eq_16, ev.eq_17, ev.eq_18, ev.eq_19, ev.eq_20, ev.eq_21, ev.eq_22, ev.eq_23, ev.eq_24, ev.eq_25, ev.eq_26, ev.eq_27, ev.eq_29, ev.eq_30, ev.eq_31, ev.eq_32, ev.eq_33, ev.eq_34, ev.eq_35, evs, evT, evO, evI, bind_ok, bind_exc, bind_bad, to_ok, to_exc, to_bad, of_so, of_no, nx_ok, dat_v, dat_own, dat_sl, sdat_v, sdat_own, sdat_bor, sdat_lk, sdat_ro, odat_L, odat_I, frz_v, frz_own, frz_sl, frzs_nil, frzs_cons, toS_v, toS_own, toS_sl, snx_so, snx_no, isi_non_int, isi_non_bool, isi_non_str, isi_non_list, isi_non_tuple, isi_non_cl, isi_bl_int, isi_bl_bool, isi_bl_str, isi_bl_list, isi_bl_tuple, isi_bl_cl, isi_int_int, isi_int_bool, isi_int_str, isi_int_list, isi_int_tuple, isi_int_cl, isi_str_int, isi_str_bool, isi_str_str, isi_str_list, isi_str_tuple, isi_str_cl, isi_tup_int, isi_tup_bool, isi_tup_str, isi_tup_list, isi_tup_tuple, isi_tup_cl, isi_lst_int, isi_lst_bool, isi_lst_str, isi_lst_list, isi_lst_tuple, isi_lst_cl, isi_scr_int, isi_scr_bool, isi_scr_str, isi_scr_list, isi_scr_tuple, isi_scr_cl, isi_ins_int, isi_ins_bool, isi_ins_str, isi_ins_list, isi_ins_tuple, isi_ins_cl, fin, outs, cmpR, cmpD, eqD, biD, lenD, lim, binD, augD, negD, truD, ixD, mutD, put_pok, pok_no, pok_v, pok_own, pok_ro, pok_fsl, isLs, at_hot, at_cst, at_prop, at_meth, at_ccon, at_eqm, at_dct, at_sub, at_cl, at_gl, at_bl, at_flds, at_exc, at_kws, at_xcl, at_lf, hotB, asgT, callR, lends, lend, ndN, slOf, borN, back, argsE, setK, kindS, lose, lks, lock, lock1, unlock, unlock1, itemsD, inD_tup, inD_iL, flatD, eqF, rngI_iL, rgR_t, rgR_f, mkC, dropX, List.filterMap_cons, List.filterMap_nil, atI_0, atI_1, atI_2, atI_3, atI_4, iL_nil, iL_len, intsD_iL, plainAt, wipeE, restE, List.lookup_cons, List.lookup_nil, ne_floor_ceil, ne_floor_near, ne_floor_even, ne_floor_zero, ne_floor_clip, ne_floor_wrap, ne_ceil_floor, ne_ceil_near, ne_ceil_even, ne_ceil_zero, ne_ceil_clip, ne_ceil_wrap, ne_near_floor, ne_near_ceil, ne_near_even, ne_near_zero, ne_near_clip, ne_near_wrap, ne_even_floor, ne_even_ceil, ne_even_near, ne_even_zero, ne_even_clip, ne_even_wrap, ne_zero_floor, ne_zero_ceil, ne_zero_near, ne_zero_even, ne_zero_clip, ne_zero_wrap, ne_clip_floor, ne_clip_ceil, ne_clip_near, ne_clip_even, ne_clip_zero, ne_clip_wrap, ne_wrap_floor, ne_wrap_ceil, ne_wrap_near, ne_wrap_even, ne_wrap_zero, ne_wrap_clip, ne_name_low, ne_name_high, ne_name_is_round, ne_name_count, ne_low_name, ne_low_high, ne_low_is_round, ne_low_count, ne_high_name, ne_high_low, ne_high_is_round, ne_high_count, ne_is_round_name, ne_is_round_low, ne_is_round_high, ne_is_round_count, ne_count_name, ne_count_low, ne_count_high, ne_count_is_round, bq_name_low, bq_name_high, bq_name_is_round, bq_name_count, bq_low_name, bq_low_high, bq_low_is_round, bq_low_count, bq_high_name, bq_high_low, bq_high_is_round, bq_high_count, bq_is_round_name, bq_is_round_low, bq_is_round_high, bq_is_round_count, bq_count_name, bq_count_low, bq_count_high, bq_count_is_round, bq_floor_ceil, bq_floor_near, bq_floor_even, bq_floor_zero, bq_floor_clip, bq_floor_wrap, bq_ceil_floor, bq_ceil_near, bq_ceil_even, bq_ceil_zero, bq_ceil_clip, bq_ceil_wrap, bq_near_floor, bq_near_ceil, bq_near_even, bq_near_zero, bq_near_clip, bq_near_wrap, bq_even_floor, bq_even_ceil, bq_even_near, bq_even_zero, bq_even_clip, bq_even_wrap, bq_zero_floor, bq_zero_ceil, bq_zero_near, bq_zero_even, bq_zero_clip, bq_zero_wrap, bq_clip_floor, bq_clip_ceil, bq_clip_near, bq_clip_even, bq_clip_zero, bq_clip_wrap, bq_wrap_floor, bq_wrap_ceil, bq_wrap_near, bq_wrap_even, bq_wrap_zero, bq_wrap_clip, *])
def T3 (x : D) : Prop := ∃ k d t, x = .tup [pD k, .int d, .int t] ∧ Ask k d t
def gE (p : List Int) (ks rows : S) (v3 v4 v5 v6 v7 v8 v9 v10 v11 v12 : Option S) : Ky.Env := [some (.bor (.L (iL p))), some ks, some rows, v3, v4, v5, v6, v7, v8, v9, v10, v11, v12]
theorem ask_round {k : Kd} {d t : Int} (hb : k.bd = false) (h0 : 0 < d) (h1 : d ≤ 1000000000000000000) (t0 : -1000000000000000000 ≤ t) (t1 : t ≤ 1000000000000000000) : Ask k d t := by
  refine ⟨?_, ?_, divB_of h0 (by omega), t0, t1, .inr (.inl ?_)⟩
  · cases k <;> first | (exact absurd hb.symm Bool.false_ne_true) | (simp [Kd.ok, Kd.lo, Kd.hi])
  · unfold Kd.dn; rw [hb]; simp; omega
  · cases k <;> first | (exact absurd hb.symm Bool.false_ne_true) | (simp [Kd.lo, Kd.hi])
theorem sgn {v x : Int} (h0 : 0 ≤ v) (h1 : v < 2) : x * (1 - 2 * v) = x ∨ x * (1 - 2 * v) = -x := by
  rcases (show v = 0 ∨ v = 1 by omega) with h | h <;> subst h <;> omega
theorem great_loop (n : Nat) (p : List Int) (a b c d : Int) (hl : p.length ≤ 63) : ∃ e, exS T.G (callF T.G T.fn (n+1)) l2__law_great false (gE p (.bor (.L ((kinds a b c d).map pD))) (.own (.L [])) none none none none none none none none none none) = .next e ∧ ∃ p' rs v3 v4 v5 v6 v7, e = gE p' (.bor (.L ((kinds a b c d).map pD))) (.own (.L rs)) (fsl v3) (fsl v4) (fsl v5) (fsl v6) (fsl v7) none none none none none ∧ p'.length ≤ 63 ∧ (∀ x ∈ rs, T3 x) ∧ rs.length = 5 := by
  have hh := hotG
  unfold l2__law_great
  refine for_run (xs := [Kd.fl, .ce, .ne, .ev, .ze].map pD) (is := []) (e := gE p (.bor (.L ((kinds a b c d).map pD))) (.own (.L [])) none none none none none none none none none none) (fun pre e => ∃ p' rs v3 v4 v5 v6 v7, e = gE p' (.bor (.L ((kinds a b c d).map pD))) (.own (.L rs)) (fsl v3) (fsl v4) (fsl v5) (fsl v6) (fsl v7) none none none none none ∧ p'.length ≤ 63 ∧ (∀ x ∈ rs, T3 x) ∧ rs.length = pre.length) (by rfl) ⟨p, [], none, none, none, none, none, rfl, hl, by simp, rfl⟩ ?_ ?_
  · rintro pre x post e hx ⟨p0, rs, v3, v4, v5, v6, v7, rfl, q0, f1, f2⟩
    have hx2 : x ∈ [Kd.fl, .ce, .ne, .ev, .ze].map pD := by rw [hx]; simp
    have hp : pre.length ≤ 5 := by
      have := congrArg List.length hx
      rw [List.length_append] at this
      simp at this
      omega
    obtain ⟨k, km, rfl⟩ := List.mem_map.mp hx2
    have hb : k.bd = false := by
      simp at km
      rcases km with h | h | h | h | h <;> subst h <;> rfl
    generalize (kinds a b c d).map pD = ksD at *
    obtain ⟨u1, p1, e1, a1, b1, q1⟩ := take_spec n false 5 p0 q0 (by decide) (by decide)
    obtain ⟨m, w1, m0, m1⟩ : ∃ m, atI [D.int 1000000000, .int 1000, .int 1000000000000000000, .int 1000000, .int 60] u1 = some (.int m) ∧ 0 < m ∧ m ≤ 1000000000000000000 := by
      rcases (show u1 = 0 ∨ u1 = 1 ∨ u1 = 2 ∨ u1 = 3 ∨ u1 = 4 by omega) with h | h | h | h | h <;> subst h
      · exact ⟨_, rfl, by decide, by decide⟩
      · exact ⟨_, rfl, by decide, by decide⟩
      · exact ⟨_, rfl, by decide, by decide⟩
      · exact ⟨_, rfl, by decide, by decide⟩
      · exact ⟨_, rfl, by decide, by decide⟩
    obtain ⟨u2, p2, e2, a2, b2, q2⟩ := take_spec n false m p1 q1 m0 (divB_of m0 (by omega))
    obtain ⟨dn, hdn⟩ : ∃ dn, dn = m - u2 := ⟨_, rfl⟩
    have d0 : 0 < dn := by omega
    have d1 : dn ≤ 1000000000000000000 := by omega
    have dB : divB dn = true := divB_of d0 (by omega)
    obtain ⟨M, hM⟩ : ∃ M, M = 1000000000000000000 / dn := ⟨_, rfl⟩
    have M0 : 0 < M := by
      have : 1 ≤ M := by rw [hM]; exact (Int.le_ediv_iff_mul_le d0).mpr (by omega)
      omega
    have M1 : M ≤ 1000000000000000000 := by rw [hM]; exact Int.ediv_le_self _ (by decide)
    have M2 : dn * M ≤ 1000000000000000000 := by rw [hM]; exact Int.mul_ediv_self_le (by omega)
    obtain ⟨u3, p3, e3, a3, b3, q3⟩ := take_spec n false M p2 q2 M0 (divB_of M0 (by omega))
    obtain ⟨u4, p4, e4, a4, b4, q4⟩ := take_spec n false 5 p3 q3 (by decide) (by decide)
    obtain ⟨w, w4, w40, w41⟩ : ∃ w, atI [D.int 0, .int 1, .int 2, .int (dn / 2), .int ((dn + 1) / 2)] u4 = some (.int w) ∧ 0 ≤ w ∧ w ≤ dn + 1 := by
      rcases (show u4 = 0 ∨ u4 = 1 ∨ u4 = 2 ∨ u4 = 3 ∨ u4 = 4 by omega) with h | h | h | h | h <;> subst h
      · exact ⟨_, rfl, by omega, by omega⟩
      · exact ⟨_, rfl, by omega, by omega⟩
      · exact ⟨_, rfl, by omega, by omega⟩
      · exact ⟨_, rfl, by omega, by omega⟩
      · exact ⟨_, rfl, by omega, by omega⟩
    obtain ⟨u5, p5, e5, a5, b5, q5⟩ := take_spec n false 2 p4 q4 (by decide) (by decide)
    obtain ⟨tp, htp⟩ : ∃ tp, tp = dn * (M - u3) := ⟨_, rfl⟩
    have t0 : dn ≤ tp := by
      rw [htp]
      have := Int.mul_le_mul_of_nonneg_left (show 1 ≤ M - u3 by omega) (show 0 ≤ dn by omega)
      omega
    have t1 : tp ≤ 1000000000000000000 := by
      rw [htp]
      have := Int.mul_le_mul_of_nonneg_left (show M - u3 ≤ M by omega) (show 0 ≤ dn by omega)
      omega
    have mB1 : mulB dn (M - u3) = true := mulB_l (by omega) (by omega)
    have mB2 : ∀ x, mulB x (1 - 2 * u5) = true := fun x => mulB_r (by omega) (by omega)
    have mB3 : mulB 2 u5 = true := mulB_l (by decide) (by decide)
    have dB2 : divB 2 = true := by decide
    have pw9 : powB 10 9 = true := by decide +kernel
    have pw3 : powB 10 3 = true := by decide +kernel
    have pw18 : powB 10 18 = true := by decide +kernel
    have pw6 : powB 10 6 = true := by decide +kernel
    have hAsk : Ask k dn ((tp - w) * (1 - 2 * u5)) := by
      have := @sgn u5 (tp - w) a5 b5
      exact ask_round hb d0 d1 (by omega) (by omega)
    have hl2 : rs.length < 16777216 := by omega
    refine ⟨gE p0 (.bor (.L ksD)) (.own (.L rs)) (some (.v (pD k))) (fsl v4) (fsl v5) (fsl v6) (fsl v7) none none none none none, gE p5 (.bor (.L ksD)) (.own (.L (rs ++ [.tup [pD k, .int dn, .int ((tp - w) * (1 - 2 * u5))]]))) (some (.v (pD k))) (some (.v (.int m))) (some (.v (.int dn))) (some (.v (.int M))) (some (.v (.int (tp - w)))) none none none none none, ?_, ?_, p5, rs ++ [.tup [pD k, .int dn, .int ((tp - w) * (1 - 2 * u5))]], some (pD k), some (.int m), some (.int dn), some (.int M), some (.int (tp - w)), rfl, q5, ?_, ?_⟩
    · unfold gE
      walk_at "kx"
    · unfold gE
      clear hx hx2 km f1 f2 hAsk a1 b1 a2 b2 a3 b3 a4 b4 a5 b5 q0 q1 q2 q3 q4 q5 t0 t1 w40 w41 M1 M2 M0 d0 d1 m0 m1 hb
      replace hdn := hdn.symm
      replace hM := hM.symm
      replace htp := htp.symm
      walk_at "kx"
    · intro x hx
      rcases List.mem_append.mp hx with h | h
      · exact f1 x h
      · simp at h
        exact ⟨k, dn, _, h, hAsk⟩
    · rw [List.length_append, List.length_append, f2]; rfl
  · rintro e ⟨p', rs, v3, v4, v5, v6, v7, rfl, f0, f1, f2⟩
    exact ⟨_, rfl, p', rs, v3, v4, v5, v6, v7, rfl, f0, f1, f2⟩
theorem great_tail (n : Nat) (p : List Int) (ks : S) (rows : List D) (v3 v4 v5 v6 v7 v8 v9 v10 v11 : Option D) (hr : ∀ x ∈ rows, T3 x) (hn : rows.length ≤ 1000) : ∃ e, exS T.G (callF T.G T.fn (n+1)) l1__law_great false (gE p ks (.own (.L rows)) (fsl v3) (fsl v4) (fsl v5) (fsl v6) (fsl v7) (fsl v8) (fsl v9) (fsl v10) (fsl v11) (some (.own (.L [])))) = .next e ∧ ∃ fs v3 v4 v5 v6 v7 v8 v9 v10 v11, e = gE p ks (.own (.L rows)) v3 v4 v5 v6 v7 v8 v9 v10 v11 (some (.own (.L fs))) ∧ (∀ x ∈ fs, RowOk x) ∧ fs.length = rows.length := by
  have hh := hotG
  unfold l1__law_great
  refine for_run (xs := rows) (is := [2]) (e := gE p ks (.own (.L rows)) (fsl v3) (fsl v4) (fsl v5) (fsl v6) (fsl v7) (fsl v8) (fsl v9) (fsl v10) (fsl v11) (some (.own (.L [])))) (fun pre e => ∃ fs v3 v5 v7, e = gE p ks (.lk (.L rows)) (fsl v3) (fsl v4) (fsl v5) (fsl v6) (fsl v7) (fsl v8) (fsl v9) (fsl v10) (fsl v11) (some (.own (.L fs))) ∧ (∀ x ∈ fs, RowOk x) ∧ fs.length = pre.length) rfl ⟨[], v3, v5, v7, rfl, by simp, rfl⟩ ?_ ?_
  · rintro pre x post e hx ⟨fs, v3, v5, v7, rfl, f1, f2⟩
    have hp : pre.length ≤ 1000 := by
      have := congrArg List.length hx
      rw [List.length_append] at this
      omega
    obtain ⟨k, d, t, rfl, ha⟩ := hr x (by rw [hx]; simp)
    have hc := set2_ok n k d t ha
    have hl2 : fs.length < 16777216 := by omega
    refine ⟨gE p ks (.lk (.L rows)) (some (.v (pD k))) (fsl v4) (some (.v (.int d))) (fsl v6) (some (.v (.int t))) (fsl v8) (fsl v9) (fsl v10) (fsl v11) (some (.own (.L fs))), gE p ks (.lk (.L rows)) (some (.v (pD k))) (fsl v4) (some (.v (.int d))) (fsl v6) (some (.v (.int t))) (fsl v8) (fsl v9) (fsl v10) (fsl v11) (some (.own (.L (fs ++ [rD k d t])))), ?_, ?_, fs ++ [rD k d t], some (pD k), some (.int d), some (.int t), rfl, ?_, ?_⟩
    · unfold gE
      clear hx hr f1 f2
      walk_at "kx"
    · unfold gE rD
      clear hx hr f1 f2
      walk_at "kx"
    · intro x hx
      rcases List.mem_append.mp hx with h | h
      · exact f1 x h
      · simp at h
        exact ⟨k, d, t, h, ha⟩
    · rw [List.length_append, List.length_append, f2]; rfl
  · rintro e ⟨fs, v3, v5, v7, rfl, f1, f2⟩
    exact ⟨_, rfl, fs, _, _, _, _, _, _, _, _, _, rfl, f1, f2⟩
theorem great_ok (n : Nat) (p : List Int) (a b c d : Int) (hl : p.length ≤ 63) (hk : ∀ k ∈ kinds a b c d, SK k) : ∃ p' fs, callF T.G T.fn (n+2) false "_law_great" [.bor (.L (iL p)), .bor (.L ((kinds a b c d).map pD))] = .ok (.own (.L fs)) [.L (iL p'), .L ((kinds a b c d).map pD)] ∧ (∀ x ∈ fs, RowOk x) ∧ fs.length = 9 ∧ p'.length ≤ 63 := by
  have hh := hotG
  obtain ⟨e, hf, p0, rs, v3, v4, v5, v6, v7, rfl, q0, f1, f2⟩ := great_loop n p a b c d hl
  obtain ⟨u1, p1, e1, a1, b1, q1⟩ := take_spec n false 1000000001 p0 q0 (by decide) (by decide)
  obtain ⟨u2, p2, e2, a2, b2, q2⟩ := take_spec n false 1000000001 p1 q1 (by decide) (by decide)
  obtain ⟨u3, p3, e3, a3, b3, q3⟩ := take_spec n false 1000000000000000000 p2 q2 (by decide) (by decide)
  obtain ⟨u4, p4, e4, a4, b4, q4⟩ := take_spec n false 2 p3 q3 (by decide) (by decide)
  obtain ⟨u5, p5, e5, a5, b5, q5⟩ := take_spec n false 81 p4 q4 (by decide) (by decide)
  have hsz := @sgn u4 (1000000000000000000 - u3) a4 b4
  obtain ⟨sz, hs⟩ : ∃ sz, sz = (1000000000000000000 - u3) * (1 - 2 * u4) := ⟨_, rfl⟩
  rw [← hs] at hsz
  have hk5 : SK (.cl (-a) b) := hk _ (by simp [kinds])
  have hk6 : SK (.wr (-c) d) := hk _ (by simp [kinds])
  obtain ⟨k51, k52, k53, k54⟩ := hk5
  obtain ⟨k61, k62, k63, k64⟩ := hk6
  simp only [Kd.lo, Kd.hi] at k51 k52 k53 k54 k61 k62 k63 k64
  have hr : ∀ x ∈ rs ++ [D.tup [pD (.cl (u1 - 1000000000) (1000000000 - u2)), .int 1, .int ((u5 + 47) % 81 - 40)]] ++ [D.tup [pD (.wr (u1 - 1000000000) (1000000000 - u2)), .int 1, .int sz]] ++ [D.tup [pD (.cl (-a) b), .int 1, .int sz]] ++ [D.tup [pD (.wr (-c) d), .int 1, .int (-sz)]], T3 x := by
    intro x hx
    simp only [List.mem_append, List.mem_singleton] at hx
    rcases hx with (((h | h) | h) | h) | h
    · exact f1 x h
    · exact ⟨_, _, _, h, ⟨by simp only [Kd.lo]; omega, by simp only [Kd.lo]; omega, by simp only [Kd.hi]; omega, by simp only [Kd.hi]; omega⟩, rfl, by decide, by omega, by omega, .inr (.inr (by omega))⟩
    · exact ⟨_, _, _, h, ⟨by simp only [Kd.lo]; omega, by simp only [Kd.lo]; omega, by simp only [Kd.hi]; omega, by simp only [Kd.hi]; omega⟩, rfl, by decide, by omega, by omega, .inl rfl⟩
    · exact ⟨_, _, _, h, ⟨by simp only [Kd.lo]; omega, by simp only [Kd.lo]; omega, by simp only [Kd.hi]; omega, by simp only [Kd.hi]; omega⟩, rfl, by decide, by omega, by omega, .inr (.inl (by simp only [Kd.lo, Kd.hi]; omega))⟩
    · exact ⟨_, _, _, h, ⟨by simp only [Kd.lo]; omega, by simp only [Kd.lo]; omega, by simp only [Kd.hi]; omega, by simp only [Kd.hi]; omega⟩, rfl, by decide, by omega, by omega, .inl rfl⟩
  obtain ⟨e, hf2, fs, w3, w4, w5, w6, w7, w8, w9, w10, w11, rfl, g1, g2⟩ := great_tail n p5 (.bor (.L ((kinds a b c d).map pD))) _ v3 v4 v5 v6 v7 (some (.int (u1 - 1000000000))) (some (.int (1000000000 - u2))) (some (.int sz)) (some (.int ((u5 + 47) % 81 - 40))) hr (by simp [f2])
  have g3 : fs.length = 9 := by rw [g2]; simp [f2]
  refine ⟨p5, fs, ?_, g1, g3, q5⟩
  refine (callF_run fn__law_great rfl rfl (E := [some (.bor (.L (iL p))), some (.bor (.L ((kinds a b c d).map pD))), none, none, none, none, none, none, none, none, none, none, none]) (r := .ret (.sl 12) (gE p5 (.bor (.L ((kinds a b c d).map pD))) (.own (.L (rs ++ [D.tup [pD (.cl (u1 - 1000000000) (1000000000 - u2)), .int 1, .int ((u5 + 47) % 81 - 40)]] ++ [D.tup [pD (.wr (u1 - 1000000000) (1000000000 - u2)), .int 1, .int sz]] ++ [D.tup [pD (.cl (-a) b), .int 1, .int sz]] ++ [D.tup [pD (.wr (-c) d), .int 1, .int (-sz)]]))) w3 w4 w5 w6 w7 w8 w9 w10 w11 (some (.own (.L fs))))) ?_).trans rfl
  simp only [f__law_great]
  have mB2 : ∀ x, mulB x (1 - 2 * u4) = true := fun x => mulB_r (by omega) (by omega)
  have mB3 : mulB 2 u4 = true := mulB_l (by decide) (by decide)
  have pw9 : powB 10 9 = true := by decide +kernel
  have pw18 : powB 10 18 = true := by decide +kernel
  have f3 : rs.length < 16777216 := by omega
  have f4 : rs.length + 1 < 16777216 := by omega
  have f5 : rs.length + 1 + 1 < 16777216 := by omega
  have f6 : rs.length + 1 + 1 + 1 < 16777216 := by omega
  replace hs := hs.symm
  clear hr g1 g2 g3 f1 hk k51 k52 k53 k54 k61 k62 k63 k64 a1 b1 a2 b2 a3 b3 a4 b4 a5 b5 q0 q1 q2 q3 q4 q5 hsz hl
  revert hf hf2
  induction l2__law_great using gen_sx with | h F => ?_
  induction l1__law_great using gen_sx with | h F2 => ?_
  intro hf hf2
  have i5 : atI ((kinds a b c d).map pD) 5 = some (pD (.cl (-a) b)) := rfl
  have i6 : atI ((kinds a b c d).map pD) 6 = some (pD (.wr (-c) d)) := rfl
  unfold gE at *
  generalize (kinds a b c d).map pD = ksD at *
  simp only [pD, Kd.nm, Kd.lo, Kd.hi, List.append_assoc, List.cons_append, List.nil_append, ← fsl_so] at hf2 i5 i6 ⊢
  walk_at "kx"
end L24
end
section
set_option Elab.async false
set_option linter.all false
set_option maxRecDepth 100000
set_option maxHeartbeats 4000000
namespace L24
open PySem PySem.Spec PyProof.Rows L2 Ky
local macro_rules | `(tactic| walk_at "ky") => `(tactic| simp [exSs, exS, ev, evs, evT, evO, evI, bind_ok, bind_exc, bind_bad, to_ok, to_exc, to_bad, of_so, of_no, nx_ok, dat_v, dat_own, dat_sl, sdat_v, sdat_own, sdat_bor, sdat_lk, sdat_ro, odat_L, odat_I, frz_v, frz_own, frz_sl, frzs_nil, frzs_cons, toS_v, toS_own, toS_sl, snx_so, snx_no, isi_non_int, isi_non_bool, isi_non_str, isi_non_list, isi_non_tuple, isi_non_cl, isi_bl_int, isi_bl_bool, isi_bl_str, isi_bl_list, isi_bl_tuple, isi_bl_cl, isi_int_int, isi_int_bool, isi_int_str, isi_int_list, isi_int_tuple, isi_int_cl, isi_str_int, isi_str_bool, isi_str_str, isi_str_list, isi_str_tuple, isi_str_cl, isi_tup_int, isi_tup_bool, isi_tup_str, isi_tup_list, isi_tup_tuple, isi_tup_cl, isi_lst_int, isi_lst_bool, isi_lst_str, isi_lst_list, isi_lst_tuple, isi_lst_cl, isi_scr_int, isi_scr_bool, isi_scr_str, isi_scr_list, isi_scr_tuple, isi_scr_cl, isi_ins_int, isi_ins_bool, isi_ins_str, isi_ins_list, isi_ins_tuple, isi_ins_cl, fin, outs, cmpR, cmpD, eqD, biD, lenD, lim, binD, augD, negD, truD, ixD, mutD, put_pok, pok_no, pok_v, pok_own, pok_ro, pok_fsl, isLs, at_hot, at_cst, at_prop, at_meth, at_ccon, at_eqm, at_dct, at_sub, at_cl, at_gl, at_bl, at_flds, at_exc, at_kws, at_xcl, at_lf, hotB, asgT, callR, lends, lend, ndN, slOf, borN, back, argsE, setK, kindS, lose, lks, lock, lock1, unlock, unlock1, itemsD, loopF_nil, loopF_cons, inD_tup, inD_iL, flatD, eqF, rngI_iL, rgR_t, rgR_f, mkC, dropX, List.filterMap_cons, List.filterMap_nil, atI_0, atI_1, atI_2, atI_3, atI_4, iL_nil, iL_len, intsD_iL, List.lookup_cons, List.lookup_nil, ne_floor_ceil, ne_floor_near, ne_floor_even, ne_floor_zero, ne_floor_clip, ne_floor_wrap, ne_ceil_floor, ne_ceil_near, ne_ceil_even, ne_ceil_zero, ne_ceil_clip, ne_ceil_wrap, ne_near_floor, ne_near_ceil, ne_near_even, ne_near_zero, ne_near_clip, ne_near_wrap, ne_even_floor, ne_even_ceil, ne_even_near, ne_even_zero, ne_even_clip, ne_even_wrap, ne_zero_floor, ne_zero_ceil, ne_zero_near, ne_zero_even, ne_zero_clip, ne_zero_wrap, ne_clip_floor, ne_clip_ceil, ne_clip_near, ne_clip_even, ne_clip_zero, ne_clip_wrap, ne_wrap_floor, ne_wrap_ceil, ne_wrap_near, ne_wrap_even, ne_wrap_zero, ne_wrap_clip, ne_name_low, ne_name_high, ne_name_is_round, ne_name_count, ne_low_name, ne_low_high, ne_low_is_round, ne_low_count, ne_high_name, ne_high_low, ne_high_is_round, ne_high_count, ne_is_round_name, ne_is_round_low, ne_is_round_high, ne_is_round_count, ne_count_name, ne_count_low, ne_count_high, ne_count_is_round, bq_name_low, bq_name_high, bq_name_is_round, bq_name_count, bq_low_name, bq_low_high, bq_low_is_round, bq_low_count, bq_high_name, bq_high_low, bq_high_is_round, bq_high_count, bq_is_round_name, bq_is_round_low, bq_is_round_high, bq_is_round_count, bq_count_name, bq_count_low, bq_count_high, bq_count_is_round, bq_floor_ceil, bq_floor_near, bq_floor_even, bq_floor_zero, bq_floor_clip, bq_floor_wrap, bq_ceil_floor, bq_ceil_near, bq_ceil_even, bq_ceil_zero, bq_ceil_clip, bq_ceil_wrap, bq_near_floor, bq_near_ceil, bq_near_even, bq_near_zero, bq_near_clip, bq_near_wrap, bq_even_floor, bq_even_ceil, bq_even_near, bq_even_zero, bq_even_clip, bq_even_wrap, bq_zero_floor, bq_zero_ceil, bq_zero_near, bq_zero_even, bq_zero_clip, bq_zero_wrap, bq_clip_floor, bq_clip_ceil, bq_clip_near, bq_clip_even, bq_clip_zero, bq_clip_wrap, bq_wrap_floor, bq_wrap_ceil, bq_wrap_near, bq_wrap_even, bq_wrap_zero, bq_wrap_clip, *])
local macro_rules | `(tactic| walk_at "kx") => `(tactic| simp [exSs, exS.eq_1, exS.eq_2, exS.eq_3, exS.eq_4, exS.eq_5, exS.eq_6, exS.eq_7, exS.eq_8, exS.eq_9, exS.eq_10, exS.eq_13, exS.eq_14, exS.eq_15, exS.eq_16, exS.eq_17, exS.eq_18, ev.eq_1, ev.eq_2, ev.eq_3, ev.eq_4, ev.eq_5, ev.eq_6, ev.eq_7, ev.eq_8, ev.eq_9, ev.eq_10, ev.eq_11, ev.eq_12, ev.eq_13, ev.eq_14, ev.eq_15, ev.eq_16, ev.eq_17, ev.eq_18, ev.eq_19, ev.eq_20, ev.eq_21, ev.eq_22, ev.eq_23, ev.eq_24, ev.eq_25, ev.eq_26, ev.eq_27, ev.eq_29, ev.eq_30, ev.eq_31, ev.eq_32, ev.eq_33, ev.eq_34, ev.eq_35, evs, evT, evO, evI, bind_ok, bind_exc, bind_bad, to_ok, to_exc, to_bad, of_so, of_no, nx_ok, dat_v, dat_own, dat_sl, sdat_v, sdat_own, sdat_bor, sdat_lk, sdat_ro, odat_L, odat_I, frz_v, frz_own, frz_sl, frzs_nil, frzs_cons, toS_v, toS_own, toS_sl, snx_so, snx_no, isi_non_int, isi_non_bool, isi_non_str, isi_non_list, isi_non_tuple, isi_non_cl, isi_bl_int, isi_bl_bool, isi_bl_str, isi_bl_list, isi_bl_tuple, isi_bl_cl, isi_int_int, isi_int_bool, isi_int_str, isi_int_list, isi_int_tuple, isi_int_cl, isi_str_int, isi_str_bool, isi_str_str, isi_str_list, isi_str_tuple, isi_str_cl, isi_tup_int, isi_tup_bool, isi_tup_str, isi_tup_list, isi_tup_tuple, isi_tup_cl, isi_lst_int, isi_lst_bool, isi_lst_str, isi_lst_list, isi_lst_tuple, isi_lst_cl, isi_scr_int, isi_scr_bool, isi_scr_str, isi_scr_list, isi_scr_tuple, isi_scr_cl, isi_ins_int, isi_ins_bool, isi_ins_str, isi_ins_list, isi_ins_tuple, isi_ins_cl, fin, outs, cmpR, cmpD, eqD, biD, lenD, lim, binD, augD, negD, truD, ixD, mutD, put_pok, pok_no, pok_v, pok_own, pok_ro, pok_fsl, isLs, at_hot, at_cst, at_prop, at_meth, at_ccon, at_eqm, at_dct, at_sub, at_cl, at_gl, at_bl, at_flds, at_exc, at_kws, at_xcl, at_lf, hotB, asgT, callR, lends, lend, ndN, slOf, borN, back, argsE, setK, kindS, lose, lks, lock, lock1, unlock, unlock1, itemsD, inD_tup, inD_iL, flatD, eqF, rngI_iL, rgR_t, rgR_f, mkC, dropX, List.filterMap_cons, List.filterMap_nil, atI_0, atI_1, atI_2, atI_3, atI_4, iL_nil, iL_len, intsD_iL, plainAt, wipeE, restE, List.lookup_cons, List.lookup_nil, ne_floor_ceil, ne_floor_near, ne_floor_even, ne_floor_zero, ne_floor_clip, ne_floor_wrap, ne_ceil_floor, ne_ceil_near, ne_ceil_even, ne_ceil_zero, ne_ceil_clip, ne_ceil_wrap, ne_near_floor, ne_near_ceil, ne_near_even, ne_near_zero, ne_near_clip, ne_near_wrap, ne_even_floor, ne_even_ceil, ne_even_near, ne_even_zero, ne_even_clip, ne_even_wrap, ne_zero_floor, ne_zero_ceil, ne_zero_near, ne_zero_even, ne_zero_clip, ne_zero_wrap, ne_clip_floor, ne_clip_ceil, ne_clip_near, ne_clip_even, ne_clip_zero, ne_clip_wrap, ne_wrap_floor, ne_wrap_ceil, ne_wrap_near, ne_wrap_even, ne_wrap_zero, ne_wrap_clip, ne_name_low, ne_name_high, ne_name_is_round, ne_name_count, ne_low_name, ne_low_high, ne_low_is_round, ne_low_count, ne_high_name, ne_high_low, ne_high_is_round, ne_high_count, ne_is_round_name, ne_is_round_low, ne_is_round_high, ne_is_round_count, ne_count_name, ne_count_low, ne_count_high, ne_count_is_round, bq_name_low, bq_name_high, bq_name_is_round, bq_name_count, bq_low_name, bq_low_high, bq_low_is_round, bq_low_count, bq_high_name, bq_high_low, bq_high_is_round, bq_high_count, bq_is_round_name, bq_is_round_low, bq_is_round_high, bq_is_round_count, bq_count_name, bq_count_low, bq_count_high, bq_count_is_round, bq_floor_ceil, bq_floor_near, bq_floor_even, bq_floor_zero, bq_floor_clip, bq_floor_wrap, bq_ceil_floor, bq_ceil_near, bq_ceil_even, bq_ceil_zero, bq_ceil_clip, bq_ceil_wrap, bq_near_floor, bq_near_ceil, bq_near_even, bq_near_zero, bq_near_clip, bq_near_wrap, bq_even_floor, bq_even_ceil, bq_even_near, bq_even_zero, bq_even_clip, bq_even_wrap, bq_zero_floor, bq_zero_ceil, bq_zero_near, bq_zero_even, bq_zero_clip, bq_zero_wrap, bq_clip_floor, bq_clip_ceil, bq_clip_near, bq_clip_even, bq_clip_zero, bq_clip_wrap, bq_wrap_floor, bq_wrap_ceil, bq_wrap_near, bq_wrap_even, bq_wrap_zero, bq_wrap_clip, *])
def lE (ns p : List Int) (ks : S) (rows : List D) (v4 v5 v6 v7 v8 v9 v10 v11 v12 : Option S) : Ky.Env := [some (.v (.scr ns)), some (.own (.L (iL p))), some ks, some (.own (.L rows)), v4, v5, v6, v7, v8, v9, v10, v11, v12]
theorem row_loop (n : Nat) (ns p : List Int) (a b c d : Int) (rows : List D) (v4 v5 : Option D) (hl : p.length ≤ 63) (hk : ∀ k ∈ kinds a b c d, SK k) (hr : ∀ x ∈ rows, RowOk x) (hn : rows.length = 42) :
    ∃ e, exS T.G (callF T.G T.fn (n+5)) l3_law false (lE ns p (.own (.L ((kinds a b c d).map pD))) rows (fsl v4) (fsl v5) none none none none none none none) = .next e ∧ ∃ p' v6 v7 v8 v9, e = lE ns p' (.own (.L ((kinds a b c d).map pD))) rows (fsl v4) (fsl v5) (fsl v6) (fsl v7) (fsl v8) (fsl v9) none none none ∧ p'.length ≤ 63 := by
  have hh := hotG
  obtain ⟨p', fs, hg, g1, g2, q1⟩ := great_ok (n+3) p a b c d hl hk
  unfold l3_law
  generalize (kinds a b c d).map pD = ksD at *
  refine for_keep (xs := rows ++ fs) (is := []) (e := lE ns p' (.own (.L ksD)) rows (fsl v4) (fsl v5) none none none none none none none) (fun e => ∃ v6 v7 v8 v9, e = lE ns p' (.own (.L ksD)) rows (fsl v4) (fsl v5) (fsl v6) (fsl v7) (fsl v8) (fsl v9) none none none) ?_ ⟨none, none, none, none, rfl⟩ ?_ ?_
  · unfold lE
    have f3 : rows.length + fs.length ≤ 16777216 := by omega
    clear hr g1
    walk_at "kx"
  · rintro x e hx ⟨v6, v7, v8, v9, rfl⟩
    have hx2 : RowOk x := by
      rcases List.mem_append.mp hx with h | h
      · exact hr x h
      · exact g1 x h
    obtain ⟨k, d, t, rfl, ha⟩ := hx2
    have c1 := kind_ok (n+3) k ha.1
    have c2 := set_ok n k d t ha
    have c3 := row_ok (n+3) _ (cset_len ha)
    refine ⟨lE ns p' (.own (.L ksD)) rows (fsl v4) (fsl v5) (some (.v (pD k))) (some (.v (.int d))) (some (.v (.int t))) (some (.v (.lst (iL (cset k d t))))) none none none, lE ns p' (.own (.L ksD)) rows (fsl v4) (fsl v5) (some (.v (pD k))) (some (.v (.int d))) (some (.v (.int t))) (some (.v (.lst (iL (cset k d t))))) none none none, ?_, ?_, some (pD k), some (.int d), some (.int t), some (.lst (iL (cset k d t))), rfl⟩
    · unfold lE rD
      clear hx hr g1
      walk_at "kx"
    · unfold lE
      clear hx hr g1
      walk_at "kx"
  · rintro e ⟨v6, v7, v8, v9, rfl⟩
    exact ⟨_, rfl, p', v6, v7, v8, v9, rfl, q1⟩
theorem refl_loop (n : Nat) (ns p : List Int) (ks : S) (rows : List D) (v4 v5 v7 v8 v9 : Option D) (k k0 : Kd) (d0 t0 : Int) (dens : List Int) (hk : k.ok) (hd : ∀ d ∈ dens, k.dn d = false) :
    ∃ e, exS T.G (callF T.G T.fn (n+4)) l1_law false (lE ns p ks rows (fsl v4) (fsl v5) (some (.v (pD k))) (fsl v7) (fsl v8) (fsl v9) (some (.v (rD k0 d0 t0))) (some (.own (.L (iL dens)))) none) = .next e ∧ ∃ v7, e = lE ns p ks rows (fsl v4) (fsl v5) (some (.v (pD k))) (fsl v7) (fsl v8) (fsl v9) (some (.v (rD k0 d0 t0))) (some (.own (.L (iL dens)))) none := by
  have hh := hotG
  unfold l1_law
  refine for_keep (xs := iL dens) (is := [11]) (e := lE ns p ks rows (fsl v4) (fsl v5) (some (.v (pD k))) (fsl v7) (fsl v8) (fsl v9) (some (.v (rD k0 d0 t0))) (some (.own (.L (iL dens)))) none) (fun e => ∃ v7, e = lE ns p ks rows (fsl v4) (fsl v5) (some (.v (pD k))) (fsl v7) (fsl v8) (fsl v9) (some (.v (rD k0 d0 t0))) (some (.lk (.L (iL dens)))) none) rfl ⟨v7, rfl⟩ ?_ ?_
  · rintro x e hx ⟨v7, rfl⟩
    obtain ⟨d, rfl, hm⟩ := iL_mem hx
    have c1 := refused_ok n k d t0 hk (hd d hm)
    refine ⟨lE ns p ks rows (fsl v4) (fsl v5) (some (.v (pD k))) (some (.v (.int d))) (fsl v8) (fsl v9) (some (.v (rD k0 d0 t0))) (some (.lk (.L (iL dens)))) none, _, ?_, ?_, some (.int d), rfl⟩
    · unfold lE
      clear hx hd
      walk_at "kx"
    · unfold lE rD
      clear hx hd
      rw [← fsl_so]
      walk_at "kx"
  · rintro e ⟨v7, rfl⟩
    exact ⟨_, rfl, v7, rfl⟩
theorem dens_loop (n : Nat) (ns p : List Int) (kk : List Kd) (rows : List D) (bl ab : Int) (v6 v7 v8 v9 : Option D) (k0 : Kd) (d0 t0 : Int) (hk : ∀ k ∈ kk, SK k) (hb : bl < 1) (hab : 1 < ab) :
    ∃ e, exS T.G (callF T.G T.fn (n+4)) l2_law false (lE ns p (.own (.L (kk.map pD))) rows (fsl (some (.int bl))) (fsl (some (.int ab))) (fsl v6) (fsl v7) (fsl v8) (fsl v9) (some (.v (rD k0 d0 t0))) none none) = .next e ∧ ∃ v6 v7 v11, e = lE ns p (.own (.L (kk.map pD))) rows (fsl (some (.int bl))) (fsl (some (.int ab))) (fsl v6) (fsl v7) (fsl v8) (fsl v9) (some (.v (rD k0 d0 t0))) v11 none := by
  have hh := hotG
  unfold l2_law
  refine for_keep (xs := kk.map pD) (is := [2]) (e := lE ns p (.own (.L (kk.map pD))) rows (fsl (some (.int bl))) (fsl (some (.int ab))) (fsl v6) (fsl v7) (fsl v8) (fsl v9) (some (.v (rD k0 d0 t0))) none none) (fun e => ∃ v6 v7 v11, putOk (some v11) = true ∧ e = lE ns p (.lk (.L (kk.map pD))) rows (fsl (some (.int bl))) (fsl (some (.int ab))) (fsl v6) (fsl v7) (fsl v8) (fsl v9) (some (.v (rD k0 d0 t0))) v11 none) rfl ⟨v6, v7, none, rfl, rfl⟩ ?_ ?_
  · rintro x e hx ⟨v6, v7, v11, hv, rfl⟩
    obtain ⟨k, km, rfl⟩ := List.mem_map.mp hx
    have hk2 := hk k km
    have hok : k.ok := ⟨by have := hk2.1; omega, hk2.2.1, hk2.2.2.1, by have := hk2.2.2.2; omega⟩
    have pw18 : powB 10 18 = true := by decide +kernel
    obtain ⟨dl, hdl⟩ : ∃ dl : List Int, dl = (if k.bd = true then [0, bl, -1000000000000000000, ab, 1000000000000000000] else [0, bl, -1000000000000000000]) := ⟨_, rfl⟩
    obtain ⟨e, hi, w7, rfl⟩ := refl_loop n ns p (.lk (.L (kk.map pD))) rows (some (.int bl)) (some (.int ab)) v7 v8 v9 k k0 d0 t0 dl hok (by
      intro d hd
      rw [hdl] at hd
      unfold Kd.dn
      cases h : k.bd
      · rw [h] at hd; simp at hd; simp; omega
      · rw [h] at hd; simp at hd; simp; omega)
    refine ⟨lE ns p (.lk (.L (kk.map pD))) rows (fsl (some (.int bl))) (fsl (some (.int ab))) (some (.v (pD k))) (fsl v7) (fsl v8) (fsl v9) (some (.v (rD k0 d0 t0))) v11 none, lE ns p (.lk (.L (kk.map pD))) rows (fsl (some (.int bl))) (fsl (some (.int ab))) (some (.v (pD k))) (fsl w7) (fsl v8) (fsl v9) (some (.v (rD k0 d0 t0))) (some (.own (.L (iL dl)))) none, ?_, ?_, some (pD k), w7, some (.own (.L (iL dl))), pok_own, rfl⟩
    · unfold lE
      clear hx hi hk hdl
      walk_at "kx"
    · clear hx hk hk2 hok km
      revert hi
      induction l1_law using gen_sx with | h F => ?_
      intro hi
      unfold lE at *
      generalize kk.map pD = ksD at *
      generalize rD k0 d0 t0 = rr at *
      simp only [← fsl_so] at hi ⊢
      cases hb2 : k.bd
      · rw [hb2] at hdl
        subst hdl
        simp only [iL, List.map_cons, List.map_nil, Bool.false_eq_true, if_false] at hi ⊢
        cases k <;> first | (exact absurd hb2.symm Bool.false_ne_true) | (simp only [pD, Kd.nm, Kd.lo, Kd.hi] at hi ⊢; walk_at "kx")
      · rw [hb2] at hdl
        subst hdl
        simp only [iL, List.map_cons, List.map_nil, if_true] at hi ⊢
        cases k <;> first | (exact absurd hb2 Bool.false_ne_true) | (simp only [pD, Kd.nm, Kd.lo, Kd.hi] at hi ⊢; walk_at "kx")
  · rintro e ⟨v6, v7, v11, hv, rfl⟩
    exact ⟨_, rfl, v6, v7, v11, rfl⟩
theorem kws_0 : T.G.kws[0]? = some (("choice_set" : Str), 0, [("top" : Str), "kind", "den"], [1, 2, 0], []) := by kernel_rfl
theorem maths : ∀ ns : List Int, ns.length ≤ 63 → (∀ k ∈ ns, Builtin.Int.intBits k ≤ 1048576) → callF T.G T.fn 30 false "law" [.v (.scr ns)] = .ok (.v (.bl true)) [] := by
  intro ns hns _
  have hh := hotG
  obtain ⟨p0, hp, q0⟩ := pool_ok 28 ns hns
  obtain ⟨a, b, c, d, p1, hkd, hk, q1⟩ := kinds_ok 26 p0 q0
  obtain ⟨p2, rows, hsm, q2, hr, hn⟩ := small_ok 26 p1 (kinds a b c d) q1 hk rfl
  obtain ⟨u1, p3, e1, a1, b1, q3⟩ := take_spec 28 false 12 p2 q2 (by decide) (by decide)
  obtain ⟨u2, p4, e2, a2, b2, q4⟩ := take_spec 28 false 12 p3 q3 (by decide) (by decide)
  obtain ⟨e, hf1, p5, v6, v7, v8, v9, rfl, q5⟩ := row_loop 24 ns p4 a b c d rows (some (.int (-1 - u1))) (some (.int (2 + u2))) q4 hk hr hn
  obtain ⟨r0, rest, rfl⟩ : ∃ r0 rest, rows = r0 :: rest := by
    cases rows with
    | nil => exact absurd hn (by decide)
    | cons x y => exact ⟨x, y, rfl⟩
  obtain ⟨k0, d0, t0, rfl, ha⟩ := hr r0 List.mem_cons_self
  obtain ⟨e, hf2, w6, w7, v11, rfl⟩ := dens_loop 25 ns p5 (kinds a b c d) (rD k0 d0 t0 :: rest) (-1 - u1) (2 + u2) v6 v7 v8 v9 k0 d0 t0 hk (by omega) (by omega)
  have c1 := kind_ok 27 k0 ha.1
  have c2 := set_ok 24 k0 d0 t0 ha
  have c3 := row_ok 27 _ (cset_len ha)
  have c4 := kws_0
  have i0 : atI (rD k0 d0 t0 :: rest) 0 = some (rD k0 d0 t0) := by rw [atI_0]; rfl
  have i1 : ∀ j, ixD (rD k0 d0 t0) (.int j) = atI [pD k0, .int d0, .int t0, .lst (iL (cset k0 d0 t0))] j := fun _ => rfl
  refine (callF_run fn_law rfl rfl (E := [some (.v (.scr ns)), none, none, none, none, none, none, none, none, none, none, none, none]) (r := .ret (.v (.bl true)) (lE ns p5 (.own (.L ((kinds a b c d).map pD))) (rD k0 d0 t0 :: rest) (fsl (some (.int (-1 - u1)))) (fsl (some (.int (2 + u2)))) (fsl w6) (fsl w7) (fsl v8) (fsl v9) (some (.v (rD k0 d0 t0))) v11 (some (.v (.tup (iL (cset k0 d0 t0))))))) ?_).trans rfl
  simp only [f_law]
  simp only [Nat.reduceAdd] at hp hkd hsm e1 e2 hf1 hf2 c1 c2 c3
  clear hr hn hk ha q0 q1 q2 q3 q4 q5 a1 b1 a2 b2 hns
  revert hf1 hf2
  induction l3_law using gen_sx with | h F => ?_
  induction l2_law using gen_sx with | h F2 => ?_
  intro hf1 hf2
  unfold lE at *
  generalize (kinds a b c d).map pD = ksD at *
  simp only [← fsl_so] at hf1 hf2 ⊢
  unfold rD at *
  walk_at "kx"
end L24
end
section
set_option Elab.async false
set_option linter.all false
set_option maxRecDepth 100000
set_option maxHeartbeats 0
namespace L24
open PySem PySem.Spec PyProof.Rows L2 Ky
end L24
namespace L24
open PySem PySem.Spec PyProof.Rows L2 Ky
def loose0 : List Str := ["WebError", "BadText", "BadCount", "BadLength", "BadPlace", "BadKind", "Mismatch", "NotChosen", "FARTHEST", "Kind", "check_den", "rounded", "small_integer", "mirrored", "around_set", "even_set", "zero_set", "clip_ends", "clip_set", "wrap_set", "SETS", "floor_jump", "ceil_jump", "next_jump", "tried_shifts", "members_of", "choice_set", "_law_is_int", "_law_row", "_law_pool"]
def loose1 : List Str := ["_law_take", "_law_made", "_law_set", "_law_kind", "_law_bound", "_law_kinds", "_law_tried", "_law_small", "_law_great", "_law_refused"]
def loose : List Str := loose0 ++ loose1
abbrev R : PySem.W.OpenRow := PySem.W.OpenLaw.row PySem.Challenge.rw_wholefilters_k24_choice_sets_by_trying
abbrev hk : PySem.W.Hook := hookK PySem.Challenge.rw_wholefilters_k24_choice_sets_by_trying.prog T 8
def ob (s : PySem.W.SharedT) : Al := obsK PySem.Challenge.rw_wholefilters_k24_choice_sets_by_trying.prog T 8 (HandSHeadRun.getT s)
theorem ob_eq (s : PySem.W.SharedT) : ob s = hk.obs s.abs := obsK_eq (HandSHeadRun.getT_eq s)
theorem run0 (w : World) : HandSHeadRun.RunEq R (PySem.W.view R.prog [44]) hk ob 6000 loose (w.withFollow "special-get-raises" false) := by
  intro os
  kernel_rfl
theorem run1 (w : World) : HandSHeadRun.RunEq R (PySem.W.view R.prog [44]) hk ob 6000 loose (w.withFollow "special-get-raises" true) := by
  intro os
  kernel_rfl
theorem run (w : World) : HandSHeadRun.RunEq R (PySem.W.view R.prog [44]) hk ob 6000 loose w :=
  PySem.W.byRow2 "special-get-raises" (P := fun w => HandSHeadRun.RunEq R (PySem.W.view R.prog [44]) hk ob 6000 loose w) run0 run1 w
end L24
open PySem PySem.W PySem.Calls PyProof.Rows
theorem PySem.Challenge.cw_wholefilters_k24_choice_sets_by_trying_holds : PySem.Challenge.rw_wholefilters_k24_choice_sets_by_trying.Holds := by
  w_on; o_law
  refine HandSHeadRun.head_any (r := OpenLaw.row PySem.Challenge.rw_wholefilters_k24_choice_sets_by_trying) (q := view (OpenLaw.row PySem.Challenge.rw_wholefilters_k24_choice_sets_by_trying).prog [44]) (H := L24.hk) (ob := L24.ob) (M := 6000) (loose := L24.loose) (d := HandSHeadRun.topDef (OpenLaw.row PySem.Challenge.rw_wholefilters_k24_choice_sets_by_trying).prog 44) (kwd := []) L24.ob_eq
    (by kernel_rfl) (fun s => by kernel_rfl) L24.run (by kernel_rfl) (by kernel_rfl) (by kernel_rfl) (by rfl) (by first | assumption | decide +kernel) (by decide +kernel) ⟨rfl, rfl, rfl, rfl, rfl, by decide +kernel⟩ ?hw ?hc
  case hw => w_witness2
  case hc => exact Ky.law_end (l := PySem.Challenge.rw_wholefilters_k24_choice_sets_by_trying) (T := L24.T) (f := L24.f_law) rfl (by kernel_rfl) (by kernel_rfl) (by kernel_rfl) (by kernel_rfl) (by kernel_rfl) (by decide +kernel) L24.maths
end
