import PyProof.Rows.All
import Wide.All
import OpenK.AllK
import Wide.FinOn
import HandS.ForMost
import HandS.Exc
import HandS.HeadHook1
import HandS.WideBits
import HandS.SortInts
import HandS.TupAny
import HandS.ExcOwn
import HandS.WordsExc
import HandS.IsInst
import HandS.Style
import HandS.Conv
import HandS.ClsMeth
import HandS.TryOnly
import KE.KSuper
import HandS.Nested
import HandS.HeadHook2
import HandS.SetFor
import HandS.Ends
import HandS.HeadEnd
import HandS.Strs
import HandS.Dict
import HandS.Zip
import PySem.Challenge.RW_signsheets_k04_totals_of_large_words
import HandS.Head0
import HandS.Head1
import HandS.Head2
import KE.KStateDown
set_option Elab.async false
set_option linter.all false
set_option maxRecDepth 100000
set_option maxHeartbeats 4000000
namespace Sg
open PySem L2

/-! ### trees -/
inductive U where
  | non | bl (b : Bool) | int (i : Int) | str (s : Str) | ref (a : Addr)
  | lst (us : List U) | frl (us : List U) | tup (us : List U) | dic (kvs : List (Key × U)) | ins (c : Str) (fs : List (Str × U))

/-- scalars -/
def scV : U → Option V
  | .non => some .non
  | .bl b => some (.bl b)
  | .int i => some (.int i)
  | .str s => some (.str s)
  | .ref a => some (.ref a)
  | _ => none

mutual
def Rep (K : PySem.W.Frag) (B : Hp) : U → V → Prop
  | .non, v => v = .non
  | .bl b, v => v = .bl b
  | .int i, v => v = .int i
  | .str s, v => v = .str s
  | .ref a, v => v = .ref a
  | .lst us, v => ∃ a vs, v = .ref a ∧ B a = some (.lst vs) ∧ RepL K B us vs
  | .frl us, v => ∃ a vs, v = .ref a ∧ SqL K B a vs ∧ RepL K B us vs
  | .tup us, v => ∃ a vs, v = .ref a ∧ SqT K B a vs ∧ RepL K B us vs
  | .dic kvs, v => ∃ a ws, v = .ref a ∧ B a = some (.dK ws) ∧ RepD K B kvs ws
  | .ins c fs, v => ∃ a dx ws, v = .ref a ∧ B a = some (.ins (He.ga K c) dx ws) ∧ RepF K B fs ws
def RepL (K : PySem.W.Frag) (B : Hp) : List U → List V → Prop
  | [], vs => vs = []
  | u :: us, vs => ∃ v r, vs = v :: r ∧ Rep K B u v ∧ RepL K B us r
def RepD (K : PySem.W.Frag) (B : Hp) : List (Key × U) → List (Key × V) → Prop
  | [], ws => ws = []
  | (k, u) :: us, ws => ∃ v r, ws = (k, v) :: r ∧ Rep K B u v ∧ RepD K B us r
def RepF (K : PySem.W.Frag) (B : Hp) : List (Str × U) → List (Str × V) → Prop
  | [], ws => ws = []
  | (k, u) :: us, ws => ∃ v r, ws = (k, v) :: r ∧ Rep K B u v ∧ RepF K B us r
end

def Ex (H H' : Hp) : Prop := ∀ a o, H a = some o → H' a = some o
theorem Ex.refl {H : Hp} : Ex H H := fun _ _ h => h
theorem Ex.trans {H H1 H2 : Hp} (a : Ex H H1) (b : Ex H1 H2) : Ex H H2 := fun x o h => b x o (a x o h)
theorem Ex.new {H : Hp} {p : Addr} {o : HO} (h : H p = none) : Ex H (upd H p o) := fun a u e => by
  rw [upd_ne (ne_of_none e h)]; exact e
theorem Ex.none {H H' : Hp} {p : Addr} (e : Ex H H') (h : H' p = none) : H p = none := by
  cases q : H p with
  | none => rfl
  | some o => rw [e p o q] at h; cases h
theorem Ex.rd {H H' : Hp} {a : Addr} {u : HO} (e : Ex H H') (h : Rd H a u) : Rd H' a u := by
  rcases h with h | ⟨o, h⟩
  · exact .inl (e a _ h)
  · exact .inr ⟨o, e a _ h⟩
theorem Ex.l {K : PySem.W.Frag} {H H' : Hp} {a : Addr} {xs : List V} (e : Ex H H') (h : SqL K H a xs) : SqL K H' a xs := by
  rcases h with h | h
  · exact .inl (e.rd h)
  · exact .inr h
theorem Ex.t {K : PySem.W.Frag} {H H' : Hp} {a : Addr} {xs : List V} (e : Ex H H') (h : SqT K H a xs) : SqT K H' a xs := by
  rcases h with h | h
  · exact .inl (e.rd h)
  · exact .inr h

mutual
theorem Rep.mono {K : PySem.W.Frag} {B B' : Hp} (e : Ex B B') : ∀ (u : U) (v : V), Rep K B u v → Rep K B' u v
  | .non, _, h => h
  | .bl _, _, h => h
  | .int _, _, h => h
  | .str _, _, h => h
  | .ref _, _, h => h
  | .lst us, _, h => by
    obtain ⟨a, vs, h1, h2, h3⟩ := h
    exact ⟨a, vs, h1, e _ _ h2, RepL.mono e us vs h3⟩
  | .frl us, _, h => by
    obtain ⟨a, vs, h1, h2, h3⟩ := h
    exact ⟨a, vs, h1, e.l h2, RepL.mono e us vs h3⟩
  | .tup us, _, h => by
    obtain ⟨a, vs, h1, h2, h3⟩ := h
    exact ⟨a, vs, h1, e.t h2, RepL.mono e us vs h3⟩
  | .dic kvs, _, h => by
    obtain ⟨a, vs, h1, h2, h3⟩ := h
    exact ⟨a, vs, h1, e _ _ h2, RepD.mono e kvs vs h3⟩
  | .ins c fs, _, h => by
    obtain ⟨a, dx, vs, h1, h2, h3⟩ := h
    exact ⟨a, dx, vs, h1, e _ _ h2, RepF.mono e fs vs h3⟩
theorem RepL.mono {K : PySem.W.Frag} {B B' : Hp} (e : Ex B B') : ∀ (us : List U) (vs : List V), RepL K B us vs → RepL K B' us vs
  | [], _, h => h
  | u :: us, _, h => by
    obtain ⟨v, r, h1, h2, h3⟩ := h
    exact ⟨v, r, h1, Rep.mono e u v h2, RepL.mono e us r h3⟩
theorem RepD.mono {K : PySem.W.Frag} {B B' : Hp} (e : Ex B B') : ∀ (us : List (Key × U)) (vs : List (Key × V)), RepD K B us vs → RepD K B' us vs
  | [], _, h => h
  | (k, u) :: us, _, h => by
    obtain ⟨v, r, h1, h2, h3⟩ := h
    exact ⟨v, r, h1, Rep.mono e u v h2, RepD.mono e us r h3⟩
theorem RepF.mono {K : PySem.W.Frag} {B B' : Hp} (e : Ex B B') : ∀ (us : List (Str × U)) (vs : List (Str × V)), RepF K B us vs → RepF K B' us vs
  | [], _, h => h
  | (k, u) :: us, _, h => by
    obtain ⟨v, r, h1, h2, h3⟩ := h
    exact ⟨v, r, h1, Rep.mono e u v h2, RepF.mono e us r h3⟩
end

theorem scV_rep {K : PySem.W.Frag} {B B' : Hp} {u : U} {v z : V} (h : scV u = some z) (r : Rep K B u v) : v = z ∧ Rep K B' u v := by
  cases u <;> first | (cases h; exact ⟨r, r⟩) | cases h
theorem rep_sc {K : PySem.W.Frag} {B : Hp} {u : U} {z : V} (h : scV u = some z) : Rep K B u z := by
  cases u <;> first | (cases h; rfl) | cases h

theorem RepL.length {K : PySem.W.Frag} {B : Hp} : ∀ {us : List U} {vs : List V}, RepL K B us vs → vs.length = us.length
  | [], _, h => by cases h; rfl
  | u :: us, _, h => by
    obtain ⟨v, r, rfl, _, h3⟩ := h
    simp [RepL.length h3]
theorem RepL.get {K : PySem.W.Frag} {B : Hp} : ∀ {us : List U} {vs : List V} {i : Nat} {u : U}, RepL K B us vs → us[i]? = some u → ∃ v, vs[i]? = some v ∧ Rep K B u v
  | [], _, _, _, _, e => by simp at e
  | u :: us, _, 0, w, h, e => by
    obtain ⟨v, r, rfl, h2, _⟩ := h
    simp at e; subst e; exact ⟨v, rfl, h2⟩
  | u :: us, _, i + 1, w, h, e => by
    obtain ⟨v, r, rfl, _, h3⟩ := h
    obtain ⟨x, h4, h5⟩ := RepL.get (i := i) h3 (by simpa using e)
    exact ⟨x, by simpa using h4, h5⟩
theorem RepL.getV {K : PySem.W.Frag} {B : Hp} : ∀ {us : List U} {vs : List V} {i : Nat} {v : V}, RepL K B us vs → vs[i]? = some v → ∃ u, us[i]? = some u ∧ Rep K B u v
  | [], _, _, _, h, e => by cases h; simp at e
  | u :: us, _, 0, w, h, e => by
    obtain ⟨v, r, rfl, h2, _⟩ := h
    simp at e; subst e; exact ⟨u, rfl, h2⟩
  | u :: us, _, i + 1, w, h, e => by
    obtain ⟨v, r, rfl, _, h3⟩ := h
    obtain ⟨x, h4, h5⟩ := RepL.getV (i := i) h3 (by simpa using e)
    exact ⟨x, by simpa using h4, h5⟩
theorem RepL.append {K : PySem.W.Frag} {B : Hp} : ∀ {us us' : List U} {vs vs' : List V}, RepL K B us vs → RepL K B us' vs' → RepL K B (us ++ us') (vs ++ vs')
  | [], _, _, _, h, h' => by cases h; exact h'
  | u :: us, _, _, _, h, h' => by
    obtain ⟨v, r, rfl, h2, h3⟩ := h
    exact ⟨v, _, rfl, h2, RepL.append h3 h'⟩
theorem RepL.one {K : PySem.W.Frag} {B : Hp} {u : U} {v : V} (h : Rep K B u v) : RepL K B [u] [v] := ⟨v, [], rfl, h, rfl⟩
theorem RepL.set {K : PySem.W.Frag} {B : Hp} {u : U} {v : V} (q : Rep K B u v) : ∀ {us : List U} {vs : List V} (i : Nat), RepL K B us vs → RepL K B (us.set i u) (vs.set i v)
  | [], _, _, h => by cases h; exact rfl
  | w :: us, _, 0, h => by
    obtain ⟨x, r, rfl, _, h3⟩ := h
    exact ⟨v, r, rfl, q, h3⟩
  | w :: us, _, i + 1, h => by
    obtain ⟨x, r, rfl, h2, h3⟩ := h
    exact ⟨x, _, rfl, h2, RepL.set q i h3⟩
theorem RepL.take {K : PySem.W.Frag} {B : Hp} : ∀ {us : List U} {vs : List V} (n : Nat), RepL K B us vs → RepL K B (us.take n) (vs.take n)
  | _, _, 0, _ => by simp [RepL]
  | [], _, _ + 1, h => by cases h; simp [RepL]
  | w :: us, _, n + 1, h => by
    obtain ⟨x, r, rfl, h2, h3⟩ := h
    exact ⟨x, _, rfl, h2, RepL.take n h3⟩
theorem RepL.drop {K : PySem.W.Frag} {B : Hp} : ∀ {us : List U} {vs : List V} (n : Nat), RepL K B us vs → RepL K B (us.drop n) (vs.drop n)
  | _, _, 0, h => h
  | [], _, _ + 1, h => by cases h; simp [RepL]
  | w :: us, _, n + 1, h => by
    obtain ⟨x, r, rfl, h2, h3⟩ := h
    exact RepL.drop n h3
theorem RepL.reverse {K : PySem.W.Frag} {B : Hp} : ∀ {us : List U} {vs : List V}, RepL K B us vs → RepL K B us.reverse vs.reverse
  | [], _, h => by cases h; exact rfl
  | w :: us, _, h => by
    obtain ⟨x, r, rfl, h2, h3⟩ := h
    rw [List.reverse_cons, List.reverse_cons]
    exact RepL.append (RepL.reverse h3) (RepL.one h2)
theorem RepL.eraseIdx {K : PySem.W.Frag} {B : Hp} : ∀ {us : List U} {vs : List V} (i : Nat), RepL K B us vs → RepL K B (us.eraseIdx i) (vs.eraseIdx i)
  | [], _, _, h => by cases h; exact rfl
  | w :: us, _, 0, h => by
    obtain ⟨x, r, rfl, _, h3⟩ := h
    exact h3
  | w :: us, _, i + 1, h => by
    obtain ⟨x, r, rfl, h2, h3⟩ := h
    exact ⟨x, _, rfl, h2, RepL.eraseIdx i h3⟩
theorem RepL.replicate {K : PySem.W.Frag} {B : Hp} {us : List U} {vs : List V} (h : RepL K B us vs) : ∀ n : Nat, RepL K B (List.replicate n us).flatten (List.replicate n vs).flatten
  | 0 => rfl
  | n + 1 => by
    rw [List.replicate_succ, List.replicate_succ, List.flatten_cons, List.flatten_cons]
    exact RepL.append h (RepL.replicate h n)

/-! ### the frame of a call -/
structure Fc where
  B0 : Hp
  H0 : Hp
  M : List Addr
  X : List (Addr × HO)

inductive Slot where
  | non | val (u : U) | cel (own : Bool) (us : List U) | celD (own : Bool) (kvs : List (Key × U))
abbrev Env := List Slot
def Slot.isC : Slot → Bool
  | .cel _ _ => true
  | .celD _ _ => true
  | _ => false

def SlotOk (K : PySem.W.Frag) (F : Fc) (B H : Hp) : Slot → Option V → Prop
  | .non, _ => True
  | .val u, o => ∃ v, o = some v ∧ Rep K B u v
  | .cel own us, o => ∃ p ws, o = some (.ref p) ∧ H p = some (.lst ws) ∧ B p = none ∧ RepL K B us ws ∧ (if own then F.H0 p = none else p ∈ F.M)
  | .celD own kvs, o => ∃ p ws, o = some (.ref p) ∧ H p = some (.dK ws) ∧ B p = none ∧ RepD K B kvs ws ∧ (if own then F.H0 p = none else p ∈ F.M)

structure Rel (K : PySem.W.Frag) (F : Fc) (ρ : Env) (σ : St) (B H : Hp) : Prop where
  len : σ.length = ρ.length
  ex : Ex B H
  sl : ∀ (i : Nat) s, ρ[i]? = some s → SlotOk K F B H s (σ.getD i none)
  ds : ∀ (i j : Nat) s t p, i ≠ j → ρ[i]? = some s → ρ[j]? = some t → s.isC = true → t.isC = true → σ.getD i none = some (.ref p) → σ.getD j none = some (.ref p) → False
  bb : Ex F.B0 B
  hh : ∀ a o, a ∉ F.M → F.H0 a = some o → H a = some o
  th : ∀ a o, F.H0 a = some o → ∃ o', H a = some o'
  nw : ∀ a o, F.B0 a = none → F.H0 a = some o → B a = none
  xx : ∀ a o, (a, o) ∈ F.X → H a = some o ∧ B a = none ∧ F.H0 a = none
  xs : ∀ a o, (a, o) ∈ F.X → ∀ (j : Nat) s, ρ[j]? = some s → s.isC = true → σ.getD j none ≠ some (.ref a)
  xd : (F.X.map (·.1)).Nodup

/-- what a callee does: cells at N may have changed -/
structure Go (N : List Addr) (B H B' H' : Hp) : Prop where
  bb : Ex B B'
  bh : Ex B' H'
  hh : ∀ a o, a ∉ N → H a = some o → H' a = some o
  th : ∀ a o, H a = some o → ∃ o', H' a = some o'
  nw : ∀ a o, B a = none → H a = some o → B' a = none

section
variable {K : PySem.W.Frag} {F : Fc} {ρ : Env} {σ : St} {B H B' H' : Hp} {p : Addr} {o : HO} {N : List Addr}
theorem Go.refl (e : Ex B H) : Go N B H B H := ⟨Ex.refl, e, fun _ _ _ h => h, fun _ o h => ⟨o, h⟩, fun _ _ h _ => h⟩
theorem Go.trans {B1 H1 : Hp} (a : Go N B H B1 H1) (b : Go N B1 H1 B' H') : Go N B H B' H' :=
  ⟨a.bb.trans b.bb, b.bh, fun x o n h => b.hh x o n (a.hh x o n h), fun x o h => by obtain ⟨o', h'⟩ := a.th x o h; exact b.th x o' h',
    fun x o n h => by obtain ⟨o', h'⟩ := a.th x o h; exact b.nw x o' (a.nw x o n h) h'⟩
theorem Go.mono {N' : List Addr} (g : Go N B H B' H') (h : ∀ a ∈ N, a ∈ N') : Go N' B H B' H' :=
  ⟨g.bb, g.bh, fun a o n => g.hh a o (fun m => n (h a m)), g.th, g.nw⟩
theorem Go.ex (g : Go [] B H B' H') : Ex H H' := fun a o h => g.hh a o (by simp) h
/-- a new thing that is known -/
theorem Go.newB (e : Ex B H) (h : H p = none) : Go [] B H (upd B p o) (upd H p o) := by
  refine ⟨Ex.new (e.none h), fun a u q => ?_, fun a u _ q => Ex.new h a u q, fun a u q => ⟨u, Ex.new h a u q⟩, fun a u n q => ?_⟩
  · by_cases c : a = p
    · subst c; rw [upd_same] at q ⊢; exact q
    · rw [upd_ne c] at q ⊢; exact e a u q
  · rw [upd_ne (ne_of_none q h)]; exact n
/-- a new thing that is our own -/
theorem Go.newC (e : Ex B H) (h : H p = none) : Go [] B H B (upd H p o) :=
  ⟨Ex.refl, e.trans (Ex.new h), fun a u _ q => Ex.new h a u q, fun a u q => ⟨u, Ex.new h a u q⟩, fun _ _ n _ => n⟩
/-- our own thing changes -/
theorem Go.wr (e : Ex B H) (h : B p = none) : Go [p] B H B (upd H p o) := by
  refine ⟨Ex.refl, fun a u q => ?_, fun a u n q => ?_, fun a u q => ?_, fun _ _ n _ => n⟩
  · rw [upd_ne (ne_of_none q h)]; exact e a u q
  · rw [upd_ne (by simpa using n)]; exact q
  · by_cases c : a = p
    · exact ⟨o, by rw [c, upd_same]⟩
    · exact ⟨u, by rw [upd_ne c]; exact q⟩
theorem SlotOk.grow {s : Slot} {ov : Option V} (g : Go [] B H B' H') (h : SlotOk K F B H s ov) : SlotOk K F B' H' s ov := by
  cases s with
  | non => trivial
  | val u => obtain ⟨v, e, r⟩ := h; exact ⟨v, e, Rep.mono g.bb u v r⟩
  | cel own us => obtain ⟨p, ws, e, h1, h2, h3, h4⟩ := h; exact ⟨p, ws, e, g.ex _ _ h1, g.nw _ _ h2 h1, RepL.mono g.bb us ws h3, h4⟩
  | celD own us => obtain ⟨p, ws, e, h1, h2, h3, h4⟩ := h; exact ⟨p, ws, e, g.ex _ _ h1, g.nw _ _ h2 h1, RepD.mono g.bb us ws h3, h4⟩
theorem Rel.grow (R : Rel K F ρ σ B H) (g : Go [] B H B' H') : Rel K F ρ σ B' H' :=
  ⟨R.len, g.bh, fun i s e => (R.sl i s e).grow g, R.ds, R.bb.trans g.bb, fun a o n h => g.ex _ _ (R.hh a o n h),
    fun a o h => by obtain ⟨o', h'⟩ := R.th a o h; exact g.th a o' h', fun a o n h => by obtain ⟨o', h'⟩ := R.th a o h; exact g.nw a o' (R.nw a o n h) h',
    fun a o h => by obtain ⟨h1, h2, h3⟩ := R.xx a o h; exact ⟨g.ex _ _ h1, g.nw _ _ h2 h1, h3⟩, R.xs, R.xd⟩
theorem getD_set {σ : St} {i j : Nat} {x : Option V} (hi : i < σ.length) : (σ.set i x).getD j none = if j = i then x else σ.getD j none := by
  rw [List.getD_eq_getElem?_getD, List.getD_eq_getElem?_getD, List.getElem?_set]
  by_cases c : i = j
  · subst c; simp [hi]
  · rw [if_neg c, if_neg (Ne.symm c)]
theorem getElem_set {ρ : Env} {i j : Nat} {x s : Slot} (h : (ρ.set i x)[j]? = some s) : (j = i ∧ s = x) ∨ (j ≠ i ∧ ρ[j]? = some s) := by
  rw [List.getElem?_set] at h
  by_cases c : i = j
  · subst c
    rw [if_pos rfl] at h
    by_cases l : i < ρ.length
    · rw [if_pos l] at h; exact .inl ⟨rfl, (Option.some.inj h).symm⟩
    · rw [if_neg l] at h; cases h
  · rw [if_neg c] at h; exact .inr ⟨Ne.symm c, h⟩
/-- a slot takes a value -/
theorem Rel.setV {i : Nat} {u : U} {v : V} (R : Rel K F ρ σ B H) (r : Rep K B u v) : Rel K F (ρ.set i (.val u)) (σ.set i (some v)) B H := by
  by_cases hi : i < σ.length
  · refine ⟨by simp [R.len], R.ex, fun j s e => ?_, fun j l s t p ne e1 e2 c1 c2 h1 h2 => ?_, R.bb, R.hh, R.th, R.nw, R.xx, fun a o h j s e c => ?_, R.xd⟩
    rotate_left 2
    · rw [getD_set hi]
      rcases getElem_set e with ⟨rfl, rfl⟩ | ⟨ne, e⟩
      · cases c
      · rw [if_neg ne]; exact R.xs a o h j s e c
    · rw [getD_set hi]
      rcases getElem_set e with ⟨rfl, rfl⟩ | ⟨ne, e⟩
      · rw [if_pos rfl]; exact ⟨v, rfl, r⟩
      · rw [if_neg ne]; exact R.sl j s e
    · rw [getD_set hi] at h1 h2
      rcases getElem_set e1 with ⟨rfl, rfl⟩ | ⟨n1, e1⟩
      · cases c1
      · rcases getElem_set e2 with ⟨rfl, rfl⟩ | ⟨n2, e2⟩
        · cases c2
        · rw [if_neg n1] at h1; rw [if_neg n2] at h2
          exact R.ds j l s t p ne e1 e2 c1 c2 h1 h2
  · have l1 : σ.set i (some v) = σ := List.set_eq_of_length_le (by omega)
    have l2 : ρ.set i (.val u) = ρ := List.set_eq_of_length_le (by have := R.len; omega)
    rw [l1, l2]; exact R
/-- a slot is forgotten -/
theorem Rel.kill {i : Nat} (R : Rel K F ρ σ B H) : Rel K F (ρ.set i .non) σ B H := by
  refine ⟨by simp [R.len], R.ex, fun j s e => ?_, fun j l s t p ne e1 e2 c1 c2 h1 h2 => ?_, R.bb, R.hh, R.th, R.nw, R.xx, fun a o h j s e c => ?_, R.xd⟩
  rotate_left 2
  · rcases getElem_set e with ⟨rfl, rfl⟩ | ⟨ne, e⟩
    · cases c
    · exact R.xs a o h j s e c
  · rcases getElem_set e with ⟨rfl, rfl⟩ | ⟨ne, e⟩
    · trivial
    · exact R.sl j s e
  · rcases getElem_set e1 with ⟨rfl, rfl⟩ | ⟨n1, e1⟩
    · cases c1
    · rcases getElem_set e2 with ⟨rfl, rfl⟩ | ⟨n2, e2⟩
      · cases c2
      · exact R.ds j l s t p ne e1 e2 c1 c2 h1 h2
theorem Rel.killσ {i : Nat} {x : Option V} (R : Rel K F ρ σ B H) : Rel K F (ρ.set i .non) (σ.set i x) B H := by
  by_cases hi : i < σ.length
  · refine ⟨by simp [R.len], R.ex, fun j s e => ?_, fun j l s t p ne e1 e2 c1 c2 h1 h2 => ?_, R.bb, R.hh, R.th, R.nw, R.xx, fun a o h j s e c => ?_, R.xd⟩
    rotate_left 2
    · rw [getD_set hi]
      rcases getElem_set e with ⟨rfl, rfl⟩ | ⟨ne, e⟩
      · cases c
      · rw [if_neg ne]; exact R.xs a o h j s e c
    · rw [getD_set hi]
      rcases getElem_set e with ⟨rfl, rfl⟩ | ⟨ne, e⟩
      · trivial
      · rw [if_neg ne]; exact R.sl j s e
    · rw [getD_set hi] at h1 h2
      rcases getElem_set e1 with ⟨rfl, rfl⟩ | ⟨n1, e1⟩
      · cases c1
      · rcases getElem_set e2 with ⟨rfl, rfl⟩ | ⟨n2, e2⟩
        · cases c2
        · rw [if_neg n1] at h1; rw [if_neg n2] at h2
          exact R.ds j l s t p ne e1 e2 c1 c2 h1 h2
  · have l1 : σ.set i x = σ := List.set_eq_of_length_le (by omega)
    have l2 : ρ.set i .non = ρ := List.set_eq_of_length_le (by have := R.len; omega)
    rw [l1, l2]; exact R
/-- a slot takes a cell that is not among ours -/
theorem Rel.setC {i : Nat} {us : List U} {ws : List V} (R : Rel K F ρ σ B H) (h1 : H p = some (.lst ws)) (h2 : B p = none) (h3 : RepL K B us ws) (h4 : F.H0 p = none)
    (h5 : ∀ (j : Nat) s, ρ[j]? = some s → s.isC = true → σ.getD j none ≠ some (.ref p)) (h6 : ∀ o, (p, o) ∉ F.X) : Rel K F (ρ.set i (.cel true us)) (σ.set i (some (.ref p))) B H := by
  by_cases hi : i < σ.length
  · refine ⟨by simp [R.len], R.ex, fun j s e => ?_, fun j l s t q ne e1 e2 c1 c2 q1 q2 => ?_, R.bb, R.hh, R.th, R.nw, R.xx, fun a o h j s e c => ?_, R.xd⟩
    rotate_left 2
    · rw [getD_set hi]
      rcases getElem_set e with ⟨rfl, rfl⟩ | ⟨ne, e⟩
      · rw [if_pos rfl]; intro z; cases z; exact h6 o h
      · rw [if_neg ne]; exact R.xs a o h j s e c
    · rw [getD_set hi]
      rcases getElem_set e with ⟨rfl, rfl⟩ | ⟨ne, e⟩
      · rw [if_pos rfl]; exact ⟨p, ws, rfl, h1, h2, h3, h4⟩
      · rw [if_neg ne]; exact R.sl j s e
    · rw [getD_set hi] at q1 q2
      rcases getElem_set e1 with ⟨rfl, rfl⟩ | ⟨n1, f1⟩
      · rcases getElem_set e2 with ⟨rfl, rfl⟩ | ⟨n2, f2⟩
        · exact ne rfl
        · rw [if_pos rfl] at q1; rw [if_neg n2] at q2
          cases q1
          exact h5 l t f2 c2 q2
      · rcases getElem_set e2 with ⟨rfl, rfl⟩ | ⟨n2, f2⟩
        · rw [if_pos rfl] at q2; rw [if_neg n1] at q1
          cases q2
          exact h5 j s f1 c1 q1
        · rw [if_neg n1] at q1; rw [if_neg n2] at q2
          exact R.ds j l s t q ne f1 f2 c1 c2 q1 q2
  · have l1 : σ.set i (some (.ref p)) = σ := List.set_eq_of_length_le (by omega)
    have l2 : ρ.set i (.cel true us) = ρ := List.set_eq_of_length_le (by have := R.len; omega)
    rw [l1, l2]; exact R
/-- the cell of a slot changes -/
theorem Rel.wrC {i : Nat} {own : Bool} {us us' : List U} {ws ws' : List V} (R : Rel K F ρ σ B H) (hi : ρ[i]? = some (.cel own us)) (e : σ.getD i none = some (.ref p)) (h1 : H p = some (.lst ws)) (h2 : B p = none) (h3 : RepL K B us' ws') :
    Rel K F (ρ.set i (.cel own us')) σ B (upd H p (.lst ws')) := by
  have pm0 : (if own then F.H0 p = none else p ∈ F.M) := by
    obtain ⟨p', _, e', _, _, _, h⟩ := R.sl i _ hi
    rw [e] at e'; cases e'; exact h
  have pm : p ∈ F.M ∨ F.H0 p = none := by
    cases own with
    | true => exact .inr pm0
    | false => exact .inl pm0
  have g : Go [p] B H B (upd H p (.lst ws')) := Go.wr R.ex h2
  have oth : ∀ (j : Nat) s, j ≠ i → ρ[j]? = some s → SlotOk K F B (upd H p (.lst ws')) s (σ.getD j none) := fun j s ne ej => by
    have q := R.sl j s ej
    cases s with
    | non => trivial
    | val u => exact q
    | cel own' vs =>
      obtain ⟨p', ws2, e', q1, q2, q3, q4⟩ := q
      have np : p' ≠ p := fun c => R.ds j i _ _ p ne ej hi rfl rfl (by rw [e', c]) e
      exact ⟨p', ws2, e', by rw [upd_ne np]; exact q1, q2, q3, q4⟩
    | celD own' vs =>
      obtain ⟨p', ws2, e', q1, q2, q3, q4⟩ := q
      have np : p' ≠ p := fun c => R.ds j i _ _ p ne ej hi rfl rfl (by rw [e', c]) e
      exact ⟨p', ws2, e', by rw [upd_ne np]; exact q1, q2, q3, q4⟩
  refine ⟨by simp [R.len], g.bh, fun j s ej => ?_, fun j l s t q ne e1 e2 c1 c2 q1 q2 => ?_, R.bb, fun a o n h => ?_, fun a o h => ?_, R.nw, fun a o h => ?_, fun a o h j s e2 c => ?_, R.xd⟩
  rotate_left 4
  · obtain ⟨z1, z2, z3⟩ := R.xx a o h
    have np : a ≠ p := fun c => R.xs a o h i _ hi rfl (by rw [e, c])
    exact ⟨by rw [upd_ne np]; exact z1, z2, z3⟩
  · rcases getElem_set e2 with ⟨rfl, rfl⟩ | ⟨ne, f2⟩
    · exact R.xs a o h _ _ hi rfl
    · exact R.xs a o h j s f2 c
  · rcases getElem_set ej with ⟨rfl, rfl⟩ | ⟨ne, ej⟩
    · exact ⟨p, ws', e, upd_same, h2, h3, pm0⟩
    · exact oth j s ne ej
  · rcases getElem_set e1 with ⟨rfl, rfl⟩ | ⟨n1, f1⟩
    · rcases getElem_set e2 with ⟨rfl, rfl⟩ | ⟨n2, f2⟩
      · exact ne rfl
      · exact R.ds _ l _ t q ne hi f2 rfl c2 q1 q2
    · rcases getElem_set e2 with ⟨rfl, rfl⟩ | ⟨n2, f2⟩
      · exact R.ds j _ s _ q ne f1 hi c1 rfl q1 q2
      · exact R.ds j l s t q ne f1 f2 c1 c2 q1 q2
  · have : a ≠ p := by
      rintro rfl
      rcases pm with z | z
      · exact n z
      · rw [z] at h; cases h
    rw [upd_ne this]; exact R.hh a o n h
  · obtain ⟨o', h'⟩ := R.th a o h
    exact g.th a o' h'
/-- a cell is let go into what is known -/
theorem Rel.freeze {i : Nat} {us : List U} (R : Rel K F ρ σ B H) (hi : ρ[i]? = some (.cel true us)) : ∃ p ws, σ.getD i none = some (.ref p) ∧ H p = some (.lst ws) ∧ RepL K B us ws ∧ B p = none ∧
    Rel K F (ρ.set i (.val (.lst us))) σ (upd B p (.lst ws)) H ∧ Ex B (upd B p (.lst ws)) ∧ Rep K (upd B p (.lst ws)) (.lst us) (.ref p) := by
  obtain ⟨p, ws, e, h1, h2, h3, pm⟩ := R.sl i _ hi
  have xb : Ex B (upd B p (.lst ws)) := Ex.new h2
  have rp : Rep K (upd B p (.lst ws)) (.lst us) (.ref p) := ⟨p, ws, rfl, upd_same, RepL.mono xb _ _ h3⟩
  refine ⟨p, ws, e, h1, h3, h2, ⟨by simp [R.len], fun a o q => ?_, fun j s ej => ?_, fun j l s t q ne e1 e2 c1 c2 q1 q2 => ?_, R.bb.trans xb, R.hh, R.th, fun a o n h => ?_, fun a o h => ?_, fun a o h j s e2 c => ?_, R.xd⟩, xb, rp⟩
  rotate_left 4
  · obtain ⟨z1, z2, z3⟩ := R.xx a o h
    have np : a ≠ p := fun c => R.xs a o h i _ hi rfl (by rw [e, c])
    exact ⟨z1, by rw [upd_ne np]; exact z2, z3⟩
  · rcases getElem_set e2 with ⟨rfl, rfl⟩ | ⟨ne, f2⟩
    · cases c
    · exact R.xs a o h j s f2 c
  · by_cases c : a = p
    · subst c; rw [upd_same] at q; cases q; exact h1
    · rw [upd_ne c] at q; exact R.ex a o q
  · rcases getElem_set ej with ⟨rfl, rfl⟩ | ⟨ne, ej⟩
    · exact ⟨_, e, rp⟩
    · have q := R.sl j s ej
      cases s with
      | non => trivial
      | val u => obtain ⟨v, e', r⟩ := q; exact ⟨v, e', Rep.mono xb _ _ r⟩
      | cel own' vs =>
        obtain ⟨p', ws2, e', q1, q2, q3, q4⟩ := q
        have np : p' ≠ p := fun c => R.ds j i _ _ p ne ej hi rfl rfl (by rw [e', c]) e
        exact ⟨p', ws2, e', q1, by rw [upd_ne np]; exact q2, RepL.mono xb _ _ q3, q4⟩
      | celD own' vs =>
        obtain ⟨p', ws2, e', q1, q2, q3, q4⟩ := q
        have np : p' ≠ p := fun c => R.ds j i _ _ p ne ej hi rfl rfl (by rw [e', c]) e
        exact ⟨p', ws2, e', q1, by rw [upd_ne np]; exact q2, RepD.mono xb _ _ q3, q4⟩
  · rcases getElem_set e1 with ⟨rfl, rfl⟩ | ⟨n1, f1⟩
    · cases c1
    · rcases getElem_set e2 with ⟨rfl, rfl⟩ | ⟨n2, f2⟩
      · cases c2
      · exact R.ds j l s t q ne f1 f2 c1 c2 q1 q2
  · have q := R.nw a o n h
    have : a ≠ p := by
      rintro rfl
      have z : F.H0 a = none := pm
      rw [z] at h; cases h
    rw [upd_ne this]; exact q
end
end Sg

set_option Elab.async false
set_option linter.all false
set_option maxRecDepth 100000
set_option maxHeartbeats 4000000
namespace Sg
open PySem L2

/-! ### outcomes of expressions -/
structure Exn where
  c : Str
  arg : Option (Str × U) := none
inductive EO where
  | ok (u : U) (ρ : Env)
  | ex (e : Exn) (ρ : Env)
def XRel (K : PySem.W.Frag) (e : Exn) (cls : Value) (d : Option Addr) (H : Hp) : Prop :=
  cls = .ref (He.ga K e.c) ∧ match e.arg with
  | none => d = none
  | some (f, u) => ∃ dd z, d = some dd ∧ scV u = some z ∧ H dd = some (.xd [(f, z)])
def Fin (K : PySem.W.Frag) (F : Fc) (W : WX) (p k : Bool) (ρ : Env) (σ : St) (B H : Hp) (Q : VK) : EO → Prop
  | .ok u ρ' => ∀ v B' H', Ex B B' → (p = true → Ex H H' ∧ ρ' = ρ) → Rel K F ρ' σ B' H' → Rep K (if k then B' else H') u v → Q v H'
  | .ex e ρ' => ∀ cls d B' H', Ex B B' → Rel K F ρ' σ B' H' → XRel K e cls d H' → W cls d σ H'
/-- an expression: its reading, its mirror; p: nothing of ours changes; k: the value stays known -/
structure ME (K : PySem.W.Frag) where
  t : WX → TE
  m : Env → Option EO
  p : Bool
  k : Bool
  ok : ∀ (F : Fc) (W : WX) (ρ : Env) (σ : St) (B H : Hp) (Q : VK) (o : EO), m ρ = some o → Rel K F ρ σ B H → Fin K F W p k ρ σ B H Q o → t W σ H Q
def bindE (a : Option EO) (f : U → Env → Option EO) : Option EO :=
  match a with
  | none => none
  | some (.ex e ρ) => some (.ex e ρ)
  | some (.ok u ρ) => f u ρ
theorem bindE_ok {u : U} {ρ : Env} {f : U → Env → Option EO} : bindE (some (.ok u ρ)) f = f u ρ := rfl
theorem bindE_ex {e : Exn} {ρ : Env} {f : U → Env → Option EO} : bindE (some (.ex e ρ)) f = some (.ex e ρ) := rfl
theorem bindE_some {a : Option EO} {f : U → Env → Option EO} {o : EO} (h : bindE a f = some o) : (∃ u ρ', a = some (.ok u ρ') ∧ f u ρ' = some o) ∨ ∃ e ρ', a = some (.ex e ρ') ∧ o = .ex e ρ' := by
  cases a with
  | none => cases h
  | some x =>
    cases x with
    | ok u ρ => exact .inl ⟨u, ρ, rfl, h⟩
    | ex e ρ => exact .inr ⟨e, ρ, rfl, (Option.some.inj h).symm⟩

section
variable {K : PySem.W.Frag} {F : Fc} {W : WX} {ρ ρ' : Env} {σ : St} {B H : Hp} {Q : VK}
theorem rep_up {k : Bool} {B' H' : Hp} {u : U} {v : V} (R : Rel K F ρ σ B' H') (r : Rep K (if k = true then B' else H') u v) : Rep K H' u v := by
  cases k with
  | true => exact Rep.mono R.ex u v r
  | false => exact r
end

variable {K : PySem.W.Frag}
/-- a constant -/
def mC (u : U) (z : V) (h : scV u = some z := by exact id rfl) : ME K where
  t := fun _ => tC z
  m := fun ρ => some (.ok u ρ)
  p := true
  k := true
  ok := fun F W ρ σ B H Q o e R f => by
    cases e
    exact f z B H Ex.refl (fun _ => ⟨Ex.refl, rfl⟩) R (rep_sc h)
/-- a name whose value is known -/
def mVar (i : Nat) : ME K where
  t := fun _ => tVar i
  m := fun ρ => match ρ[i]? with
    | some (.val u) => some (.ok u ρ)
    | _ => none
  p := true
  k := true
  ok := fun F W ρ σ B H Q o e R f => by
    split at e
    · rename_i u hu
      cases e
      obtain ⟨v, hv, r⟩ := R.sl i _ hu
      refine ⟨v, ?_, f v B H Ex.refl (fun _ => ⟨Ex.refl, rfl⟩) R r⟩
      rw [List.getD_eq_getElem?_getD] at hv
      cases q : σ[i]? with
      | none => rw [q] at hv; cases hv
      | some x => rw [q] at hv; exact congrArg some hv
    · cases e
theorem getD_some {σ : St} {i : Nat} {v : V} (h : σ.getD i none = some v) : σ[i]? = some (some v) := by
  rw [List.getD_eq_getElem?_getD] at h
  cases q : σ[i]? with
  | none => rw [q] at h; cases h
  | some x => rw [q] at h; exact congrArg some h
/-- a name that may be a cell of ours, looked at only -/
def mLook (i : Nat) : ME K where
  t := fun _ => tVar i
  m := fun ρ => match ρ[i]? with
    | some (.val u) => some (.ok u ρ)
    | some (.cel _ us) => some (.ok (.lst us) ρ)
    | some (.celD _ us) => some (.ok (.dic us) ρ)
    | _ => none
  p := true
  k := false
  ok := fun F W ρ σ B H Q o e R f => by
    split at e
    · rename_i u hu
      cases e
      obtain ⟨v, hv, r⟩ := R.sl i _ hu
      exact ⟨v, getD_some hv, f v B H Ex.refl (fun _ => ⟨Ex.refl, rfl⟩) R (Rep.mono R.ex _ _ r)⟩
    · rename_i own us hu
      cases e
      obtain ⟨p, ws, hv, h1, h2, h3, _⟩ := R.sl i _ hu
      exact ⟨_, getD_some hv, f _ B H Ex.refl (fun _ => ⟨Ex.refl, rfl⟩) R ⟨p, ws, rfl, h1, RepL.mono R.ex _ _ h3⟩⟩
    · rename_i own us hu
      cases e
      obtain ⟨p, ws, hv, h1, h2, h3, _⟩ := R.sl i _ hu
      exact ⟨_, getD_some hv, f _ B H Ex.refl (fun _ => ⟨Ex.refl, rfl⟩) R ⟨p, ws, rfl, h1, RepD.mono R.ex _ _ h3⟩⟩
    · cases e
/-- a name that may be a cell of ours, let go -/
def mLet (i : Nat) : ME K where
  t := fun _ => tVar i
  m := fun ρ => match ρ[i]? with
    | some (.val u) => some (.ok u ρ)
    | some (.cel true us) => some (.ok (.lst us) (ρ.set i (.val (.lst us))))
    | _ => none
  p := false
  k := true
  ok := fun F W ρ σ B H Q o e R f => by
    split at e
    · rename_i u hu
      cases e
      obtain ⟨v, hv, r⟩ := R.sl i _ hu
      exact ⟨v, getD_some hv, f v B H Ex.refl (fun z => nomatch z) R r⟩
    · rename_i us hu
      cases e
      obtain ⟨p, ws, hv, h1, h3, h2, R', xb, rp⟩ := R.freeze hu
      exact ⟨_, getD_some hv, f _ _ H xb (fun z => nomatch z) R' rp⟩
    · cases e

/-! ### operators by values -/
/-- a scalar result of two things looked at -/
structure Op2 (K : PySem.W.Frag) where
  r : R2
  f : U → U → Option U
  ok : ∀ (H : Hp) (x y : V) (u v w : U), Rep K H u x → Rep K H v y → f u v = some w → ∃ z, scV w = some z ∧ ∀ Q : VK, Q z H → r x y H Q
def mOp (o : Op2 K) (a b : ME K) (h : (a.k || b.p) = true := by exact id rfl) : ME K where
  t := fun W => tOp o.r (a.t W) (b.t W)
  m := fun ρ => bindE (a.m ρ) fun u ρ1 => bindE (b.m ρ1) fun v ρ2 => (o.f u v).map fun w => .ok w ρ2
  p := a.p && b.p
  k := true
  ok := fun F W ρ σ B H Q out e R f => by
    rcases bindE_some e with ⟨u, ρ1, e1, e⟩ | ⟨x, ρ1, e1, rfl⟩
    · refine a.ok F W ρ σ B H _ _ e1 R fun v1 B1 H1 x1 p1 R1 r1 => ?_
      rcases bindE_some e with ⟨v, ρ2, e2, e⟩ | ⟨x, ρ2, e2, rfl⟩
      · refine b.ok F W ρ1 σ B1 H1 _ _ e2 R1 fun v2 B2 H2 x2 p2 R2' r2 => ?_
        obtain ⟨w, ew, rfl⟩ := Option.map_eq_some_iff.mp e
        have r1' : Rep K H2 u v1 := by
          rcases Bool.or_eq_true_iff.mp h with c | c
          · rw [c] at r1
            exact Rep.mono R2'.ex _ _ (Rep.mono x2 _ _ r1)
          · exact Rep.mono (p2 c).1 _ _ (rep_up R1 r1)
        obtain ⟨z, hz, q⟩ := o.ok H2 v1 v2 u v w r1' (rep_up R2' r2) ew
        refine q _ (f z B2 H2 (x1.trans x2) (fun c => ?_) R2' (by show Rep K B2 w z; exact rep_sc hz))
        obtain ⟨c1, c2⟩ := Bool.and_eq_true_iff.mp c
        exact ⟨(p1 c1).1.trans (p2 c2).1, (p2 c2).2.trans (p1 c1).2⟩
      · exact b.ok F W ρ1 σ B1 H1 _ _ e2 R1 fun cls d B2 H2 x2 R2' xr => f cls d B2 H2 (x1.trans x2) R2' xr
    · exact a.ok F W ρ σ B H _ _ e1 R fun cls d B1 H1 x1 R1 xr => f cls d B1 H1 x1 R1 xr
/-- a result that is made of two known things -/
structure Op2K (K : PySem.W.Frag) where
  r : R2
  f : U → U → Option U
  ok : ∀ (B H : Hp) (x y : V) (u v w : U) (Q : VK), Ex B H → Rep K B u x → Rep K B v y → f u v = some w → (∀ z B' H', Go [] B H B' H' → Rep K B' w z → Q z H') → r x y H Q
def mOpK (o : Op2K K) (a b : ME K) (h : (a.k && b.k) = true := by exact id rfl) : ME K where
  t := fun W => tOp o.r (a.t W) (b.t W)
  m := fun ρ => bindE (a.m ρ) fun u ρ1 => bindE (b.m ρ1) fun v ρ2 => (o.f u v).map fun w => .ok w ρ2
  p := a.p && b.p
  k := true
  ok := fun F W ρ σ B H Q out e R f => by
    obtain ⟨ka, kb⟩ := Bool.and_eq_true_iff.mp h
    rcases bindE_some e with ⟨u, ρ1, e1, e⟩ | ⟨x, ρ1, e1, rfl⟩
    · refine a.ok F W ρ σ B H _ _ e1 R fun v1 B1 H1 x1 p1 R1 r1 => ?_
      rcases bindE_some e with ⟨v, ρ2, e2, e⟩ | ⟨x, ρ2, e2, rfl⟩
      · refine b.ok F W ρ1 σ B1 H1 _ _ e2 R1 fun v2 B2 H2 x2 p2 R2' r2 => ?_
        obtain ⟨w, ew, rfl⟩ := Option.map_eq_some_iff.mp e
        rw [ka] at r1
        rw [kb] at r2
        refine o.ok B2 H2 v1 v2 u v w _ R2'.ex (Rep.mono x2 _ _ r1) r2 ew fun z B3 H3 g r3 => ?_
        refine f z B3 H3 ((x1.trans x2).trans g.bb) (fun c => ?_) (R2'.grow g) (by show Rep K B3 w z; exact r3)
        obtain ⟨c1, c2⟩ := Bool.and_eq_true_iff.mp c
        exact ⟨((p1 c1).1.trans (p2 c2).1).trans g.ex, (p2 c2).2.trans (p1 c1).2⟩
      · exact b.ok F W ρ1 σ B1 H1 _ _ e2 R1 fun cls d B2 H2 x2 R2' xr => f cls d B2 H2 (x1.trans x2) R2' xr
    · exact a.ok F W ρ σ B H _ _ e1 R fun cls d B1 H1 x1 R1 xr => f cls d B1 H1 x1 R1 xr
/-- unary -/
structure Op1 (K : PySem.W.Frag) where
  r : V → Hp → VK → Prop
  f : U → Option U
  ok : ∀ (H : Hp) (x : V) (u w : U), Rep K H u x → f u = some w → ∃ z, scV w = some z ∧ ∀ Q : VK, Q z H → r x H Q
def mUn (o : Op1 K) (a : ME K) : ME K where
  t := fun W => tUn o.r (a.t W)
  m := fun ρ => bindE (a.m ρ) fun u ρ1 => (o.f u).map fun w => .ok w ρ1
  p := a.p
  k := true
  ok := fun F W ρ σ B H Q out e R f => by
    rcases bindE_some e with ⟨u, ρ1, e1, e⟩ | ⟨x, ρ1, e1, rfl⟩
    · refine a.ok F W ρ σ B H _ _ e1 R fun v1 B1 H1 x1 p1 R1 r1 => ?_
      obtain ⟨w, ew, rfl⟩ := Option.map_eq_some_iff.mp e
      obtain ⟨z, hz, q⟩ := o.ok H1 v1 u w (rep_up R1 r1) ew
      exact q _ (f z B1 H1 x1 p1 R1 (by show Rep K B1 w z; exact rep_sc hz))
    · exact a.ok F W ρ σ B H _ _ e1 R fun cls d B1 H1 x1 R1 xr => f cls d B1 H1 x1 R1 xr
/-- a known thing's known part: v[i] with both looked at, the part kept where the whole is kept -/
structure OpI (K : PySem.W.Frag) where
  r : R2
  f : U → U → Option U
  ok : ∀ (B H : Hp) (x y : V) (u v w : U) (Q : VK), Ex B H → Rep K B u x → Rep K H v y → f u v = some w → (∀ z, Rep K B w z → Q z H) → r x y H Q
def mIx (o : OpI K) (a b : ME K) (h : (a.k || b.p) = true := by exact id rfl) : ME K where
  t := fun W => tOp o.r (a.t W) (b.t W)
  m := fun ρ => bindE (a.m ρ) fun u ρ1 => bindE (b.m ρ1) fun v ρ2 => (o.f u v).map fun w => .ok w ρ2
  p := a.p && b.p
  k := a.k
  ok := fun F W ρ σ B H Q out e R f => by
    rcases bindE_some e with ⟨u, ρ1, e1, e⟩ | ⟨x, ρ1, e1, rfl⟩
    · refine a.ok F W ρ σ B H _ _ e1 R fun v1 B1 H1 x1 p1 R1 r1 => ?_
      rcases bindE_some e with ⟨v, ρ2, e2, e⟩ | ⟨x, ρ2, e2, rfl⟩
      · refine b.ok F W ρ1 σ B1 H1 _ _ e2 R1 fun v2 B2 H2 x2 p2 R2' r2 => ?_
        obtain ⟨w, ew, rfl⟩ := Option.map_eq_some_iff.mp e
        have r1' : Rep K (if a.k = true then B2 else H2) u v1 := by
          cases ck : a.k with
          | true =>
            rw [ck] at r1
            exact Rep.mono x2 _ _ r1
          | false =>
            rw [ck] at r1 h
            exact Rep.mono (p2 (by simpa using h)).1 _ _ r1
        have ex' : Ex (if a.k = true then B2 else H2) H2 := by
          split
          · exact R2'.ex
          · exact Ex.refl
        refine o.ok _ H2 v1 v2 u v w _ ex' r1' (rep_up R2' r2) ew fun z r3 => ?_
        refine f z B2 H2 (x1.trans x2) (fun c => ?_) R2' r3
        obtain ⟨c1, c2⟩ := Bool.and_eq_true_iff.mp c
        exact ⟨(p1 c1).1.trans (p2 c2).1, (p2 c2).2.trans (p1 c1).2⟩
      · exact b.ok F W ρ1 σ B1 H1 _ _ e2 R1 fun cls d B2 H2 x2 R2' xr => f cls d B2 H2 (x1.trans x2) R2' xr
    · exact a.ok F W ρ σ B H _ _ e1 R fun cls d B1 H1 x1 R1 xr => f cls d B1 H1 x1 R1 xr
/-- a looked-at scalar stays known -/
def mSc (a : ME K) : ME K where
  t := a.t
  m := fun ρ => bindE (a.m ρ) fun u ρ1 => if (scV u).isSome then some (.ok u ρ1) else none
  p := a.p
  k := true
  ok := fun F W ρ σ B H Q out e R f => by
    rcases bindE_some e with ⟨u, ρ1, e1, e⟩ | ⟨x, ρ1, e1, rfl⟩
    · refine a.ok F W ρ σ B H _ _ e1 R fun v1 B1 H1 x1 p1 R1 r1 => ?_
      split at e
      · rename_i c
        cases e
        obtain ⟨z, hz⟩ := Option.isSome_iff_exists.mp c
        obtain ⟨rfl, r2⟩ := scV_rep (B' := B1) hz r1
        exact f v1 B1 H1 x1 p1 R1 r2
      · cases e
    · exact a.ok F W ρ σ B H _ _ e1 R fun cls d B1 H1 x1 R1 xr => f cls d B1 H1 x1 R1 xr

/-! ### argument lists -/
inductive AO where
  | ok (us : List U) (ρ : Env)
  | ex (e : Exn) (ρ : Env)
def FinA (K : PySem.W.Frag) (F : Fc) (W : WX) (p k : Bool) (ρ : Env) (σ : St) (B H : Hp) (Q : List V → Hp → Prop) : AO → Prop
  | .ok us ρ' => ∀ vs B' H', Ex B B' → (p = true → Ex H H' ∧ ρ' = ρ) → Rel K F ρ' σ B' H' → RepL K (if k then B' else H') us vs → Q vs H'
  | .ex e ρ' => ∀ cls d B' H', Ex B B' → Rel K F ρ' σ B' H' → XRel K e cls d H' → W cls d σ H'
structure MA (K : PySem.W.Frag) where
  t : WX → TA
  m : Env → Option AO
  p : Bool
  k : Bool
  ok : ∀ (F : Fc) (W : WX) (ρ : Env) (σ : St) (B H : Hp) (Q : List V → Hp → Prop) (o : AO), m ρ = some o → Rel K F ρ σ B H → FinA K F W p k ρ σ B H Q o → t W σ H Q
def bindEA (a : Option EO) (f : U → Env → Option AO) : Option AO :=
  match a with
  | none => none
  | some (.ex e ρ) => some (.ex e ρ)
  | some (.ok u ρ) => f u ρ
theorem bindEA_some {a : Option EO} {f : U → Env → Option AO} {o : AO} (h : bindEA a f = some o) : (∃ u ρ', a = some (.ok u ρ') ∧ f u ρ' = some o) ∨ ∃ e ρ', a = some (.ex e ρ') ∧ o = .ex e ρ' := by
  cases a with
  | none => cases h
  | some x =>
    cases x with
    | ok u ρ => exact .inl ⟨u, ρ, rfl, h⟩
    | ex e ρ => exact .inr ⟨e, ρ, rfl, (Option.some.inj h).symm⟩
def bindAE (a : Option AO) (f : List U → Env → Option EO) : Option EO :=
  match a with
  | none => none
  | some (.ex e ρ) => some (.ex e ρ)
  | some (.ok u ρ) => f u ρ
theorem bindAE_some {a : Option AO} {f : List U → Env → Option EO} {o : EO} (h : bindAE a f = some o) : (∃ u ρ', a = some (.ok u ρ') ∧ f u ρ' = some o) ∨ ∃ e ρ', a = some (.ex e ρ') ∧ o = .ex e ρ' := by
  cases a with
  | none => cases h
  | some x =>
    cases x with
    | ok u ρ => exact .inl ⟨u, ρ, rfl, h⟩
    | ex e ρ => exact .inr ⟨e, ρ, rfl, (Option.some.inj h).symm⟩
def mNil : MA K where
  t := fun _ => tNil
  m := fun ρ => some (.ok [] ρ)
  p := true
  k := true
  ok := fun F W ρ σ B H Q o e R f => by
    cases e
    exact f [] B H Ex.refl (fun _ => ⟨Ex.refl, rfl⟩) R rfl
def mCons (a : ME K) (b : MA K) (h : (a.k || b.p) = true := by exact id rfl) : MA K where
  t := fun W => tCons (a.t W) (b.t W)
  m := fun ρ => bindEA (a.m ρ) fun u ρ1 => match b.m ρ1 with
    | none => none
    | some (.ex e ρ2) => some (.ex e ρ2)
    | some (.ok us ρ2) => some (.ok (u :: us) ρ2)
  p := a.p && b.p
  k := a.k && b.k
  ok := fun F W ρ σ B H Q out e R f => by
    rcases bindEA_some e with ⟨u, ρ1, e1, e⟩ | ⟨x, ρ1, e1, rfl⟩
    · refine a.ok F W ρ σ B H _ _ e1 R fun v1 B1 H1 x1 p1 R1 r1 => ?_
      split at e
      · cases e
      · rename_i x ρ2 e2
        cases e
        exact b.ok F W ρ1 σ B1 H1 _ _ e2 R1 fun cls d B2 H2 x2 R2' xr => f cls d B2 H2 (x1.trans x2) R2' xr
      · rename_i us ρ2 e2
        cases e
        refine b.ok F W ρ1 σ B1 H1 _ _ e2 R1 fun vs B2 H2 x2 p2 R2' r2 => ?_
        refine f (v1 :: vs) B2 H2 (x1.trans x2) (fun c => ?_) R2' ?_
        · obtain ⟨c1, c2⟩ := Bool.and_eq_true_iff.mp c
          exact ⟨(p1 c1).1.trans (p2 c2).1, (p2 c2).2.trans (p1 c1).2⟩
        · cases ck : a.k with
          | true =>
            rw [ck] at r1
            cases cb : b.k with
            | true =>
              rw [cb] at r2
              exact ⟨v1, vs, rfl, Rep.mono x2 _ _ r1, r2⟩
            | false =>
              rw [cb] at r2
              exact ⟨v1, vs, rfl, Rep.mono R2'.ex _ _ (Rep.mono x2 _ _ r1), r2⟩
          | false =>
            rw [ck] at r1 h
            have q1 := Rep.mono (p2 (by simpa using h)).1 _ _ r1
            refine ⟨v1, vs, rfl, q1, ?_⟩
            cases cb : b.k with
            | true => rw [cb] at r2; exact RepL.mono R2'.ex _ _ r2
            | false => rw [cb] at r2; exact r2
    · exact a.ok F W ρ σ B H _ _ e1 R fun cls d B1 H1 x1 R1 xr => f cls d B1 H1 x1 R1 xr
/-- (a, b, ..) -/
def mTup (a : MA K) (h : a.k = true := by exact id rfl) : ME K where
  t := fun W => tTup (a.t W)
  m := fun ρ => bindAE (a.m ρ) fun us ρ1 => if us.length ≤ 16777216 then some (.ok (.tup us) ρ1) else none
  p := a.p
  k := true
  ok := fun F W ρ σ B H Q out e R f => by
    rcases bindAE_some e with ⟨us, ρ1, e1, e⟩ | ⟨x, ρ1, e1, rfl⟩
    · refine a.ok F W ρ σ B H _ _ e1 R fun vs B1 H1 x1 p1 R1 r1 => ?_
      rw [h] at r1
      split at e
      · rename_i hl
        cases e
        refine ⟨by rw [r1.length, PySem.sizeLine_eq]; exact hl, fun p hp => ?_⟩
        have g := Go.newB (o := .tup vs) R1.ex hp
        exact f (.ref p) _ _ (x1.trans g.bb) (fun c => ⟨(p1 c).1.trans g.ex, (p1 c).2⟩) (R1.grow g) ⟨p, vs, rfl, .inl (.inl upd_same), RepL.mono g.bb _ _ r1⟩
      · cases e
    · exact a.ok F W ρ σ B H _ _ e1 R fun cls d B1 H1 x1 R1 xr => f cls d B1 H1 x1 R1 xr

/-! ### new lists -/
def FinF (K : PySem.W.Frag) (F : Fc) (W : WX) (p : Bool) (ρ : Env) (σ : St) (B H : Hp) (Q : VK) : AO → Prop
  | .ok us ρ' => ∀ (q : Addr) ws B' H', Ex B B' → (p = true → Ex H H' ∧ ρ' = ρ) → Rel K F ρ' σ B' H' → H' q = some (.lst ws) → B' q = none → F.H0 q = none →
      (∀ (j : Nat) s, ρ'[j]? = some s → s.isC = true → σ.getD j none ≠ some (.ref q)) → (∀ o, (q, o) ∉ F.X) → RepL K B' us ws → Q (.ref q) H'
  | .ex e ρ' => ∀ cls d B' H', Ex B B' → Rel K F ρ' σ B' H' → XRel K e cls d H' → W cls d σ H'
structure MF (K : PySem.W.Frag) where
  t : WX → TE
  m : Env → Option AO
  p : Bool
  ok : ∀ (F : Fc) (W : WX) (ρ : Env) (σ : St) (B H : Hp) (Q : VK) (o : AO), m ρ = some o → Rel K F ρ σ B H → FinF K F W p ρ σ B H Q o → t W σ H Q
theorem Rel.notC {F : Fc} {ρ : Env} {σ : St} {B H : Hp} {q : Addr} (R : Rel K F ρ σ B H) (h : H q = none) (j : Nat) (s : Slot) (e : ρ[j]? = some s) (c : s.isC = true) : σ.getD j none ≠ some (.ref q) := by
  intro z
  have q1 := R.sl j s e
  cases s with
  | non => cases c
  | val u => cases c
  | cel own us =>
    obtain ⟨p, ws, e1, h1, _⟩ := q1
    rw [z] at e1; cases e1; rw [h] at h1; cases h1
  | celD own us =>
    obtain ⟨p, ws, e1, h1, _⟩ := q1
    rw [z] at e1; cases e1; rw [h] at h1; cases h1
theorem Rel.fresh0 {F : Fc} {ρ : Env} {σ : St} {B H : Hp} {q : Addr} (R : Rel K F ρ σ B H) (h : H q = none) : F.H0 q = none := by
  cases e : F.H0 q with
  | none => rfl
  | some o =>
    obtain ⟨o', h'⟩ := R.th q o e
    rw [h] at h'; cases h'
/-- what a new list at a free place gives -/
theorem newF {F : Fc} {W : WX} {p : Bool} {ρ ρ1 : Env} {σ : St} {B H B1 H1 : Hp} {Q : VK} {us : List U} {ws : List V} (f : FinF K F W p ρ σ B H Q (.ok us ρ1)) (x1 : Ex B B1) (p1 : p = true → Ex H H1 ∧ ρ1 = ρ) (R1 : Rel K F ρ1 σ B1 H1)
    (r : RepL K B1 us ws) {q : Addr} (hq : H1 q = none) : Q (.ref q) (upd H1 q (.lst ws)) := by
  have g := Go.newC (o := .lst ws) R1.ex hq
  exact f q ws B1 _ x1 (fun c => ⟨(p1 c).1.trans g.ex, (p1 c).2⟩) (R1.grow g) upd_same (R1.ex.none hq) (R1.fresh0 hq) (R1.notC hq) (fun o ho => by rw [(R1.xx _ _ ho).1] at hq; cases hq) r
/-- a new list, known from now on -/
def mFr (a : MF K) : ME K where
  t := a.t
  m := fun ρ => bindAE (a.m ρ) fun us ρ1 => some (.ok (.lst us) ρ1)
  p := a.p
  k := true
  ok := fun F W ρ σ B H Q out e R f => by
    rcases bindAE_some e with ⟨us, ρ1, e1, e⟩ | ⟨x, ρ1, e1, rfl⟩
    · cases e
      refine a.ok F W ρ σ B H _ _ e1 R fun q ws B1 H1 x1 p1 R1 h1 h2 h3 h4 h5 r1 => ?_
      have xb : Ex B1 (upd B1 q (.lst ws)) := Ex.new h2
      refine f (.ref q) (upd B1 q (.lst ws)) H1 (x1.trans xb) p1 ⟨R1.len, fun b o e => ?_, fun i s e => ?_, R1.ds, R1.bb.trans xb, R1.hh, R1.th, fun b o n e => ?_, fun b o e => ?_, R1.xs, R1.xd⟩ ⟨q, ws, rfl, upd_same, RepL.mono xb _ _ r1⟩
      · by_cases c : b = q
        · subst c; rw [upd_same] at e; cases e; exact h1
        · rw [upd_ne c] at e; exact R1.ex b o e
      · have z := R1.sl i s e
        cases s with
        | non => trivial
        | val u => obtain ⟨v, e1, r⟩ := z; exact ⟨v, e1, Rep.mono xb _ _ r⟩
        | cel own us2 =>
          obtain ⟨p, ws2, e1, z1, z2, z3, z4⟩ := z
          have np : p ≠ q := fun c => h4 i _ e rfl (by rw [e1, c])
          exact ⟨p, ws2, e1, z1, by rw [upd_ne np]; exact z2, RepL.mono xb _ _ z3, z4⟩
        | celD own us2 =>
          obtain ⟨p, ws2, e1, z1, z2, z3, z4⟩ := z
          have np : p ≠ q := fun c => h4 i _ e rfl (by rw [e1, c])
          exact ⟨p, ws2, e1, z1, by rw [upd_ne np]; exact z2, RepD.mono xb _ _ z3, z4⟩
      · have np : b ≠ q := fun c => by rw [c, h3] at e; cases e
        rw [upd_ne np]; exact R1.nw b o n e
      · obtain ⟨z1, z2, z3⟩ := R1.xx b o e
        have np : b ≠ q := fun c => by rw [c] at e; exact h5 o e
        exact ⟨z1, by rw [upd_ne np]; exact z2, z3⟩
    · exact a.ok F W ρ σ B H _ _ e1 R fun cls d B1 H1 x1 R1 xr => f cls d B1 H1 x1 R1 xr
/-- [a, b, ..] -/
def mLst (a : MA K) (h : a.k = true := by exact id rfl) : MF K where
  t := fun W => tLst (a.t W)
  m := fun ρ => match a.m ρ with
    | some (.ok us ρ1) => if us.length ≤ 16777216 then some (.ok us ρ1) else none
    | o => o
  p := a.p
  ok := fun F W ρ σ B H Q out e R f => by
    split at e
    · rename_i us ρ1 e1
      split at e
      · rename_i hl
        cases e
        refine a.ok F W ρ σ B H _ _ e1 R fun vs B1 H1 x1 p1 R1 r1 => ?_
        rw [h] at r1
        exact ⟨by rw [r1.length, PySem.sizeLine_eq]; exact hl, fun p hp => newF f x1 p1 R1 r1 hp⟩
      · cases e
    · rename_i h2
      cases o : a.m ρ with
      | none => rw [o] at e; cases e
      | some x =>
        rw [o] at e; cases e
        cases out with
        | ok us ρ1 => exact absurd o (h2 us ρ1)
        | ex x ρ1 => exact a.ok F W ρ σ B H _ _ o R fun cls d B1 H1 x1 R1 xr => f cls d B1 H1 x1 R1 xr
end Sg

set_option Elab.async false
set_option linter.all false
set_option maxRecDepth 100000
set_option maxHeartbeats 4000000
namespace Sg
open PySem L2
variable {K : PySem.W.Frag}

/-! ### tests -/
inductive TOu where
  | ok (b : Bool) (ρ : Env)
  | ex (e : Exn) (ρ : Env)
def FinT (K : PySem.W.Frag) (F : Fc) (W : WX) (p : Bool) (ρ : Env) (σ : St) (B H : Hp) (Q : Bool → Hp → Prop) : TOu → Prop
  | .ok b ρ' => ∀ B' H', Ex B B' → (p = true → Ex H H' ∧ ρ' = ρ) → Rel K F ρ' σ B' H' → Q b H'
  | .ex e ρ' => ∀ cls d B' H', Ex B B' → Rel K F ρ' σ B' H' → XRel K e cls d H' → W cls d σ H'
structure MT (K : PySem.W.Frag) where
  t : WX → TT
  m : Env → Option TOu
  p : Bool
  ok : ∀ (F : Fc) (W : WX) (ρ : Env) (σ : St) (B H : Hp) (Q : Bool → Hp → Prop) (o : TOu), m ρ = some o → Rel K F ρ σ B H → FinT K F W p ρ σ B H Q o → t W σ H Q
def bindET (a : Option EO) (f : U → Env → Option TOu) : Option TOu :=
  match a with
  | none => none
  | some (.ex e ρ) => some (.ex e ρ)
  | some (.ok u ρ) => f u ρ
theorem bindET_some {a : Option EO} {f : U → Env → Option TOu} {o : TOu} (h : bindET a f = some o) : (∃ u ρ', a = some (.ok u ρ') ∧ f u ρ' = some o) ∨ ∃ e ρ', a = some (.ex e ρ') ∧ o = .ex e ρ' := by
  cases a with
  | none => cases h
  | some x =>
    cases x with
    | ok u ρ => exact .inl ⟨u, ρ, rfl, h⟩
    | ex e ρ => exact .inr ⟨e, ρ, rfl, (Option.some.inj h).symm⟩
def bindTT (a : Option TOu) (f : Bool → Env → Option TOu) : Option TOu :=
  match a with
  | none => none
  | some (.ex e ρ) => some (.ex e ρ)
  | some (.ok u ρ) => f u ρ
theorem bindTT_some {a : Option TOu} {f : Bool → Env → Option TOu} {o : TOu} (h : bindTT a f = some o) : (∃ u ρ', a = some (.ok u ρ') ∧ f u ρ' = some o) ∨ ∃ e ρ', a = some (.ex e ρ') ∧ o = .ex e ρ' := by
  cases a with
  | none => cases h
  | some x =>
    cases x with
    | ok u ρ => exact .inl ⟨u, ρ, rfl, h⟩
    | ex e ρ => exact .inr ⟨e, ρ, rfl, (Option.some.inj h).symm⟩
def bindTE (a : Option TOu) (f : Bool → Env → Option EO) : Option EO :=
  match a with
  | none => none
  | some (.ex e ρ) => some (.ex e ρ)
  | some (.ok u ρ) => f u ρ
theorem bindTE_some {a : Option TOu} {f : Bool → Env → Option EO} {o : EO} (h : bindTE a f = some o) : (∃ u ρ', a = some (.ok u ρ') ∧ f u ρ' = some o) ∨ ∃ e ρ', a = some (.ex e ρ') ∧ o = .ex e ρ' := by
  cases a with
  | none => cases h
  | some x =>
    cases x with
    | ok u ρ => exact .inl ⟨u, ρ, rfl, h⟩
    | ex e ρ => exact .inr ⟨e, ρ, rfl, (Option.some.inj h).symm⟩
/-- a True or False as a test -/
def mTest (a : ME K) : MT K where
  t := fun W => tTest (a.t W)
  m := fun ρ => bindET (a.m ρ) fun u ρ1 => match u with
    | .bl b => some (.ok b ρ1)
    | _ => none
  p := a.p
  ok := fun F W ρ σ B H Q out e R f => by
    rcases bindET_some e with ⟨u, ρ1, e1, e⟩ | ⟨x, ρ1, e1, rfl⟩
    · refine a.ok F W ρ σ B H _ _ e1 R fun v1 B1 H1 x1 p1 R1 r1 => ?_
      split at e
      · rename_i b
        cases e
        have r2 : v1 = .bl b := rep_up R1 r1
        exact ⟨b, r2, f B1 H1 x1 p1 R1⟩
      · cases e
    · exact a.ok F W ρ σ B H _ _ e1 R fun cls d B1 H1 x1 R1 xr => f cls d B1 H1 x1 R1 xr
/-- truth of any value -/
def truU : U → Option Bool
  | .non => some false
  | .bl b => some b
  | .int i => some (i != 0)
  | .str s => if s.length ≤ 16777216 then some ((s.length : Int) != 0) else none
  | .lst us => some (!us.isEmpty)
  | .frl us => some (!us.isEmpty)
  | .tup us => some (!us.isEmpty)
  | .dic us => some (!us.isEmpty)
  | _ => none
theorem RepL.empty {B : Hp} {us : List U} {vs : List V} (h : RepL K B us vs) : us.isEmpty = vs.isEmpty := by
  cases us with
  | nil => cases h; rfl
  | cons u us => obtain ⟨v, r, rfl, _⟩ := h; rfl
theorem RepD.empty {B : Hp} {us : List (Key × U)} {vs : List (Key × V)} (h : RepD K B us vs) : us.isEmpty = vs.isEmpty := by
  cases us with
  | nil => cases h; rfl
  | cons u us => obtain ⟨k, u⟩ := u; obtain ⟨v, r, rfl, _⟩ := h; rfl
theorem truU_ok {H : Hp} {u : U} {v : V} {b : Bool} (r : Rep K H u v) (h : truU u = some b) : TruV K v H b := by
  cases u with
  | non => cases r; cases h; rfl
  | bl c => cases r; cases h; rfl
  | int i => cases r; cases h; rfl
  | str s =>
    cases r
    have h' : (if s.length ≤ 16777216 then some ((s.length : Int) != 0) else none) = some b := h
    by_cases q : s.length ≤ 16777216
    · rw [if_pos q] at h'; cases h'; exact ⟨by rw [PySem.sizeLine_eq]; exact q, rfl⟩
    · rw [if_neg q] at h'; cases h'
  | ref a => cases h
  | lst us => obtain ⟨a, vs, rfl, h1, h2⟩ := r; cases h; exact .inl ⟨vs, SqL.of h1, by rw [h2.empty]⟩
  | frl us => obtain ⟨a, vs, rfl, h1, h2⟩ := r; cases h; exact .inl ⟨vs, h1, by rw [h2.empty]⟩
  | tup us => obtain ⟨a, vs, rfl, h1, h2⟩ := r; cases h; exact .inr (.inl ⟨vs, h1, by rw [h2.empty]⟩)
  | dic us => obtain ⟨a, vs, rfl, h1, h2⟩ := r; cases h; exact .inr (.inr ⟨vs, h1, by rw [h2.empty]⟩)
  | ins c fs => cases h
def tTruth (K : PySem.W.Frag) (ta : TE) : TT := fun σ H Q => ta σ H fun x H' => ∃ k, TruV K x H' k ∧ Q k H'
def mTru (a : ME K) : MT K where
  t := fun W => tTruth K (a.t W)
  m := fun ρ => bindET (a.m ρ) fun u ρ1 => (truU u).map fun b => .ok b ρ1
  p := a.p
  ok := fun F W ρ σ B H Q out e R f => by
    rcases bindET_some e with ⟨u, ρ1, e1, e⟩ | ⟨x, ρ1, e1, rfl⟩
    · refine a.ok F W ρ σ B H _ _ e1 R fun v1 B1 H1 x1 p1 R1 r1 => ?_
      obtain ⟨b, eb, rfl⟩ := Option.map_eq_some_iff.mp e
      exact ⟨b, truU_ok (rep_up R1 r1) eb, f B1 H1 x1 p1 R1⟩
    · exact a.ok F W ρ σ B H _ _ e1 R fun cls d B1 H1 x1 R1 xr => f cls d B1 H1 x1 R1 xr
def mAnd (a b : MT K) : MT K where
  t := fun W => tAnd (a.t W) (b.t W)
  m := fun ρ => bindTT (a.m ρ) fun c ρ1 => if c = true then b.m ρ1 else some (.ok false ρ1)
  p := a.p && b.p
  ok := fun F W ρ σ B H Q out e R f => by
    rcases bindTT_some e with ⟨c, ρ1, e1, e⟩ | ⟨x, ρ1, e1, rfl⟩
    · refine a.ok F W ρ σ B H _ _ e1 R fun B1 H1 x1 p1 R1 => ?_
      cases c with
      | true =>
        rw [if_pos rfl] at e ⊢
        refine b.ok F W ρ1 σ B1 H1 _ _ e R1 ?_
        cases out with
        | ok d ρ2 => exact fun B2 H2 x2 p2 R2 => f B2 H2 (x1.trans x2) (fun z => by
            obtain ⟨c1, c2⟩ := Bool.and_eq_true_iff.mp z
            exact ⟨(p1 c1).1.trans (p2 c2).1, (p2 c2).2.trans (p1 c1).2⟩) R2
        | ex x ρ2 => exact fun cls d B2 H2 x2 R2 xr => f cls d B2 H2 (x1.trans x2) R2 xr
      | false =>
        rw [if_neg (by decide)] at e ⊢
        cases e
        exact f B1 H1 x1 (fun z => p1 (Bool.and_eq_true_iff.mp z).1) R1
    · exact a.ok F W ρ σ B H _ _ e1 R fun cls d B1 H1 x1 R1 xr => f cls d B1 H1 x1 R1 xr
def mOr (a b : MT K) : MT K where
  t := fun W => tOr (a.t W) (b.t W)
  m := fun ρ => bindTT (a.m ρ) fun c ρ1 => if c = true then some (.ok true ρ1) else b.m ρ1
  p := a.p && b.p
  ok := fun F W ρ σ B H Q out e R f => by
    rcases bindTT_some e with ⟨c, ρ1, e1, e⟩ | ⟨x, ρ1, e1, rfl⟩
    · refine a.ok F W ρ σ B H _ _ e1 R fun B1 H1 x1 p1 R1 => ?_
      cases c with
      | false =>
        rw [if_neg (by decide)] at e ⊢
        refine b.ok F W ρ1 σ B1 H1 _ _ e R1 ?_
        cases out with
        | ok d ρ2 => exact fun B2 H2 x2 p2 R2 => f B2 H2 (x1.trans x2) (fun z => by
            obtain ⟨c1, c2⟩ := Bool.and_eq_true_iff.mp z
            exact ⟨(p1 c1).1.trans (p2 c2).1, (p2 c2).2.trans (p1 c1).2⟩) R2
        | ex x ρ2 => exact fun cls d B2 H2 x2 R2 xr => f cls d B2 H2 (x1.trans x2) R2 xr
      | true =>
        rw [if_pos rfl] at e ⊢
        cases e
        exact f B1 H1 x1 (fun z => p1 (Bool.and_eq_true_iff.mp z).1) R1
    · exact a.ok F W ρ σ B H _ _ e1 R fun cls d B1 H1 x1 R1 xr => f cls d B1 H1 x1 R1 xr
def mNot (a : MT K) : MT K where
  t := fun W => tNot (a.t W)
  m := fun ρ => bindTT (a.m ρ) fun c ρ1 => some (.ok (!c) ρ1)
  p := a.p
  ok := fun F W ρ σ B H Q out e R f => by
    rcases bindTT_some e with ⟨c, ρ1, e1, e⟩ | ⟨x, ρ1, e1, rfl⟩
    · cases e
      exact a.ok F W ρ σ B H _ _ e1 R fun B1 H1 x1 p1 R1 => f B1 H1 x1 p1 R1
    · exact a.ok F W ρ σ B H _ _ e1 R fun cls d B1 H1 x1 R1 xr => f cls d B1 H1 x1 R1 xr
/-- values: and, or, not of True, False -/
def mAndV (a b : ME K) : ME K where
  t := fun W => tAndV (a.t W) (b.t W)
  m := fun ρ => bindE (a.m ρ) fun u ρ1 => match u with
    | .bl true => bindE (b.m ρ1) fun v ρ2 => match v with
      | .bl c => some (.ok (.bl c) ρ2)
      | _ => none
    | .bl false => some (.ok (.bl false) ρ1)
    | _ => none
  p := a.p && b.p
  k := true
  ok := fun F W ρ σ B H Q out e R f => by
    rcases bindE_some e with ⟨u, ρ1, e1, e⟩ | ⟨x, ρ1, e1, rfl⟩
    · refine a.ok F W ρ σ B H _ _ e1 R fun v1 B1 H1 x1 p1 R1 r1 => ?_
      have r2 := rep_up R1 r1
      split at e
      · refine ⟨true, r2, ?_⟩
        rw [if_pos rfl]
        rcases bindE_some e with ⟨w, ρ2, e2, e⟩ | ⟨x, ρ2, e2, rfl⟩
        · refine b.ok F W ρ1 σ B1 H1 _ _ e2 R1 fun v2 B2 H2 x2 p2 R2 q2 => ?_
          split at e
          · cases e
            exact f v2 B2 H2 (x1.trans x2) (fun z => by
              obtain ⟨c1, c2⟩ := Bool.and_eq_true_iff.mp z
              exact ⟨(p1 c1).1.trans (p2 c2).1, (p2 c2).2.trans (p1 c1).2⟩) R2 (show Rep K B2 _ v2 from by
              have z : v2 = _ := rep_up R2 q2
              exact z)
          · cases e
        · exact b.ok F W ρ1 σ B1 H1 _ _ e2 R1 fun cls d B2 H2 x2 R2 xr => f cls d B2 H2 (x1.trans x2) R2 xr
      · cases e
        refine ⟨false, r2, ?_⟩
        rw [if_neg (by decide)]
        exact f (.bl false) B1 H1 x1 (fun z => p1 (Bool.and_eq_true_iff.mp z).1) R1 rfl
      · cases e
    · exact a.ok F W ρ σ B H _ _ e1 R fun cls d B1 H1 x1 R1 xr => f cls d B1 H1 x1 R1 xr
def mOrV (a b : ME K) : ME K where
  t := fun W => tOrV (a.t W) (b.t W)
  m := fun ρ => bindE (a.m ρ) fun u ρ1 => match u with
    | .bl false => bindE (b.m ρ1) fun v ρ2 => match v with
      | .bl c => some (.ok (.bl c) ρ2)
      | _ => none
    | .bl true => some (.ok (.bl true) ρ1)
    | _ => none
  p := a.p && b.p
  k := true
  ok := fun F W ρ σ B H Q out e R f => by
    rcases bindE_some e with ⟨u, ρ1, e1, e⟩ | ⟨x, ρ1, e1, rfl⟩
    · refine a.ok F W ρ σ B H _ _ e1 R fun v1 B1 H1 x1 p1 R1 r1 => ?_
      have r2 := rep_up R1 r1
      split at e
      · refine ⟨false, r2, ?_⟩
        rw [if_neg (by decide)]
        rcases bindE_some e with ⟨w, ρ2, e2, e⟩ | ⟨x, ρ2, e2, rfl⟩
        · refine b.ok F W ρ1 σ B1 H1 _ _ e2 R1 fun v2 B2 H2 x2 p2 R2 q2 => ?_
          split at e
          · cases e
            exact f v2 B2 H2 (x1.trans x2) (fun z => by
              obtain ⟨c1, c2⟩ := Bool.and_eq_true_iff.mp z
              exact ⟨(p1 c1).1.trans (p2 c2).1, (p2 c2).2.trans (p1 c1).2⟩) R2 (show Rep K B2 _ v2 from by
              have z : v2 = _ := rep_up R2 q2
              exact z)
          · cases e
        · exact b.ok F W ρ1 σ B1 H1 _ _ e2 R1 fun cls d B2 H2 x2 R2 xr => f cls d B2 H2 (x1.trans x2) R2 xr
      · cases e
        refine ⟨true, r2, ?_⟩
        rw [if_pos rfl]
        exact f (.bl true) B1 H1 x1 (fun z => p1 (Bool.and_eq_true_iff.mp z).1) R1 rfl
      · cases e
    · exact a.ok F W ρ σ B H _ _ e1 R fun cls d B1 H1 x1 R1 xr => f cls d B1 H1 x1 R1 xr
def mNotV (a : ME K) : ME K where
  t := fun W => tNotV (a.t W)
  m := fun ρ => bindE (a.m ρ) fun u ρ1 => match u with
    | .bl c => some (.ok (.bl (!c)) ρ1)
    | _ => none
  p := a.p
  k := true
  ok := fun F W ρ σ B H Q out e R f => by
    rcases bindE_some e with ⟨u, ρ1, e1, e⟩ | ⟨x, ρ1, e1, rfl⟩
    · refine a.ok F W ρ σ B H _ _ e1 R fun v1 B1 H1 x1 p1 R1 r1 => ?_
      have r2 := rep_up R1 r1
      split at e
      · rename_i c
        cases e
        exact ⟨c, r2, f (.bl (!c)) B1 H1 x1 p1 R1 rfl⟩
      · cases e
    · exact a.ok F W ρ σ B H _ _ e1 R fun cls d B1 H1 x1 R1 xr => f cls d B1 H1 x1 R1 xr
/-- a if t else b -/
def mIf (c : MT K) (a b : ME K) : ME K where
  t := fun W => tIf (c.t W) (a.t W) (b.t W)
  m := fun ρ => bindTE (c.m ρ) fun x ρ1 => if x = true then a.m ρ1 else b.m ρ1
  p := c.p && (a.p && b.p)
  k := a.k && b.k
  ok := fun F W ρ σ B H Q out e R f => by
    rcases bindTE_some e with ⟨x, ρ1, e1, e⟩ | ⟨x, ρ1, e1, rfl⟩
    · refine c.ok F W ρ σ B H _ _ e1 R fun B1 H1 x1 p1 R1 => ?_
      cases x with
      | true =>
        rw [if_pos rfl] at e ⊢
        refine a.ok F W ρ1 σ B1 H1 _ _ e R1 ?_
        cases out with
        | ok d ρ2 => exact fun v2 B2 H2 x2 p2 R2 r2 => f v2 B2 H2 (x1.trans x2) (fun z => by
            obtain ⟨c1, c2⟩ := Bool.and_eq_true_iff.mp z
            obtain ⟨c2, c3⟩ := Bool.and_eq_true_iff.mp c2
            exact ⟨(p1 c1).1.trans (p2 c2).1, (p2 c2).2.trans (p1 c1).2⟩) R2 (by
            cases ck : (a.k && b.k) with
            | true => rw [(Bool.and_eq_true_iff.mp ck).1] at r2; exact r2
            | false => exact rep_up R2 r2)
        | ex x ρ2 => exact fun cls d B2 H2 x2 R2 xr => f cls d B2 H2 (x1.trans x2) R2 xr
      | false =>
        rw [if_neg (by decide)] at e ⊢
        refine b.ok F W ρ1 σ B1 H1 _ _ e R1 ?_
        cases out with
        | ok d ρ2 => exact fun v2 B2 H2 x2 p2 R2 r2 => f v2 B2 H2 (x1.trans x2) (fun z => by
            obtain ⟨c1, c2⟩ := Bool.and_eq_true_iff.mp z
            obtain ⟨c2, c3⟩ := Bool.and_eq_true_iff.mp c2
            exact ⟨(p1 c1).1.trans (p2 c3).1, (p2 c3).2.trans (p1 c1).2⟩) R2 (by
            cases ck : (a.k && b.k) with
            | true => rw [(Bool.and_eq_true_iff.mp ck).2] at r2; exact r2
            | false => exact rep_up R2 r2)
        | ex x ρ2 => exact fun cls d B2 H2 x2 R2 xr => f cls d B2 H2 (x1.trans x2) R2 xr
    · exact c.ok F W ρ σ B H _ _ e1 R fun cls d B1 H1 x1 R1 xr => f cls d B1 H1 x1 R1 xr

/-! ### targets -/
def kills (ρ : Env) : List Nat → Env
  | [] => ρ
  | i :: is => (kills ρ is).set i .non
structure MG (K : PySem.W.Frag) where
  t : TG
  m : U → Env → Option Env
  is : List Nat
  ok : ∀ (F : Fc) (ρ ρ' : Env) (σ : St) (B H : Hp) (u : U) (v : V) (Q : St → Hp → Prop), m u ρ = some ρ' → Rel K F ρ σ B H → Rep K B u v →
    (∀ σ', Rel K F ρ' σ' B H → σ'.length = σ.length → (∀ j, j ∉ is → σ'[j]? = σ[j]?) → Q σ' H) → t v σ H Q
structure MGs (K : PySem.W.Frag) where
  t : TGs
  m : List U → Env → Option Env
  is : List Nat
  ok : ∀ (F : Fc) (ρ ρ' : Env) (σ : St) (B H : Hp) (us : List U) (vs : List V) (Q : St → Hp → Prop), m us ρ = some ρ' → Rel K F ρ σ B H → RepL K B us vs →
    (∀ σ', Rel K F ρ' σ' B H → σ'.length = σ.length → (∀ j, j ∉ is → σ'[j]? = σ[j]?) → Q σ' H) → t vs σ H Q
def mgName (i : Nat) : MG K where
  t := gName i
  m := fun u ρ => some (ρ.set i (.val u))
  is := [i]
  ok := fun F ρ ρ' σ B H u v Q e R r f => by
    cases e
    refine f _ (R.setV r) (by simp) fun j hj => ?_
    rw [List.getElem?_set_ne (by intro c; subst c; simp at hj)]
def mgNil : MGs K where
  t := gNil
  m := fun us ρ => match us with
    | [] => some ρ
    | _ => none
  is := []
  ok := fun F ρ ρ' σ B H us vs Q e R r f => by
    split at e
    · cases e; cases r; exact ⟨rfl, f σ R rfl fun _ _ => rfl⟩
    · cases e
def mgCons (g : MG K) (gs : MGs K) : MGs K where
  t := gCons g.t gs.t
  m := fun us ρ => match us with
    | u :: us => (g.m u ρ).bind fun ρ1 => gs.m us ρ1
    | [] => none
  is := g.is ++ gs.is
  ok := fun F ρ ρ' σ B H us vs Q e R r f => by
    split at e
    · rename_i u us
      obtain ⟨ρ1, e1, e2⟩ := Option.bind_eq_some_iff.mp e
      obtain ⟨v, vr, rfl, r1, r2⟩ := r
      refine ⟨v, vr, rfl, g.ok F ρ ρ1 σ B H u v _ e1 R r1 fun σ1 R1 l1 h1 => ?_⟩
      refine gs.ok F ρ1 ρ' σ1 B H us vr _ e2 R1 r2 fun σ2 R2 l2 h2 => f σ2 R2 (l2.trans l1) fun j hj => ?_
      rw [List.mem_append] at hj
      rw [h2 j (fun z => hj (.inr z)), h1 j (fun z => hj (.inl z))]
    · cases e
def mgTup (n : Nat) (gs : MGs K) : MG K where
  t := gTup K n gs.t
  m := fun u ρ => match u with
    | .tup us => if us.length = n then gs.m us ρ else none
    | _ => none
  is := gs.is
  ok := fun F ρ ρ' σ B H u v Q e R r f => by
    split at e
    · rename_i us
      split at e
      · rename_i hl
        obtain ⟨a, vs, rfl, h1, h2⟩ := r
        exact ⟨a, vs, rfl, Ex.t R.ex h1, by rw [h2.length, hl], gs.ok F ρ ρ' σ B H us vs Q e R h2 f⟩
      · cases e
    · cases e

/-! ### statements -/
inductive RV where
  | val (u : U)
  | cel (us : List U)
inductive SO where
  | nx (ρ : Env) | bk (ρ : Env) | ct (ρ : Env) | rt (r : RV) (ρ : Env) | ex (e : Exn) (ρ : Env)
def FinR (K : PySem.W.Frag) (F : Fc) (D : Ends) (B : Hp) : SO → Prop
  | .rt (.val u) ρ' => ∀ v σ' B' H', Ex B B' → Rel K F ρ' σ' B' H' → Rep K B' u v → D.rt v H'
  | .rt (.cel us) ρ' => ∀ q ws σ' B' H', Ex B B' → Rel K F ρ' σ' B' H' → H' q = some (.lst ws) → B' q = none → F.H0 q = none → RepL K B' us ws → D.rt (.ref q) H'
  | _ => True
def FinS (K : PySem.W.Frag) (F : Fc) (W : WX) (D : Ends) (B : Hp) : SO → Prop
  | .nx ρ' => ∀ σ' B' H', Ex B B' → Rel K F ρ' σ' B' H' → D.nx σ' H'
  | .bk ρ' => ∀ σ' B' H', Ex B B' → Rel K F ρ' σ' B' H' → D.bk σ' H'
  | .ct ρ' => ∀ σ' B' H', Ex B B' → Rel K F ρ' σ' B' H' → D.ct σ' H'
  | .ex e ρ' => ∀ cls d σ' B' H', Ex B B' → Rel K F ρ' σ' B' H' → XRel K e cls d H' → W cls d σ' H'
  | o => FinR K F D B o
theorem FinR.mono {F : Fc} {D D' : Ends} {B B1 : Hp} {o : SO} (x : Ex B B1) (hd : D'.rt = D.rt) (f : FinR K F D B o) : FinR K F D' B1 o := by
  cases o with
  | rt r ρ =>
    cases r with
    | val u => exact fun v σ' B' H' x1 R r => by rw [hd]; exact f v σ' B' H' (x.trans x1) R r
    | cel us => exact fun q ws σ' B' H' x1 R h1 h2 h3 r => by rw [hd]; exact f q ws σ' B' H' (x.trans x1) R h1 h2 h3 r
  | _ => trivial
theorem FinS.mono {F : Fc} {W : WX} {D : Ends} {B B1 : Hp} {o : SO} (x : Ex B B1) (f : FinS K F W D B o) : FinS K F W D B1 o := by
  cases o with
  | nx ρ => exact fun σ' B' H' x1 R => f σ' B' H' (x.trans x1) R
  | bk ρ => exact fun σ' B' H' x1 R => f σ' B' H' (x.trans x1) R
  | ct ρ => exact fun σ' B' H' x1 R => f σ' B' H' (x.trans x1) R
  | ex e ρ => exact fun cls d σ' B' H' x1 R => f cls d σ' B' H' (x.trans x1) R
  | rt r ρ => exact FinR.mono (o := .rt r ρ) x rfl f
structure MS (K : PySem.W.Frag) where
  t : WX → TS
  m : Env → Option SO
  ok : ∀ (F : Fc) (W : WX) (ρ : Env) (σ : St) (B H : Hp) (D : Ends) (o : SO), m ρ = some o → Rel K F ρ σ B H → FinS K F W D B o → t W D σ H
def bindES (a : Option EO) (f : U → Env → Option SO) : Option SO :=
  match a with
  | none => none
  | some (.ex e ρ) => some (.ex e ρ)
  | some (.ok u ρ) => f u ρ
theorem bindES_some {a : Option EO} {f : U → Env → Option SO} {o : SO} (h : bindES a f = some o) : (∃ u ρ', a = some (.ok u ρ') ∧ f u ρ' = some o) ∨ ∃ e ρ', a = some (.ex e ρ') ∧ o = .ex e ρ' := by
  cases a with
  | none => cases h
  | some x =>
    cases x with
    | ok u ρ => exact .inl ⟨u, ρ, rfl, h⟩
    | ex e ρ => exact .inr ⟨e, ρ, rfl, (Option.some.inj h).symm⟩
def bindAS (a : Option AO) (f : List U → Env → Option SO) : Option SO :=
  match a with
  | none => none
  | some (.ex e ρ) => some (.ex e ρ)
  | some (.ok u ρ) => f u ρ
theorem bindAS_some {a : Option AO} {f : List U → Env → Option SO} {o : SO} (h : bindAS a f = some o) : (∃ u ρ', a = some (.ok u ρ') ∧ f u ρ' = some o) ∨ ∃ e ρ', a = some (.ex e ρ') ∧ o = .ex e ρ' := by
  cases a with
  | none => cases h
  | some x =>
    cases x with
    | ok u ρ => exact .inl ⟨u, ρ, rfl, h⟩
    | ex e ρ => exact .inr ⟨e, ρ, rfl, (Option.some.inj h).symm⟩
def bindTS (a : Option TOu) (f : Bool → Env → Option SO) : Option SO :=
  match a with
  | none => none
  | some (.ex e ρ) => some (.ex e ρ)
  | some (.ok u ρ) => f u ρ
theorem bindTS_some {a : Option TOu} {f : Bool → Env → Option SO} {o : SO} (h : bindTS a f = some o) : (∃ u ρ', a = some (.ok u ρ') ∧ f u ρ' = some o) ∨ ∃ e ρ', a = some (.ex e ρ') ∧ o = .ex e ρ' := by
  cases a with
  | none => cases h
  | some x =>
    cases x with
    | ok u ρ => exact .inl ⟨u, ρ, rfl, h⟩
    | ex e ρ => exact .inr ⟨e, ρ, rfl, (Option.some.inj h).symm⟩
def msNil : MS K where
  t := fun _ => tNext
  m := fun ρ => some (.nx ρ)
  ok := fun F W ρ σ B H D o e R f => by cases e; exact f σ B H Ex.refl R
def thenS (a : Option SO) (f : Env → Option SO) : Option SO :=
  match a with
  | some (.nx ρ) => f ρ
  | o => o
def msSeq (a b : MS K) : MS K where
  t := fun W => tSeq (a.t W) (b.t W)
  m := fun ρ => thenS (a.m ρ) b.m
  ok := fun F W ρ σ B H D o e R f => by
    cases ea : a.m ρ with
    | none => rw [ea] at e; cases e
    | some x =>
      rw [ea] at e
      refine a.ok F W ρ σ B H _ x ea R ?_
      cases x with
      | nx ρ1 => exact fun σ1 B1 H1 x1 R1 => b.ok F W ρ1 σ1 B1 H1 D o e R1 (f.mono x1)
      | bk ρ1 => cases e; exact f
      | ct ρ1 => cases e; exact f
      | rt r ρ1 => cases e; exact FinR.mono (o := .rt r ρ1) Ex.refl rfl f
      | ex r ρ1 => cases e; exact f
def msIf (c : MT K) (a b : MS K) : MS K where
  t := fun W => tIfS (c.t W) (a.t W) (b.t W)
  m := fun ρ => bindTS (c.m ρ) fun x ρ1 => if x = true then a.m ρ1 else b.m ρ1
  ok := fun F W ρ σ B H D o e R f => by
    rcases bindTS_some e with ⟨x, ρ1, e1, e⟩ | ⟨x, ρ1, e1, rfl⟩
    · refine c.ok F W ρ σ B H _ _ e1 R fun B1 H1 x1 p1 R1 => ?_
      cases x with
      | true =>
        rw [if_pos rfl] at e ⊢
        exact a.ok F W ρ1 σ B1 H1 D o e R1 (f.mono x1)
      | false =>
        rw [if_neg (by decide)] at e ⊢
        exact b.ok F W ρ1 σ B1 H1 D o e R1 (f.mono x1)
    · exact c.ok F W ρ σ B H _ _ e1 R fun cls d B1 H1 x1 R1 xr => f cls d σ B1 H1 x1 R1 xr
/-- target = e -/
def msAsg (e : ME K) (g : MG K) (h : e.k = true := by exact id rfl) : MS K where
  t := fun W => tAsg (e.t W) g.t
  m := fun ρ => bindES (e.m ρ) fun u ρ1 => (g.m u ρ1).map .nx
  ok := fun F W ρ σ B H D o q R f => by
    rcases bindES_some q with ⟨u, ρ1, e1, q⟩ | ⟨x, ρ1, e1, rfl⟩
    · refine e.ok F W ρ σ B H _ _ e1 R fun v1 B1 H1 x1 p1 R1 r1 => ?_
      obtain ⟨ρ2, e2, rfl⟩ := Option.map_eq_some_iff.mp q
      rw [h] at r1
      exact g.ok F ρ1 ρ2 σ B1 H1 u v1 _ e2 R1 r1 fun σ' R2 _ _ => f σ' B1 H1 x1 R2
    · exact e.ok F W ρ σ B H _ _ e1 R fun cls d B1 H1 x1 R1 xr => f cls d σ B1 H1 x1 R1 xr
/-- name = a new list, ours -/
def msAsgF (e : MF K) (i : Nat) : MS K where
  t := fun W => tAsg (e.t W) (gName i)
  m := fun ρ => bindAS (e.m ρ) fun us ρ1 => some (.nx (ρ1.set i (.cel true us)))
  ok := fun F W ρ σ B H D o q R f => by
    rcases bindAS_some q with ⟨us, ρ1, e1, q⟩ | ⟨x, ρ1, e1, rfl⟩
    · cases q
      exact e.ok F W ρ σ B H _ _ e1 R fun q ws B1 H1 x1 p1 R1 h1 h2 h3 h4 h5 r1 => f _ B1 H1 x1 (R1.setC h1 h2 r1 h3 h4 h5)
    · exact e.ok F W ρ σ B H _ _ e1 R fun cls d B1 H1 x1 R1 xr => f cls d σ B1 H1 x1 R1 xr
def msDrop (e : ME K) : MS K where
  t := fun W => tDrop (e.t W)
  m := fun ρ => bindES (e.m ρ) fun _ ρ1 => some (.nx ρ1)
  ok := fun F W ρ σ B H D o q R f => by
    rcases bindES_some q with ⟨u, ρ1, e1, q⟩ | ⟨x, ρ1, e1, rfl⟩
    · cases q
      exact e.ok F W ρ σ B H _ _ e1 R fun v1 B1 H1 x1 p1 R1 r1 => f σ B1 H1 x1 R1
    · exact e.ok F W ρ σ B H _ _ e1 R fun cls d B1 H1 x1 R1 xr => f cls d σ B1 H1 x1 R1 xr
def msRet (e : ME K) (h : e.k = true := by exact id rfl) : MS K where
  t := fun W => tRet (e.t W)
  m := fun ρ => bindES (e.m ρ) fun u ρ1 => some (.rt (.val u) ρ1)
  ok := fun F W ρ σ B H D o q R f => by
    rcases bindES_some q with ⟨u, ρ1, e1, q⟩ | ⟨x, ρ1, e1, rfl⟩
    · cases q
      refine e.ok F W ρ σ B H _ _ e1 R fun v1 B1 H1 x1 p1 R1 r1 => ?_
      rw [h] at r1
      exact f v1 σ B1 H1 x1 R1 r1
    · exact e.ok F W ρ σ B H _ _ e1 R fun cls d B1 H1 x1 R1 xr => f cls d σ B1 H1 x1 R1 xr
def msRetF (e : MF K) : MS K where
  t := fun W => tRet (e.t W)
  m := fun ρ => bindAS (e.m ρ) fun us ρ1 => some (.rt (.cel us) ρ1)
  ok := fun F W ρ σ B H D o q R f => by
    rcases bindAS_some q with ⟨us, ρ1, e1, q⟩ | ⟨x, ρ1, e1, rfl⟩
    · cases q
      exact e.ok F W ρ σ B H _ _ e1 R fun q ws B1 H1 x1 p1 R1 h1 h2 h3 h4 h5 r1 => f q ws σ B1 H1 x1 R1 h1 h2 h3 r1
    · exact e.ok F W ρ σ B H _ _ e1 R fun cls d B1 H1 x1 R1 xr => f cls d σ B1 H1 x1 R1 xr
/-- return found, a list of ours -/
def msRetC (i : Nat) : MS K where
  t := fun _ => tRet (tVar i)
  m := fun ρ => match ρ[i]? with
    | some (.cel true us) => some (.rt (.cel us) (ρ.set i .non))
    | _ => none
  ok := fun F W ρ σ B H D o q R f => by
    split at q
    · rename_i us hu
      cases q
      obtain ⟨p, ws, hv, h1, h2, h3, h4⟩ := R.sl i _ hu
      exact ⟨_, getD_some hv, f p ws σ B H Ex.refl R.kill h1 h2 h4 h3⟩
    · cases q
def msRetN : MS K where
  t := fun _ => tRetN
  m := fun ρ => some (.rt (.val .non) ρ)
  ok := fun F W ρ σ B H D o q R f => by cases q; exact f .non σ B H Ex.refl R rfl
def msPass : MS K := msNil
def msBrk : MS K where
  t := fun _ => tBreak
  m := fun ρ => some (.bk ρ)
  ok := fun F W ρ σ B H D o q R f => by cases q; exact f σ B H Ex.refl R
def msCont : MS K where
  t := fun _ => tCont
  m := fun ρ => some (.ct ρ)
  ok := fun F W ρ σ B H D o q R f => by cases q; exact f σ B H Ex.refl R
/-- raise C('..') of an own class without fields -/
def msRaise (c : Str) : MS K where
  t := fun W => fun _ σ H => W (.ref (He.ga K c)) none σ H
  m := fun ρ => some (.ex ⟨c, none⟩ ρ)
  ok := fun F W ρ σ B H D o q R f => by cases q; exact f _ none σ B H Ex.refl R ⟨rfl, rfl⟩

/-! ### loops -/
/-- what the walked thing gives, as long as the known part stands -/
def ItOk (K : PySem.W.Frag) (B : Hp) (us : List U) (J : It) : Prop :=
  ∀ (i : Nat) (B1 H1 : Hp), Ex B B1 → Ex B1 H1 → (us.length ≤ i → J.stop i H1) ∧ ∀ u, us[i]? = some u → J.go i H1 ∧ ∀ x H2, J.yld i H1 x H2 → ∃ B2, Go [] B1 H1 B2 H2 ∧ Rep K B2 u x
def FinI (K : PySem.W.Frag) (F : Fc) (W : WX) (ρ : Env) (σ : St) (B H : Hp) (R : It → Hp → Prop) : AO → Prop
  | .ok us ρ' => ∀ J B' H', Ex B B' → Rel K F ρ' σ B' H' → ItOk K B' us J → R J H'
  | .ex e ρ' => ∀ cls d B' H', Ex B B' → Rel K F ρ' σ B' H' → XRel K e cls d H' → W cls d σ H'
structure MI (K : PySem.W.Frag) where
  t : WX → TI
  m : Env → Option AO
  ok : ∀ (F : Fc) (W : WX) (ρ : Env) (σ : St) (B H : Hp) (R : It → Hp → Prop) (o : AO), m ρ = some o → Rel K F ρ σ B H → FinI K F W ρ σ B H R o → t W σ H R
def loopM (g : U → Env → Option Env) (b : Env → Option SO) (kl : List Nat) : List U → Env → Option SO
  | [], ρ => some (.nx ρ)
  | u :: us, ρ => match g u ρ with
    | none => none
    | some ρ1 => match b ρ1 with
      | none => none
      | some (.nx ρ2) => loopM g b kl us (kills ρ2 kl)
      | some (.ct ρ2) => loopM g b kl us (kills ρ2 kl)
      | some (.bk ρ2) => some (.nx (kills ρ2 kl))
      | some (.rt r ρ2) => some (.rt r ρ2)
      | some (.ex e ρ2) => some (.ex e ρ2)
theorem Rel.killAll {F : Fc} {ρ : Env} {σ : St} {B H : Hp} (R : Rel K F ρ σ B H) : ∀ is : List Nat, Rel K F (kills ρ is) σ B H
  | [] => R
  | _ :: is => (Rel.killAll R is).kill
def msFor (it : MI K) (g : MG K) (b : MS K) (kl : List Nat) : MS K where
  t := fun W => tFor (it.t W) g.t (b.t W)
  m := fun ρ => bindAS (it.m ρ) fun us ρ1 => loopM g.m b.m kl us ρ1
  ok := fun F W ρ σ B H D o q R f => by
    rcases bindAS_some q with ⟨us, ρ1, e1, q⟩ | ⟨x, ρ1, e1, rfl⟩
    · refine it.ok F W ρ σ B H _ _ e1 R fun J B1 H1 x1 R1 ji => ?_
      refine ⟨fun i m σ' H' => m = us.length - i ∧ i ≤ us.length ∧ ∃ ρ' B', Ex B1 B' ∧ Rel K F ρ' σ' B' H' ∧ loopM g.m b.m kl (us.drop i) ρ' = some o, ⟨us.length, rfl, Nat.zero_le _, ρ1, B1, Ex.refl, R1, q⟩, ?_⟩
      rintro i m σ' H' ⟨rfl, hi, ρ', B', xb, R', e'⟩
      obtain ⟨j1, j2⟩ := ji i B' H' xb R'.ex
      by_cases hlt : i < us.length
      · obtain ⟨jg, jy⟩ := j2 us[i] (List.getElem?_eq_getElem hlt)
        refine .inr ⟨jg, fun σ2 H2 => ∃ ρ2 B2, Ex B1 B2 ∧ Rel K F ρ2 σ2 B2 H2 ∧ loopM g.m b.m kl (us.drop (i + 1)) ρ2 = some o, fun σ2 H2 h => ⟨us.length - (i + 1), by omega, rfl, hlt, h⟩, fun x H2 y => ?_⟩
        obtain ⟨B2, gg, rx⟩ := jy x H2 y
        rw [List.drop_eq_getElem_cons hlt] at e'
        unfold loopM at e'
        split at e'
        · cases e'
        · rename_i ρ3 eg
          refine g.ok F ρ' ρ3 σ' B2 H2 _ x _ eg (R'.grow gg) rx fun σ3 R3 _ _ => ?_
          have xb2 : Ex B1 B2 := xb.trans gg.bb
          have xB : Ex B B2 := x1.trans xb2
          split at e'
          · cases e'
          · rename_i ρ4 eb
            exact b.ok F W ρ3 σ3 B2 H2 _ _ eb R3 fun σ4 B4 H4 x4 R4 => ⟨_, B4, xb2.trans x4, R4.killAll kl, e'⟩
          · rename_i ρ4 eb
            exact b.ok F W ρ3 σ3 B2 H2 _ _ eb R3 fun σ4 B4 H4 x4 R4 => ⟨_, B4, xb2.trans x4, R4.killAll kl, e'⟩
          · rename_i ρ4 eb
            cases e'
            exact b.ok F W ρ3 σ3 B2 H2 _ _ eb R3 fun σ4 B4 H4 x4 R4 => f σ4 B4 H4 (xB.trans x4) (R4.killAll kl)
          · rename_i r ρ4 eb
            cases e'
            exact b.ok F W ρ3 σ3 B2 H2 _ _ eb R3 (FinR.mono (o := .rt r ρ4) xB rfl f)
          · rename_i r ρ4 eb
            cases e'
            exact b.ok F W ρ3 σ3 B2 H2 _ _ eb R3 fun cls d σ4 B4 H4 x4 R4 xr => f cls d σ4 B4 H4 (xB.trans x4) R4 xr
      · have ei : i = us.length := by omega
        subst ei
        rw [List.drop_length] at e'
        cases e'
        exact .inl ⟨j1 (Nat.le_refl _), f σ' B' H' (x1.trans xb) R'⟩
    · exact it.ok F W ρ σ B H _ _ e1 R fun cls d B1 H1 x1 R1 xr => f cls d σ B1 H1 x1 R1 xr
end Sg

set_option Elab.async false
set_option linter.all false
set_option maxRecDepth 100000
set_option maxHeartbeats 4000000
namespace Sg
open PySem L2
variable {K : PySem.W.Frag}

/-! ### comprehensions -/
def Fc.push (F : Fc) (D : Addr) (o : HO) : Fc := { F with X := (D, o) :: F.X }
theorem Rel.addX {F : Fc} {ρ : Env} {σ : St} {B H : Hp} {D : Addr} {o : HO} (R : Rel K F ρ σ B H) (h : H D = none) : Rel K (F.push D o) ρ σ B (upd H D o) := by
  have R2 := R.grow (Go.newC (o := o) R.ex h)
  refine ⟨R2.len, R2.ex, R2.sl, R2.ds, R2.bb, R2.hh, R2.th, R2.nw, fun a u e => ?_, fun a u e j s es c => ?_, ?_⟩
  · rcases List.mem_cons.mp e with e | e
    · cases e; exact ⟨upd_same, R.ex.none h, R.fresh0 h⟩
    · exact R2.xx a u e
  · rcases List.mem_cons.mp e with e | e
    · cases e; exact R.notC h j s es c
    · exact R2.xs a u e j s es c
  · show ((D, o) :: F.X |>.map (·.1)).Nodup
    rw [List.map_cons, List.nodup_cons]
    refine ⟨fun hm => ?_, R.xd⟩
    obtain ⟨⟨a, u⟩, hu, e⟩ := List.mem_map.mp hm
    have e' : a = D := e
    rw [e'] at hu
    rw [(R.xx D u hu).1] at h; cases h
theorem Rel.getX {F : Fc} {ρ : Env} {σ : St} {B H : Hp} {D : Addr} {o : HO} (R : Rel K (F.push D o) ρ σ B H) : H D = some o ∧ B D = none ∧ F.H0 D = none := R.xx D o List.mem_cons_self
theorem Rel.updX {F : Fc} {ρ : Env} {σ : St} {B H : Hp} {D : Addr} {o o' : HO} (R : Rel K (F.push D o) ρ σ B H) : Rel K (F.push D o') ρ σ B (upd H D o') := by
  obtain ⟨h1, h2, h3⟩ := R.getX
  have nd : D ∉ F.X.map (·.1) := (List.nodup_cons.mp R.xd).1
  have g := Go.wr (o := o') R.ex h2
  refine ⟨R.len, g.bh, fun i s e => ?_, R.ds, R.bb, fun a u n e => ?_, fun a u e => ?_, R.nw, fun a u e => ?_, fun a u e j s es c => ?_, ?_⟩
  · have q := R.sl i s e
    cases s with
    | non => trivial
    | val u => exact q
    | cel own vs =>
      obtain ⟨p', ws2, e', q1, q2, q3, q4⟩ := q
      have np : p' ≠ D := fun c => R.xs D o List.mem_cons_self i _ e rfl (by rw [e', c])
      exact ⟨p', ws2, e', by rw [upd_ne np]; exact q1, q2, q3, q4⟩
    | celD own vs =>
      obtain ⟨p', ws2, e', q1, q2, q3, q4⟩ := q
      have np : p' ≠ D := fun c => R.xs D o List.mem_cons_self i _ e rfl (by rw [e', c])
      exact ⟨p', ws2, e', by rw [upd_ne np]; exact q1, q2, q3, q4⟩
  · have e' : F.H0 a = some u := e
    have np : a ≠ D := fun c => by rw [c, h3] at e'; cases e'
    rw [upd_ne np]; exact R.hh a u n e
  · obtain ⟨o', h'⟩ := R.th a u e
    exact g.th a o' h'
  · rcases List.mem_cons.mp e with e | e
    · cases e; exact ⟨upd_same, h2, h3⟩
    · obtain ⟨z1, z2, z3⟩ := R.xx a u (List.mem_cons_of_mem _ e)
      have np : a ≠ D := fun c => nd (List.mem_map.mpr ⟨(a, u), e, c⟩)
      exact ⟨by rw [upd_ne np]; exact z1, z2, z3⟩
  · rcases List.mem_cons.mp e with e | e
    · cases e; exact R.xs D o List.mem_cons_self j s es c
    · exact R.xs a u (List.mem_cons_of_mem _ e) j s es c
  · exact R.xd
theorem Rel.popX {F : Fc} {ρ : Env} {σ : St} {B H : Hp} {D : Addr} {o : HO} (R : Rel K (F.push D o) ρ σ B H) : Rel K F ρ σ B H :=
  ⟨R.len, R.ex, R.sl, R.ds, R.bb, R.hh, R.th, R.nw, fun a u e => R.xx a u (List.mem_cons_of_mem _ e), fun a u e => R.xs a u (List.mem_cons_of_mem _ e), (List.nodup_cons.mp R.xd).2⟩
theorem Rel.notX {F : Fc} {ρ : Env} {σ : St} {B H : Hp} {D : Addr} {o : HO} (R : Rel K (F.push D o) ρ σ B H) : ∀ u, (D, u) ∉ F.X := fun u h =>
  (List.nodup_cons.mp R.xd).1 (List.mem_map.mpr ⟨(D, u), h, rfl⟩)

theorem wipe_get (σ : St) : ∀ (vs : List Nat) (j : Nat), (wipe σ vs)[j]? = if j ∈ vs then (if j < σ.length then some none else none) else σ[j]?
  | [], j => by simp [wipe]
  | v :: vs, j => by
    unfold wipe
    rw [List.getElem?_set, wipe_length, wipe_get σ vs j]
    by_cases c : v = j
    · subst c; simp
    · rw [if_neg c]
      have : (j ∈ v :: vs) ↔ j ∈ vs := by simp [Ne.symm c]
      simp only [this]
theorem wipe_eq {σ σ' : St} {vs : List Nat} (hl : σ'.length = σ.length) (h : ∀ j, j ∉ vs → σ'[j]? = σ[j]?) : wipe σ' vs = wipe σ vs := by
  apply List.ext_getElem?
  intro j
  rw [wipe_get, wipe_get, hl]
  by_cases c : j ∈ vs
  · rw [if_pos c, if_pos c]
  · rw [if_neg c, if_neg c, h j c]
theorem wipe_wipe (σ : St) (vs : List Nat) : wipe (wipe σ vs) vs = wipe σ vs := wipe_eq (wipe_length σ vs) fun j c => by rw [wipe_get, if_neg c]
theorem Rel.wiped {F : Fc} {ρ : Env} {σ : St} {B H : Hp} (R : Rel K F ρ σ B H) : ∀ vs : List Nat, Rel K F (kills ρ vs) (wipe σ vs) B H
  | [] => R
  | _ :: vs => (Rel.wiped R vs).killσ
theorem kills_get (ρ : Env) : ∀ (vs : List Nat) (j : Nat), j ∈ vs → ∀ s, (kills ρ vs)[j]? = some s → s = .non
  | v :: vs, j, h, s, e => by
    unfold kills at e
    rw [List.getElem?_set] at e
    by_cases c : v = j
    · rw [if_pos c] at e
      split at e
      · exact (Option.some.inj e).symm
      · cases e
    · rw [if_neg c] at e
      exact kills_get ρ vs j (by rcases List.mem_cons.mp h with q | q; exact absurd q.symm c; exact q) s e
theorem Rel.unwipe {F : Fc} {ρ : Env} {σ : St} {B H : Hp} {vs : List Nat} (R : Rel K F (kills ρ vs) (L2.wipe σ vs) B H) : Rel K F (kills ρ vs) σ B H := by
  have gd : ∀ j, j ∉ vs → (L2.wipe σ vs).getD j none = σ.getD j none := fun j c => by
    rw [List.getD_eq_getElem?_getD, List.getD_eq_getElem?_getD, wipe_get, if_neg c]
  have nc : ∀ (j : Nat) s, (kills ρ vs)[j]? = some s → s.isC = true → j ∉ vs := fun j s e c hm => by
    rw [kills_get ρ vs j hm s e] at c; cases c
  refine ⟨by have := R.len; rw [wipe_length] at this; exact this, R.ex, fun j s e => ?_, fun i j s t p ne e1 e2 c1 c2 h1 h2 => ?_, R.bb, R.hh, R.th, R.nw, R.xx, fun a o h j s e c => ?_, R.xd⟩
  · by_cases hm : j ∈ vs
    · rw [kills_get ρ vs j hm s e]; trivial
    · rw [← gd j hm]; exact R.sl j s e
  · rw [← gd i (nc i s e1 c1)] at h1
    rw [← gd j (nc j t e2 c2)] at h2
    exact R.ds i j s t p ne e1 e2 c1 c2 h1 h2
  · rw [← gd j (nc j s e c)]; exact R.xs a o h j s e c
/-- the ifs of a comprehension -/
structure MTs (K : PySem.W.Frag) where
  t : WX → TT
  m : Env → Option TOu
  ok : ∀ (F : Fc) (W : WX) (ρ : Env) (σ : St) (B H : Hp) (Q : Bool → Hp → Prop) (o : TOu), m ρ = some o → Rel K F ρ σ B H → FinT K F W false ρ σ B H Q o → t W σ H Q
def mtYes : MTs K where
  t := fun _ => tYes
  m := fun ρ => some (.ok true ρ)
  ok := fun F W ρ σ B H Q o e R f => by cases e; exact f B H Ex.refl (fun z => nomatch z) R
def mtOne (a : MT K) : MTs K where
  t := a.t
  m := a.m
  ok := fun F W ρ σ B H Q o e R f => a.ok F W ρ σ B H Q o e R (by
    cases o with
    | ok b ρ' => exact fun B' H' x p R' => f B' H' x (fun z => nomatch z) R'
    | ex e ρ' => exact f)
def WNo : WX := fun _ _ _ _ => False
def lcM (g : U → Env → Option Env) (tt : Env → Option TOu) (e : Env → Option EO) (vs : List Nat) : List U → List U → Env → Option AO
  | [], acc, ρ => some (.ok acc ρ)
  | u :: us, acc, ρ => match g u ρ with
    | none => none
    | some ρ1 => match tt ρ1 with
      | some (.ok false ρ2) => lcM g tt e vs us acc (kills ρ2 vs)
      | some (.ok true ρ2) => match e ρ2 with
        | some (.ok w ρ3) => if acc.length < 16777216 then lcM g tt e vs us (acc ++ [w]) (kills ρ3 vs) else none
        | _ => none
      | _ => none
/-- [e for g in it if tt] -/
def mLc (it : MI K) (g : MG K) (tt : MTs K) (e : ME K) (vs : List Nat) (hg : (g.is.all fun i => vs.contains i) = true := by exact id rfl) (hk : e.k = true := by exact id rfl) : MF K where
  t := fun W => tLc (it.t W) g.t (tt.t WNo) (e.t WNo) vs
  m := fun ρ => match it.m ρ with
    | some (.ok us ρ1) => lcM g.m tt.m e.m vs us [] (kills ρ1 vs)
    | o => o
  p := false
  ok := fun F W ρ σ B H Q out q R f => by
    have sub : ∀ j, j ∉ vs → j ∉ g.is := fun j c hm => c (by
      have := List.all_eq_true.mp hg j hm
      simpa using this)
    split at q
    · rename_i us ρ1 e1
      refine it.ok F W ρ σ B H _ _ e1 R fun J B1 H1 x1 R1 ji => ?_
      intro D hD
      refine ⟨fun i m H' => m = us.length - i ∧ i ≤ us.length ∧ ∃ ρ' B' acc ws, Ex B1 B' ∧ Rel K (F.push D (.lst ws)) (kills ρ' vs) (wipe σ vs) B' H' ∧ RepL K B' acc ws ∧ lcM g.m tt.m e.m vs (us.drop i) acc (kills ρ' vs) = some out,
        ⟨us.length, rfl, Nat.zero_le _, ρ1, B1, [], [], Ex.refl, (R1.wiped vs).addX hD, rfl, q⟩, ?_⟩
      rintro i m H' ⟨rfl, hi, ρ', B', acc, ws, xb, R', ra, e'⟩
      obtain ⟨j1, j2⟩ := ji i B' H' xb R'.ex
      by_cases hlt : i < us.length
      · obtain ⟨jg, jy⟩ := j2 us[i] (List.getElem?_eq_getElem hlt)
        refine .inr ⟨jg, fun H2 => ∃ ρ2 B2 acc2 ws2, Ex B1 B2 ∧ Rel K (F.push D (.lst ws2)) (kills ρ2 vs) (wipe σ vs) B2 H2 ∧ RepL K B2 acc2 ws2 ∧ lcM g.m tt.m e.m vs (us.drop (i + 1)) acc2 (kills ρ2 vs) = some out, fun H2 h => ⟨us.length - (i + 1), by omega, rfl, hlt, h⟩, fun x H2 y => ?_⟩
        obtain ⟨B2, gg, rx⟩ := jy x H2 y
        rw [List.drop_eq_getElem_cons hlt] at e'
        unfold lcM at e'
        split at e'
        · cases e'
        · rename_i ρ3 eg
          refine g.ok _ _ ρ3 (wipe σ vs) B2 H2 _ x _ eg (R'.grow gg) rx fun σ3 R3 hl hs => ?_
          have hw : wipe σ3 vs = wipe σ vs := by
            rw [wipe_eq (σ := wipe σ vs) hl fun j c => hs j (sub j c), wipe_wipe]
          refine ⟨hw, ?_⟩
          split at e'
          · rename_i ρ4 et
            refine tt.ok _ WNo ρ3 σ3 B2 H2 _ _ et R3 fun B4 H4 x4 _ R4 => ?_
            have R5 := R4.wiped vs
            rw [hw] at R5
            exact ⟨ρ4, B4, acc, ws, (xb.trans gg.bb).trans x4, R5, RepL.mono (gg.bb.trans x4) _ _ ra, e'⟩
          · rename_i ρ4 et
            refine tt.ok _ WNo ρ3 σ3 B2 H2 _ _ et R3 fun B4 H4 x4 _ R4 => ?_
            rw [if_pos rfl]
            split at e'
            · rename_i w ρ5 ee
              split at e'
              · rename_i hlen
                refine e.ok _ WNo ρ4 σ3 B4 H4 _ _ ee R4 fun v5 B5 H5 x5 _ R5 r5 => ?_
                rw [hk] at r5
                have xx : Ex B' B5 := (gg.bb.trans x4).trans x5
                have ra5 := RepL.mono xx _ _ ra
                refine ⟨ws, R5.getX.1, by rw [ra5.length, PySem.sizeLine_eq]; exact hlen, ρ5, B5, acc ++ [w], ws ++ [v5], xb.trans xx, ?_, RepL.append ra5 (RepL.one r5), e'⟩
                have R6 := (R5.updX (o' := .lst (ws ++ [v5]))).wiped vs
                rw [hw] at R6
                exact R6
              · cases e'
            · cases e'
          · cases e'
      · have ei : i = us.length := by omega
        subst ei
        rw [List.drop_length] at e'
        cases e'
        refine .inl ⟨j1 (Nat.le_refl _), ?_⟩
        obtain ⟨h1, h2, h3⟩ := R'.getX
        have R7 := R'.popX.unwipe
        refine f D ws B' H' (x1.trans xb) (fun z => nomatch z) R7 h1 h2 h3 (fun j s es c => ?_) R'.notX ra
        have R8 := R'.xs D (.lst ws) List.mem_cons_self j s es c
        have hj : j ∉ vs := fun hm => by rw [kills_get ρ' vs j hm s es] at c; cases c
        rw [List.getD_eq_getElem?_getD, wipe_get, if_neg hj, ← List.getD_eq_getElem?_getD] at R8
        exact R8
    · rename_i h2
      cases o : it.m ρ with
      | none => rw [o] at q; cases q
      | some x =>
        rw [o] at q; cases q
        cases out with
        | ok us ρ1 => exact absurd o (h2 us ρ1)
        | ex x ρ1 => exact it.ok F W ρ σ B H _ _ o R fun cls d B1 H1 x1 R1 xr => f cls d B1 H1 x1 R1 xr

/-! ### what a def promises, by its mirror -/
inductive CO where
  | val (u : U) (c : Option (List U))
  | cel (us : List U) (c : Option (List U))
  | ex (e : Exn) (c : Option (List U))
def ArgsOk (K : PySem.W.Frag) (B H : Hp) : List Slot → List V → Prop
  | [], vs => vs = []
  | .val u :: r, vs => ∃ v vr, vs = v :: vr ∧ Rep K B u v ∧ ArgsOk K B H r vr
  | .cel _ us :: r, vs => ∃ p ws vr, vs = .ref p :: vr ∧ H p = some (.lst ws) ∧ B p = none ∧ RepL K B us ws ∧ ArgsOk K B H r vr
  | _ :: _, _ => False
def cellsOf : List Slot → List V → List Addr
  | .cel _ _ :: r, .ref p :: vs => p :: cellsOf r vs
  | _ :: r, _ :: vs => cellsOf r vs
  | _, _ => []
def nCel (as : List Slot) : Nat := (as.filter Slot.isC).length
def CellOk (K : PySem.W.Frag) (B H : Hp) (M : List Addr) (c : Option (List U)) : Prop :=
  ∀ p ∈ M, ∃ us ws, c = some us ∧ H p = some (.lst ws) ∧ B p = none ∧ RepL K B us ws
def FinC (K : PySem.W.Frag) (B H : Hp) (M : List Addr) (Q : VK) (E : XK) : CO → Prop
  | .val u c => ∀ v B' H', Go M B H B' H' → CellOk K B' H' M c → Rep K B' u v → Q v H'
  | .cel us c => ∀ q ws B' H', Go M B H B' H' → CellOk K B' H' M c → H' q = some (.lst ws) → B' q = none → H q = none → q ∉ M → RepL K B' us ws → Q (.ref q) H'
  | .ex e c => ∀ cls d B' H', Go M B H B' H' → CellOk K B' H' M c → XRel K e cls d H' → E cls d H'
/-- THE PROMISE -/
def spM (K : PySem.W.Frag) (n : Nat) (mf : List Slot → Option CO) : Sp := fun vs H Q E => ∃ (B : Hp) (as : List Slot) (o : CO),
  Ex B H ∧ as.length = n ∧ ArgsOk K B H as vs ∧ nCel as ≤ 1 ∧ mf as = some o ∧ FinC K B H (cellsOf as vs) Q E o
theorem ArgsOk.length {B H : Hp} : ∀ {as : List Slot} {vs : List V}, ArgsOk K B H as vs → vs.length = as.length
  | [], _, h => by cases h; rfl
  | .val u :: r, _, h => by
    obtain ⟨v, vr, rfl, _, h2⟩ := h
    simp [ArgsOk.length h2]
  | .cel _ us :: r, _, h => by
    obtain ⟨p, ws, vr, rfl, _, _, _, h2⟩ := h
    simp [ArgsOk.length h2]
  | .non :: _, _, h => h.elim
  | .celD _ _ :: _, _, h => h.elim
theorem spM_len {n : Nat} {mf : List Slot → Option CO} (vs : List V) (H : Hp) (Q : VK) (E : XK) (h : spM K n mf vs H Q E) : vs.length = n := by
  obtain ⟨B, as, o, _, e, a, _⟩ := h
  rw [a.length, e]
def unown : Slot → Slot
  | .cel _ us => .cel false us
  | s => s
def cellAt : List Slot → Env → Option (Option (List U))
  | [], _ => some none
  | .cel _ _ :: _, s :: _ => match s with
    | .cel false us => some (some us)
    | _ => none
  | _ :: r, _ :: ρ => cellAt r ρ
  | _, _ => none
/-- the def as a function, of its body -/
def mfOf (N : Nat) (body : Env → Option SO) (as : List Slot) : Option CO :=
  match body (as.map unown ++ List.replicate (N - as.length) .non) with
  | some (.nx ρ) => (cellAt as ρ).map fun c => .val .non c
  | some (.rt (.val u) ρ) => (cellAt as ρ).map fun c => .val u c
  | some (.rt (.cel us) ρ) => (cellAt as ρ).map fun c => .cel us c
  | some (.ex e ρ) => (cellAt as ρ).map fun c => .ex e c
  | _ => none
/-- .. that lets nothing out -/
def mfOf0 (N : Nat) (body : Env → Option SO) (as : List Slot) : Option CO :=
  match mfOf N body as with
  | some (.ex _ _) => none
  | o => o

theorem cells_mem {B H : Hp} : ∀ {as : List Slot} {vs : List V} {i : Nat} {own : Bool} {us : List U}, ArgsOk K B H as vs → as[i]? = some (.cel own us) → ∃ p ws, vs[i]? = some (.ref p) ∧ p ∈ cellsOf as vs ∧ H p = some (.lst ws) ∧ B p = none ∧ RepL K B us ws
  | .val u :: r, _, i, own, us, h, e => by
    obtain ⟨v, vr, rfl, h1, h2⟩ := h
    cases i with
    | zero => cases e
    | succ i =>
      obtain ⟨p, ws, e1, e2, e3⟩ := cells_mem h2 (by simpa using e)
      exact ⟨p, ws, by simpa using e1, by simpa [cellsOf] using e2, e3⟩
  | .cel own' us' :: r, _, i, own, us, h, e => by
    obtain ⟨p, ws, vr, rfl, h0, h1, h2, h3⟩ := h
    cases i with
    | zero => cases e; exact ⟨p, ws, rfl, by simp [cellsOf], h0, h1, h2⟩
    | succ i =>
      obtain ⟨p', ws', e1, e2, e3⟩ := cells_mem h3 (by simpa using e)
      exact ⟨p', ws', by simpa using e1, by simp [cellsOf, e2], e3⟩
  | [], _, _, _, _, _, e => by simp at e
  | .non :: _, _, _, _, _, h, _ => h.elim
  | .celD _ _ :: _, _, _, _, _, h, _ => h.elim
theorem args_val {B H : Hp} : ∀ {as : List Slot} {vs : List V} {i : Nat} {u : U}, ArgsOk K B H as vs → as[i]? = some (.val u) → ∃ v, vs[i]? = some v ∧ Rep K B u v
  | .val u :: r, _, i, w, h, e => by
    obtain ⟨v, vr, rfl, h1, h2⟩ := h
    cases i with
    | zero => cases e; exact ⟨v, rfl, h1⟩
    | succ i =>
      obtain ⟨v', e1, e2⟩ := args_val (i := i) h2 (by simpa using e)
      exact ⟨v', by simpa using e1, e2⟩
  | .cel own' us' :: r, _, i, w, h, e => by
    obtain ⟨p, ws, vr, rfl, h0, h1, h2, h3⟩ := h
    cases i with
    | zero => cases e
    | succ i =>
      obtain ⟨v', e1, e2⟩ := args_val (i := i) h3 (by simpa using e)
      exact ⟨v', by simpa using e1, e2⟩
  | [], _, _, _, _, e => by simp at e
  | .non :: _, _, _, _, h, _ => h.elim
  | .celD _ _ :: _, _, _, _, h, _ => h.elim
theorem cells_none {B H : Hp} : ∀ {as : List Slot} {vs : List V}, ArgsOk K B H as vs → ∀ p ∈ cellsOf as vs, B p = none ∧ ∃ ws, H p = some (.lst ws)
  | .val u :: r, _, h, p, hp => by
    obtain ⟨v, vr, rfl, h1, h2⟩ := h
    exact cells_none h2 p (by simpa [cellsOf] using hp)
  | .cel own' us' :: r, _, h, p, hp => by
    obtain ⟨p', ws, vr, rfl, h0, h1, h2, h3⟩ := h
    have hp' : p ∈ p' :: cellsOf r vr := hp
    rcases List.mem_cons.mp hp' with rfl | q
    · exact ⟨h1, ws, h0⟩
    · exact cells_none h3 p q
  | [], _, _, p, hp => by simp [cellsOf] at hp
  | .non :: _, _, h, _, _ => h.elim
  | .celD _ _ :: _, _, h, _, _ => h.elim
theorem nCel_one {as : List Slot} (h : nCel as ≤ 1) {i j : Nat} {s t : Slot} (hi : as[i]? = some s) (hj : as[j]? = some t) (ci : s.isC = true) (cj : t.isC = true) : i = j := by
  induction as generalizing i j with
  | nil => simp at hi
  | cons a r ih =>
    have hc : nCel (a :: r) = (if a.isC = true then 1 else 0) + nCel r := by
      unfold nCel
      rw [List.filter_cons]
      split <;> simp <;> omega
    have pos : ∀ {k : Nat} {u : Slot}, r[k]? = some u → u.isC = true → 0 < nCel r := fun {k u} hk cu => by
      unfold nCel
      exact List.length_pos_of_mem (List.mem_filter.mpr ⟨List.mem_of_getElem? hk, cu⟩)
    cases i with
    | zero =>
      cases j with
      | zero => rfl
      | succ j =>
        have e : a = s := by simpa using hi
        subst e
        have := pos (k := j) (by simpa using hj) cj
        rw [hc, if_pos ci] at h
        omega
    | succ i =>
      cases j with
      | zero =>
        have e : a = t := by simpa using hj
        subst e
        have := pos (k := i) (by simpa using hi) ci
        rw [hc, if_pos cj] at h
        omega
      | succ j =>
        have : nCel r ≤ 1 := by omega
        exact congrArg Nat.succ (ih this (by simpa using hi) (by simpa using hj))
theorem cells_one {B H : Hp} : ∀ {as : List Slot} {vs : List V}, ArgsOk K B H as vs → (cellsOf as vs).length = nCel as
  | .val u :: r, _, h => by
    obtain ⟨v, vr, rfl, h1, h2⟩ := h
    have := cells_one h2
    simpa [cellsOf, nCel, Slot.isC, List.filter_cons] using this
  | .cel own' us' :: r, _, h => by
    obtain ⟨p', ws, vr, rfl, h0, h1, h2, h3⟩ := h
    have := cells_one h3
    simp only [cellsOf, nCel, List.filter_cons, Slot.isC, if_true, List.length_cons]
    unfold nCel at this
    omega
  | [], _, h => by cases h; rfl
  | .non :: _, _, h => h.elim
  | .celD _ _ :: _, _, h => h.elim
/-- where a def's body begins -/
theorem start_rel {B H : Hp} {as : List Slot} {vs : List V} {N : List Str} (x : Ex B H) (a : ArgsOk K B H as vs) (n1 : nCel as ≤ 1) (hn : as.length ≤ N.length) :
    Rel K ⟨B, H, cellsOf as vs, []⟩ (as.map unown ++ List.replicate (N.length - as.length) .non) (L2.start N vs) B H := by
  have hl := a.length
  have get : ∀ (i : Nat) s, (as.map unown ++ List.replicate (N.length - as.length) Slot.non)[i]? = some s → (i < as.length ∧ ∃ t, as[i]? = some t ∧ s = unown t) ∨ s = .non := fun i s e => by
    by_cases c : i < as.length
    · rw [List.getElem?_append_left (by simpa using c), List.getElem?_map] at e
      obtain ⟨t, e1, e2⟩ := Option.map_eq_some_iff.mp e
      exact .inl ⟨c, t, e1, e2.symm⟩
    · rw [List.getElem?_append_right (by simpa using c)] at e
      exact .inr (List.eq_of_mem_replicate (List.mem_of_getElem? e))
  have gv : ∀ i, i < as.length → (L2.start N vs).getD i none = vs[i]? := fun i c => by
    unfold L2.start
    rw [List.getD_eq_getElem?_getD, List.getElem?_append_left (by simpa [hl] using c), List.getElem?_map]
    have : i < vs.length := by omega
    rw [List.getElem?_eq_getElem this]
    rfl
  have cel : ∀ {s : Slot} {t : Slot}, s = unown t → s.isC = true → t.isC = true := fun {s t} e c => by
    subst e
    cases t <;> first | exact c | rfl
  refine ⟨by simp [L2.start, hl], x, fun i s e => ?_, fun i j s t p ne e1 e2 c1 c2 _ _ => ?_, Ex.refl, fun _ _ _ h => h, fun _ o h => ⟨o, h⟩, fun _ _ h _ => h, fun _ _ h => by simp at h, fun _ _ h => by simp at h, by simp⟩
  · rcases get i s e with ⟨c, t, e1, rfl⟩ | rfl
    · rw [gv i c]
      cases t with
      | non => trivial
      | val u =>
        obtain ⟨v, e2, r⟩ := args_val a e1
        exact ⟨v, e2, r⟩
      | cel own us =>
        obtain ⟨p, ws, e2, hm, h1, h2, h3⟩ := cells_mem a e1
        exact ⟨p, ws, e2, h1, h2, h3, hm⟩
      | celD own us =>
        exfalso
        have bad : ∀ {as : List Slot} {vs : List V} {i : Nat}, ArgsOk K B H as vs → as[i]? = some (.celD own us) → False := by
          intro as
          induction as with
          | nil => intro vs i _ e; simp at e
          | cons w r ih =>
            intro vs i h e
            cases w with
            | non => exact h
            | val u =>
              obtain ⟨v, vr, rfl, _, h2⟩ := h
              cases i with
              | zero => cases e
              | succ i => exact ih h2 (by simpa using e)
            | cel _ _ =>
              obtain ⟨p, ws, vr, rfl, _, _, _, h2⟩ := h
              cases i with
              | zero => cases e
              | succ i => exact ih h2 (by simpa using e)
            | celD _ _ => exact h
        exact bad a e1
    · trivial
  · rcases get i s e1 with ⟨_, u, q1, z1⟩ | rfl
    · rcases get j t e2 with ⟨_, w, q2, z2⟩ | rfl
      · exact ne (nCel_one n1 q1 q2 (cel z1 c1) (cel z2 c2))
      · cases c2
    · cases c1
/-- what the end of a body says of the cell -/
theorem end_cell {B H B' H' : Hp} {as : List Slot} {vs : List V} {ρ' : Env} {σ' : St} {X : List (Addr × HO)} {c : Option (List U)} (a : ArgsOk K B H as vs) (n1 : nCel as ≤ 1) (R : Rel K ⟨B, H, cellsOf as vs, X⟩ ρ' σ' B' H') (e : cellAt as ρ' = some c) : CellOk K B' H' (cellsOf as vs) c := by
  have noD : ∀ {as : List Slot} {vs : List V}, ArgsOk K B H as vs → ∀ o u, Slot.celD o u ∉ as := by
    intro as
    induction as with
    | nil => intro vs _ o u h; simp at h
    | cons w r ih =>
      intro vs h o u hm
      cases w with
      | non => exact h
      | celD _ _ => exact h
      | val u' =>
        obtain ⟨v, vr, rfl, _, h2⟩ := h
        rcases List.mem_cons.mp hm with q | q
        · cases q
        · exact ih h2 o u q
      | cel _ _ =>
        obtain ⟨p, ws, vr, rfl, _, _, _, h2⟩ := h
        rcases List.mem_cons.mp hm with q | q
        · cases q
        · exact ih h2 o u q
  have key : ∀ {as : List Slot} {ρ : Env}, (∀ o u, Slot.celD o u ∉ as) → cellAt as ρ = some c → 0 < nCel as → ∃ (i : Nat) (us : List U), ρ[i]? = some (Slot.cel false us) ∧ c = some us := by
    intro as
    induction as with
    | nil => intro ρ _ _ h; simp [nCel] at h
    | cons s r ih =>
      intro ρ nd e h
      have nd' : ∀ o u, Slot.celD o u ∉ r := fun o u hm => nd o u (List.mem_cons_of_mem _ hm)
      cases ρ with
      | nil => cases s <;> cases e
      | cons t ρ =>
        cases s with
        | cel own us =>
          unfold cellAt at e
          split at e
          · rename_i us'; cases e; exact ⟨0, us', rfl, rfl⟩
          · cases e
        | non =>
          obtain ⟨i, us, e1, e2⟩ := ih (ρ := ρ) nd' e (by simpa [nCel, List.filter_cons, Slot.isC] using h)
          exact ⟨i + 1, us, by simpa using e1, e2⟩
        | val u =>
          obtain ⟨i, us, e1, e2⟩ := ih (ρ := ρ) nd' e (by simpa [nCel, List.filter_cons, Slot.isC] using h)
          exact ⟨i + 1, us, by simpa using e1, e2⟩
        | celD o u => exact absurd List.mem_cons_self (nd o u)
  intro p hp
  have hl := cells_one a
  have pos : 0 < nCel as := by rw [← hl]; exact List.length_pos_of_mem hp
  obtain ⟨i, us, e1, rfl⟩ := key (noD a) e pos
  obtain ⟨p', ws, _, h1, h2, h3, h4⟩ := R.sl i _ e1
  have h4' : p' ∈ cellsOf as vs := h4
  have : p' = p := by
    have l1 : (cellsOf as vs).length = 1 := by omega
    match q : cellsOf as vs, l1 with
    | [x], _ =>
      rw [q] at h4' hp
      rw [List.mem_singleton.mp h4', List.mem_singleton.mp hp]
  subst this
  exact ⟨us, ws, rfl, h1, h2, h3⟩
end Sg

set_option Elab.async false
set_option linter.all false
set_option maxRecDepth 100000
set_option maxHeartbeats 4000000
namespace Sg
open PySem L2
variable {K : PySem.W.Frag}

theorem Rel.go {F : Fc} {B H B' H' : Hp} {ρ' : Env} {σ' : St} (h0 : F.B0 = B) (h1 : F.H0 = H) (R : Rel K F ρ' σ' B' H') : Go F.M B H B' H' := by
  subst h0 h1
  exact ⟨R.bb, R.ex, R.hh, R.th, R.nw⟩
/-- the end of a body, for its caller -/
theorem body_fin {n : Nat} {N : List Str} {b : MS K} {vs : List V} {H : Hp} {Q : VK} {E : XK} {B : Hp} {as : List Slot} {o : CO} (x : Ex B H) (hn : as.length ≤ N.length) (a : ArgsOk K B H as vs) (n1 : nCel as ≤ 1)
    (e : mfOf N.length b.m as = some o) (f : FinC K B H (cellsOf as vs) Q E o) : b.t (fun cls d _ H' => E cls d H') { nx := fun _ H' => Q .non H', rt := Q } (L2.start N vs) H := by
  unfold mfOf at e
  split at e
  · rename_i ρ eb
    obtain ⟨c, ec, rfl⟩ := Option.map_eq_some_iff.mp e
    exact b.ok _ _ _ _ B H _ _ eb (start_rel x a n1 hn) fun σ' B' H' _ R => f .non B' H' (R.go rfl rfl) (end_cell a n1 R ec) rfl
  · rename_i u ρ eb
    obtain ⟨c, ec, rfl⟩ := Option.map_eq_some_iff.mp e
    exact b.ok _ _ _ _ B H _ _ eb (start_rel x a n1 hn) fun v σ' B' H' _ R r => f v B' H' (R.go rfl rfl) (end_cell a n1 R ec) r
  · rename_i us ρ eb
    obtain ⟨c, ec, rfl⟩ := Option.map_eq_some_iff.mp e
    refine b.ok _ _ _ _ B H _ _ eb (start_rel x a n1 hn) fun q ws σ' B' H' _ R h1 h2 h3 r => f q ws B' H' (R.go rfl rfl) (end_cell a n1 R ec) h1 h2 h3 (fun hm => ?_) r
    obtain ⟨_, ws', hw⟩ := cells_none a q hm
    have h3' : H q = none := h3
    rw [hw] at h3'; cases h3'
  · rename_i xx ρ eb
    obtain ⟨c, ec, rfl⟩ := Option.map_eq_some_iff.mp e
    exact b.ok _ _ _ _ B H _ _ eb (start_rel x a n1 hn) fun cls d σ' B' H' _ R xr => f cls d B' H' (R.go rfl rfl) (end_cell a n1 R ec) xr
  · cases e
section
variable {P : Program} {w : World} {mg : Str → Option Value} {base : Heap}
theorem fn_ok0 {x qual : Str} {st : Stmt} {f : Addr} {fd : FuncData} {N ps : List Str} {k n : Nat} (F : Fun K x qual st f fd) (S : FnScope N ps (defScope st)) (b : MS K) (hn : ps.length = n) (hN : n ≤ N.length)
    (d : ∀ (cdv : Value) (A : Around) (outer : List PySem.Env) (s : Shared) (H : Hp) (E : XK), Room k (A.deeper (PyProof.Rows.envOfC qual (defScope st) s.heap.objs.size f cdv)) → ∃ t, PSs (cxOf CX0 P w K mg base N qual (defScope st) f cdv A outer s H E).nox (defBody st) t ∧ t = b.t WNo) :
    FnOk P w K mg base CX0 (k + 1) f fd ps (spM K n (mfOf0 N.length b.m)) := by
  refine F.ok S (fun vs H Q E h => by rw [hn]; exact spM_len vs H Q E h) fun cdv A outer s H vs Q E hr h => ⟨b.t WNo, (by obtain ⟨t, h1, h2⟩ := d cdv A outer s H E hr; rw [← h2]; exact h1), ?_⟩
  obtain ⟨B, as, o, x, e, a, n1, m, f⟩ := h
  unfold mfOf0 at m
  cases em : mfOf N.length b.m as with
  | none => rw [em] at m; cases m
  | some o' =>
    rw [em] at m
    cases o' with
    | ex ee c => cases m
    | val u c => cases m; exact body_fin (E := fun _ _ _ => False) (n := n) x (by omega) a n1 em f
    | cel u c => cases m; exact body_fin (E := fun _ _ _ => False) (n := n) x (by omega) a n1 em f
theorem fn_okX {x qual : Str} {st : Stmt} {f : Addr} {fd : FuncData} {N ps : List Str} {k n : Nat} (F : Fun K x qual st f fd) (S : FnScope N ps (defScope st)) (b : MS K) (hn : ps.length = n) (hN : n ≤ N.length)
    (d : ∀ (cdv : Value) (A : Around) (outer : List PySem.Env) (s : Shared) (H : Hp) (E : XK), Room k (A.deeper (PyProof.Rows.envOfC qual (defScope st) s.heap.objs.size f cdv)) → ∃ t, PSs (cxOf (L2.CX P w) P w K mg base N qual (defScope st) f cdv A outer s H E) (defBody st) t ∧ t = b.t fun cls d _ H => E cls d H) :
    FnOk P w K mg base (L2.CX P w) (k + 1) f fd ps (spM K n (mfOf N.length b.m)) := by
  refine F.okX S (fun vs H Q E h => by rw [hn]; exact spM_len vs H Q E h) fun cdv A outer s H vs Q E hr h => ⟨b.t fun cls d _ H => E cls d H, (by obtain ⟨t, h1, h2⟩ := d cdv A outer s H E hr; rw [← h2]; exact h1), ?_⟩
  obtain ⟨B, as, o, x, e, a, n1, m, f⟩ := h
  exact body_fin (n := n) x (by omega) a n1 m f
end

/-! ### the arguments of a call of a def -/
inductive CA where
  | ok (is : List (U ⊕ Nat)) (ρ : Env)
  | ex (e : Exn) (ρ : Env)
def ItemsOk (K : PySem.W.Frag) (B : Hp) (σ : St) : List (U ⊕ Nat) → List V → Prop
  | [], vs => vs = []
  | .inl u :: r, vs => ∃ v vr, vs = v :: vr ∧ Rep K B u v ∧ ItemsOk K B σ r vr
  | .inr j :: r, vs => ∃ v vr, vs = v :: vr ∧ σ.getD j none = some v ∧ ItemsOk K B σ r vr
theorem ItemsOk.mono {B B' : Hp} {σ : St} (x : Ex B B') : ∀ {is : List (U ⊕ Nat)} {vs : List V}, ItemsOk K B σ is vs → ItemsOk K B' σ is vs
  | [], _, h => h
  | .inl u :: r, _, h => by
    obtain ⟨v, vr, e, h1, h2⟩ := h
    exact ⟨v, vr, e, Rep.mono x _ _ h1, ItemsOk.mono x h2⟩
  | .inr j :: r, _, h => by
    obtain ⟨v, vr, e, h1, h2⟩ := h
    exact ⟨v, vr, e, h1, ItemsOk.mono x h2⟩
def FinCA (K : PySem.W.Frag) (F : Fc) (W : WX) (p k : Bool) (ρ : Env) (σ : St) (B H : Hp) (Q : List V → Hp → Prop) : CA → Prop
  | .ok is ρ' => ∀ vs B' H', Ex B B' → (p = true → Ex H H' ∧ ρ' = ρ) → Rel K F ρ' σ B' H' → ItemsOk K (if k then B' else H') σ is vs → Q vs H'
  | .ex e ρ' => ∀ cls d B' H', Ex B B' → Rel K F ρ' σ B' H' → XRel K e cls d H' → W cls d σ H'
structure MC (K : PySem.W.Frag) where
  t : WX → TA
  m : Env → Option CA
  p : Bool
  k : Bool
  ok : ∀ (F : Fc) (W : WX) (ρ : Env) (σ : St) (B H : Hp) (Q : List V → Hp → Prop) (o : CA), m ρ = some o → Rel K F ρ σ B H → FinCA K F W p k ρ σ B H Q o → t W σ H Q
def mcNil : MC K where
  t := fun _ => tNil
  m := fun ρ => some (.ok [] ρ)
  p := true
  k := true
  ok := fun F W ρ σ B H Q o e R f => by
    cases e
    exact f [] B H Ex.refl (fun _ => ⟨Ex.refl, rfl⟩) R rfl
def bindEC (a : Option EO) (f : U → Env → Option CA) : Option CA :=
  match a with
  | none => none
  | some (.ex e ρ) => some (.ex e ρ)
  | some (.ok u ρ) => f u ρ
theorem bindEC_some {a : Option EO} {f : U → Env → Option CA} {o : CA} (h : bindEC a f = some o) : (∃ u ρ', a = some (.ok u ρ') ∧ f u ρ' = some o) ∨ ∃ e ρ', a = some (.ex e ρ') ∧ o = .ex e ρ' := by
  cases a with
  | none => cases h
  | some x =>
    cases x with
    | ok u ρ => exact .inl ⟨u, ρ, rfl, h⟩
    | ex e ρ => exact .inr ⟨e, ρ, rfl, (Option.some.inj h).symm⟩
def consC (i : U ⊕ Nat) (a : Option CA) : Option CA :=
  match a with
  | some (.ok is ρ) => some (.ok (i :: is) ρ)
  | o => o
theorem consC_some {i : U ⊕ Nat} {a : Option CA} {o : CA} (h : consC i a = some o) : (∃ is ρ', a = some (.ok is ρ') ∧ o = .ok (i :: is) ρ') ∨ ∃ e ρ', a = some (.ex e ρ') ∧ o = .ex e ρ' := by
  cases a with
  | none => cases h
  | some x =>
    cases x with
    | ok u ρ => exact .inl ⟨u, ρ, rfl, (Option.some.inj h).symm⟩
    | ex e ρ => exact .inr ⟨e, ρ, rfl, (Option.some.inj h).symm⟩
def mcVal (a : ME K) (b : MC K) (h : (a.k || b.p) = true := by exact id rfl) : MC K where
  t := fun W => tCons (a.t W) (b.t W)
  m := fun ρ => bindEC (a.m ρ) fun u ρ1 => consC (.inl u) (b.m ρ1)
  p := a.p && b.p
  k := a.k && b.k
  ok := fun F W ρ σ B H Q out e R f => by
    rcases bindEC_some e with ⟨u, ρ1, e1, e⟩ | ⟨x, ρ1, e1, rfl⟩
    · refine a.ok F W ρ σ B H _ _ e1 R fun v1 B1 H1 x1 p1 R1 r1 => ?_
      rcases consC_some e with ⟨is, ρ2, e2, rfl⟩ | ⟨x, ρ2, e2, rfl⟩
      · refine b.ok F W ρ1 σ B1 H1 _ _ e2 R1 fun vs B2 H2 x2 p2 R2' r2 => ?_
        refine f (v1 :: vs) B2 H2 (x1.trans x2) (fun c => ?_) R2' ?_
        · obtain ⟨c1, c2⟩ := Bool.and_eq_true_iff.mp c
          exact ⟨(p1 c1).1.trans (p2 c2).1, (p2 c2).2.trans (p1 c1).2⟩
        · cases ck : a.k with
          | true =>
            rw [ck] at r1
            cases cb : b.k with
            | true =>
              rw [cb] at r2
              exact ⟨v1, vs, rfl, Rep.mono x2 _ _ r1, r2⟩
            | false =>
              rw [cb] at r2
              exact ⟨v1, vs, rfl, Rep.mono R2'.ex _ _ (Rep.mono x2 _ _ r1), r2⟩
          | false =>
            rw [ck] at r1 h
            have q1 := Rep.mono (p2 (by simpa using h)).1 _ _ r1
            refine ⟨v1, vs, rfl, q1, ?_⟩
            cases cb : b.k with
            | true => rw [cb] at r2; exact ItemsOk.mono R2'.ex r2
            | false => rw [cb] at r2; exact r2
      · exact b.ok F W ρ1 σ B1 H1 _ _ e2 R1 fun cls d B2 H2 x2 R2' xr => f cls d B2 H2 (x1.trans x2) R2' xr
    · exact a.ok F W ρ σ B H _ _ e1 R fun cls d B1 H1 x1 R1 xr => f cls d B1 H1 x1 R1 xr
/-- a cell of ours is handed on -/
def mcCel (j : Nat) (b : MC K) : MC K where
  t := fun W => tCons (tVar j) (b.t W)
  m := fun ρ => match ρ[j]? with
    | some (.cel _ _) => consC (.inr j) (b.m ρ)
    | _ => none
  p := b.p
  k := b.k
  ok := fun F W ρ σ B H Q out e R f => by
    split at e
    · rename_i own us hu
      obtain ⟨p, ws, hv, _⟩ := R.sl j _ hu
      refine ⟨.ref p, getD_some hv, ?_⟩
      rcases consC_some e with ⟨is, ρ2, e2, rfl⟩ | ⟨x, ρ2, e2, rfl⟩
      · exact b.ok F W ρ σ B H _ _ e2 R fun vs B2 H2 x2 p2 R2' r2 => f _ B2 H2 x2 p2 R2' ⟨.ref p, vs, rfl, hv, r2⟩
      · exact b.ok F W ρ σ B H _ _ e2 R fun cls d B2 H2 x2 R2' xr => f cls d B2 H2 x2 R2' xr
    · cases e
def resolve (ρ : Env) : List (U ⊕ Nat) → Option (List Slot)
  | [] => some []
  | .inl u :: r => (resolve ρ r).map fun as => .val u :: as
  | .inr j :: r => match ρ[j]? with
    | some (.cel own us) => (resolve ρ r).map fun as => .cel own us :: as
    | _ => none
/-- where the cell among the arguments stands -/
def celJ : List (U ⊕ Nat) → Option Nat
  | [] => none
  | .inl _ :: r => celJ r
  | .inr j :: _ => some j
def putJ (ρ : Env) (j : Option Nat) (c : Option (List U)) : Option Env :=
  match j, c with
  | none, _ => some ρ
  | some j, some us => match ρ[j]? with
    | some (.cel own _) => some (ρ.set j (.cel own us))
    | _ => none
  | some _, none => none
theorem resolve_ok {F : Fc} {ρ : Env} {σ : St} {B H : Hp} (R : Rel K F ρ σ B H) : ∀ {is : List (U ⊕ Nat)} {vs : List V} {as : List Slot}, ItemsOk K B σ is vs → resolve ρ is = some as →
    ArgsOk K B H as vs ∧ as.length = is.length ∧ (nCel as ≤ 1 → (celJ is = none ∧ cellsOf as vs = []) ∨ ∃ j p own us, celJ is = some j ∧ cellsOf as vs = [p] ∧ ρ[j]? = some (.cel own us) ∧ σ.getD j none = some (.ref p))
  | [], _, as, h, e => by cases h; cases e; exact ⟨rfl, rfl, fun _ => .inl ⟨rfl, rfl⟩⟩
  | .inl u :: r, _, as, h, e => by
    obtain ⟨v, vr, rfl, h1, h2⟩ := h
    obtain ⟨bs, eb, rfl⟩ := Option.map_eq_some_iff.mp e
    obtain ⟨q1, q2, q3⟩ := resolve_ok R h2 eb
    exact ⟨⟨v, vr, rfl, h1, q1⟩, by simp [q2], fun n => q3 (by simpa [nCel, List.filter_cons, Slot.isC] using n)⟩
  | .inr j :: r, _, as, h, e => by
    obtain ⟨v, vr, rfl, h1, h2⟩ := h
    unfold resolve at e
    split at e
    · rename_i own us hu
      obtain ⟨bs, eb, rfl⟩ := Option.map_eq_some_iff.mp e
      obtain ⟨q1, q2, q3⟩ := resolve_ok R h2 eb
      obtain ⟨p, ws, hv, z1, z2, z3, _⟩ := R.sl j _ hu
      have ev : v = .ref p := by rw [h1] at hv; exact Option.some.inj hv
      subst ev
      refine ⟨⟨p, ws, vr, rfl, z1, z2, z3, q1⟩, by simp [q2], fun n => ?_⟩
      have n0 : nCel bs = 0 := by
        simp only [nCel, List.filter_cons, Slot.isC, if_true, List.length_cons] at n
        unfold nCel; omega
      have c0 : cellsOf bs vr = [] := List.length_eq_zero_iff.mp (by rw [cells_one q1, n0])
      exact .inr ⟨j, p, own, us, rfl, by simp [cellsOf, c0], hu, h1⟩
    · cases e
theorem nCel0 {as : List Slot} {vs : List V} {B H : Hp} (a : ArgsOk K B H as vs) (h : cellsOf as vs = []) : nCel as = 0 := by rw [← cells_one a, h]; rfl
/-- behind a call: the caller's state -/
theorem after_call {F : Fc} {ρ : Env} {σ : St} {B H B' H' : Hp} {M : List Addr} {jc : Option Nat} {c : Option (List U)} {ρ' : Env} (R : Rel K F ρ σ B H) (g : Go M B H B' H')
    (hm : (jc = none ∧ M = []) ∨ ∃ j p own us, jc = some j ∧ M = [p] ∧ ρ[j]? = some (.cel own us) ∧ σ.getD j none = some (.ref p)) (cc : CellOk K B' H' M c) (e : putJ ρ jc c = some ρ') : Rel K F ρ' σ B' H' := by
  rcases hm with ⟨rfl, rfl⟩ | ⟨j, p, own, us, rfl, rfl, hj, hs⟩
  · cases e; exact R.grow g
  · obtain ⟨us', ws', rfl, h1, h2, h3⟩ := cc p List.mem_cons_self
    have e2 : (match ρ[j]? with | some (.cel own _) => some (ρ.set j (.cel own us')) | _ => none) = some ρ' := e
    rw [hj] at e2
    cases e2
    have pm0 : (if own = true then F.H0 p = none else p ∈ F.M) := by
      obtain ⟨p', _, e', _, _, _, h⟩ := R.sl j _ hj
      rw [hs] at e'; cases e'; exact h
    have pm : p ∈ F.M ∨ F.H0 p = none := by
      cases own with
      | true => exact .inr pm0
      | false => exact .inl pm0
    have hh : ∀ a o, a ≠ p → H a = some o → H' a = some o := fun a o n q => g.hh a o (by simpa using n) q
    refine ⟨by simp [R.len], g.bh, fun i s ei => ?_, fun i l s t q ne e1 e2 c1 c2 q1 q2 => ?_, R.bb.trans g.bb, fun a o n h => ?_, fun a o h => ?_, fun a o n h => ?_, fun a o h => ?_, fun a o h i s e2 c => ?_, R.xd⟩
    · rcases getElem_set ei with ⟨rfl, rfl⟩ | ⟨ne, ei⟩
      · exact ⟨p, ws', hs, h1, h2, h3, pm0⟩
      · have q := R.sl i s ei
        cases s with
        | non => trivial
        | val u => obtain ⟨v, e', r⟩ := q; exact ⟨v, e', Rep.mono g.bb _ _ r⟩
        | cel own' vs =>
          obtain ⟨p', ws2, e', q1, q2, q3, q4⟩ := q
          have np : p' ≠ p := fun c => R.ds i j _ _ p ne ei hj rfl rfl (by rw [e', c]) hs
          exact ⟨p', ws2, e', hh _ _ np q1, g.nw _ _ q2 q1, RepL.mono g.bb _ _ q3, q4⟩
        | celD own' vs =>
          obtain ⟨p', ws2, e', q1, q2, q3, q4⟩ := q
          have np : p' ≠ p := fun c => R.ds i j _ _ p ne ei hj rfl rfl (by rw [e', c]) hs
          exact ⟨p', ws2, e', hh _ _ np q1, g.nw _ _ q2 q1, RepD.mono g.bb _ _ q3, q4⟩
    · rcases getElem_set e1 with ⟨rfl, rfl⟩ | ⟨n1, f1⟩
      · rcases getElem_set e2 with ⟨rfl, rfl⟩ | ⟨n2, f2⟩
        · exact ne rfl
        · exact R.ds _ l _ t q ne hj f2 rfl c2 q1 q2
      · rcases getElem_set e2 with ⟨rfl, rfl⟩ | ⟨n2, f2⟩
        · exact R.ds i _ s _ q ne f1 hj c1 rfl q1 q2
        · exact R.ds i l s t q ne f1 f2 c1 c2 q1 q2
    · have : a ≠ p := by
        rintro rfl
        rcases pm with z | z
        · exact n z
        · rw [z] at h; cases h
      exact hh a o this (R.hh a o n h)
    · obtain ⟨o', h'⟩ := R.th a o h
      exact g.th a o' h'
    · obtain ⟨o', h'⟩ := R.th a o h
      exact g.nw a o' (R.nw a o n h) h'
    · obtain ⟨z1, z2, z3⟩ := R.xx a o h
      have np : a ≠ p := fun c => R.xs a o h j _ hj rfl (by rw [hs, c])
      exact ⟨hh a o np z1, g.nw _ _ z2 z1, z3⟩
    · rcases getElem_set e2 with ⟨rfl, rfl⟩ | ⟨ne, f2⟩
      · exact R.xs a o h _ _ hj rfl
      · exact R.xs a o h i s f2 c
def callM (mf : List Slot → Option CO) (a : Option CA) : Option EO :=
  match a with
  | none => none
  | some (.ex e ρ) => some (.ex e ρ)
  | some (.ok is ρ) => match resolve ρ is with
    | none => none
    | some as => if nCel as ≤ 1 then match mf as with
      | none => none
      | some (.val u c) => (putJ ρ (celJ is) c).map fun ρ' => .ok u ρ'
      | some (.cel us c) => (putJ ρ (celJ is) c).map fun ρ' => .ok (.lst us) ρ'
      | some (.ex e c) => (putJ ρ (celJ is) c).map fun ρ' => .ex e ρ'
    else none
/-- f(..), all arguments known -/
def mCall (n : Nat) (mf : List Slot → Option CO) (a : MC K) (hk : a.k = true := by exact id rfl) : ME K where
  t := fun W => tCallS (spM K n mf) (WE W) (a.t W)
  m := fun ρ => (a.m ρ).bind fun o => match o with
    | .ok is _ => if is.length = n then callM mf (some o) else none
    | _ => callM mf (some o)
  p := false
  k := true
  ok := fun F W ρ σ B H Q out e R f => by
    obtain ⟨o, e1, e⟩ := Option.bind_eq_some_iff.mp e
    cases o with
    | ex x ρ1 => cases e; exact a.ok F W ρ σ B H _ _ e1 R fun cls d B1 H1 x1 R1 xr => f cls d B1 H1 x1 R1 xr
    | ok is ρ1 =>
      refine a.ok F W ρ σ B H _ _ e1 R fun vs B1 H1 x1 p1 R1 r1 => ?_
      rw [hk] at r1
      have e' : (if is.length = n then callM mf (some (.ok is ρ1)) else none) = some out := e
      split at e'
      · rename_i hn
        unfold callM at e'
        split at e'
        · cases e'
        · rename_i h; cases h
        · rename_i is' ρ1' h
          cases h
          split at e'
          · cases e'
          · rename_i as ea
            obtain ⟨q1, q2, q3⟩ := resolve_ok R1 r1 ea
            split at e'
            · rename_i n1
              have q3 := q3 n1
              split at e'
              · cases e'
              · rename_i u c em
                obtain ⟨ρ', ep, rfl⟩ := Option.map_eq_some_iff.mp e'
                exact ⟨B1, as, _, R1.ex, q2.trans hn, q1, n1, em, fun v B' H' g cc r => f v B' H' (x1.trans g.bb) (fun z => nomatch z) (after_call R1 g q3 cc ep) r⟩
              · rename_i us c em
                obtain ⟨ρ', ep, rfl⟩ := Option.map_eq_some_iff.mp e'
                refine ⟨B1, as, _, R1.ex, q2.trans hn, q1, n1, em, fun q ws B' H' g cc h1 h2 h3 hq r => ?_⟩
                have R2 := after_call R1 g q3 cc ep
                have xb : Ex B' (upd B' q (.lst ws)) := Ex.new h2
                have nc : ∀ (j : Nat) s, ρ'[j]? = some s → s.isC = true → σ.getD j none ≠ some (.ref q) := fun j s es cs z => by
                  have w := R2.sl j s es
                  have hz : ∃ t, ρ1[j]? = some t ∧ t.isC = true := by
                    unfold putJ at ep
                    split at ep
                    · cases ep; exact ⟨s, es, cs⟩
                    · split at ep
                      · rename_i own us0 hj
                        cases ep
                        rcases getElem_set es with ⟨rfl, rfl⟩ | ⟨ne, es⟩
                        · exact ⟨_, hj, rfl⟩
                        · exact ⟨s, es, cs⟩
                      · cases ep
                    · cases ep
                  obtain ⟨t, ht, ct⟩ := hz
                  exact R1.notC h3 j t ht ct z
                refine f (.ref q) (upd B' q (.lst ws)) H' ((x1.trans g.bb).trans xb) (fun z => nomatch z) ⟨R2.len, fun b o e => ?_, fun i s e => ?_, R2.ds, R2.bb.trans xb, R2.hh, R2.th, fun b o n e => ?_, fun b o e => ?_, R2.xs, R2.xd⟩ ⟨q, ws, rfl, upd_same, RepL.mono xb _ _ r⟩
                · by_cases c : b = q
                  · subst c; rw [upd_same] at e; cases e; exact h1
                  · rw [upd_ne c] at e; exact R2.ex b o e
                · have z := R2.sl i s e
                  cases s with
                  | non => trivial
                  | val u => obtain ⟨v, e1, r⟩ := z; exact ⟨v, e1, Rep.mono xb _ _ r⟩
                  | cel own us2 =>
                    obtain ⟨p, ws2, e1, z1, z2, z3, z4⟩ := z
                    have np : p ≠ q := fun c => nc i _ e rfl (by rw [e1, c])
                    exact ⟨p, ws2, e1, z1, by rw [upd_ne np]; exact z2, RepL.mono xb _ _ z3, z4⟩
                  | celD own us2 =>
                    obtain ⟨p, ws2, e1, z1, z2, z3, z4⟩ := z
                    have np : p ≠ q := fun c => nc i _ e rfl (by rw [e1, c])
                    exact ⟨p, ws2, e1, z1, by rw [upd_ne np]; exact z2, RepD.mono xb _ _ z3, z4⟩
                · have h0 := R1.fresh0 h3
                  have np : b ≠ q := fun c => by rw [c, h0] at e; cases e
                  rw [upd_ne np]; exact R2.nw b o n e
                · obtain ⟨z1, z2, z3⟩ := R2.xx b o e
                  have np : b ≠ q := fun c => by
                    have := (R1.xx b o e).1
                    rw [c, h3] at this; cases this
                  exact ⟨z1, by rw [upd_ne np]; exact z2, z3⟩
              · rename_i x c em
                obtain ⟨ρ', ep, rfl⟩ := Option.map_eq_some_iff.mp e'
                exact ⟨B1, as, _, R1.ex, q2.trans hn, q1, n1, em, fun cls d B' H' g cc xr => f cls d B' H' (x1.trans g.bb) (after_call R1 g q3 cc ep) xr⟩
            · cases e'
      · cases e'
end Sg

set_option Elab.async false
set_option linter.all false
set_option maxRecDepth 100000
set_option maxHeartbeats 4000000
namespace Sg
open PySem L2
variable {K : PySem.W.Frag}

/-! ### operators -/
def rOr (r r' : R2) : R2 := fun x y H Q => r x y H Q ∨ r' x y H Q
theorem op_or {X : Cx} {f : Value → Value → Sem Value} {r r' : R2} (h : OpR X f r) (h' : OpR X f r') : OpR X f (rOr r r') := h.or h'
theorem rep_int {B : Hp} {i : Int} {v : V} (h : Rep K B (.int i) v) : v = .int i := h
def fI (g : Int → Int → Option U) : U → U → Option U
  | .int i, .int j => g i j
  | _, _ => none
theorem fI_some {g : Int → Int → Option U} {u v w : U} (h : fI g u v = some w) : ∃ i j, u = .int i ∧ v = .int j ∧ g i j = some w := by
  unfold fI at h
  split at h
  · exact ⟨_, _, rfl, rfl, h⟩
  · cases h
def fAdd : U → U → Option U
  | .int i, .int j => some (.int (i + j))
  | .str a, .str b => if a.length + b.length ≤ 16777216 then some (.str (a ++ b)) else none
  | _, _ => none
def rAddS : R2 := fun x y H Q => ∃ i j, x = .str i ∧ y = .str j ∧ i.length + j.length ≤ sizeLine ∧ Q (.str (i ++ j)) H
/-- + of ints, of texts -/
def oAdd : Op2 K where
  r := rOr (rI0 fun i j => .int (i + j)) rAddS
  f := fAdd
  ok := fun H x y u v w ru rv e => by
    unfold fAdd at e
    split at e
    · cases e; cases ru; cases rv; exact ⟨_, rfl, fun Q q => .inl ⟨_, _, rfl, rfl, q⟩⟩
    · split at e
      · rename_i a b h; cases e; cases ru; cases rv; exact ⟨_, rfl, fun Q q => .inr ⟨_, _, rfl, rfl, by rw [PySem.sizeLine_eq]; exact h, q⟩⟩
      · cases e
    · cases e
def oSub : Op2 K where
  r := rI0 fun i j => .int (i - j)
  f := fI fun i j => some (.int (i - j))
  ok := fun H x y u v w ru rv e => by
    obtain ⟨i, j, rfl, rfl, e2⟩ := fI_some e
    cases e2; cases ru; cases rv
    exact ⟨_, rfl, fun Q q => ⟨_, _, rfl, rfl, q⟩⟩
def MulOk (i j : Int) : Prop := ((-(2 ^ 64) < i ∧ i < 2 ^ 64) ∨ (-(2 ^ 64) < j ∧ j < 2 ^ 64)) ∨ CMulX i j
noncomputable instance (i j : Int) : Decidable (MulOk i j) := Classical.propDecidable _
noncomputable def fMul : Int → Int → Option U := fun i j => if MulOk i j then some (.int (i * j)) else none
noncomputable def oMul : Op2 K where
  r := rOr (rI CMul fun i j => .int (i * j)) (rI CMulX fun i j => .int (i * j))
  f := fI fMul
  ok := fun H x y u v w ru rv e => by
    obtain ⟨i, j, rfl, rfl, e2⟩ := fI_some e
    unfold fMul at e2
    split at e2
    · rename_i h
      cases e2; cases ru; cases rv
      refine ⟨_, rfl, fun Q q => ?_⟩
      rcases h with h | h
      · exact .inl ⟨_, _, rfl, rfl, h, q⟩
      · exact .inr ⟨_, _, rfl, rfl, h, q⟩
    · cases e2
def oMod : Op2 K where
  r := rI (fun _ j => j ≠ 0) fun i j => .int (i.fmod j)
  f := fI fun i j => if j ≠ 0 then some (.int (i.fmod j)) else none
  ok := fun H x y u v w ru rv e => by
    obtain ⟨i, j, rfl, rfl, e2⟩ := fI_some e
    split at e2
    · rename_i h
      cases e2; cases ru; cases rv
      exact ⟨_, rfl, fun Q q => ⟨_, _, rfl, rfl, h, q⟩⟩
    · cases e2
def oDiv : Op2 K where
  r := rOr (rI CDivN fun i j => .int (i.fdiv j)) (rI CDivW fun i j => .int (i / j))
  f := fI fun i j => if j ≠ 0 ∧ j.natAbs < 1073741824 then some (.int (i.fdiv j)) else if 0 < j ∧ j.natAbs.log2 < 9000 then some (.int (i / j)) else none
  ok := fun H x y u v w ru rv e => by
    obtain ⟨i, j, rfl, rfl, e2⟩ := fI_some e
    split at e2
    · rename_i h
      cases e2; cases ru; cases rv
      exact ⟨_, rfl, fun Q q => .inl ⟨_, _, rfl, rfl, h, q⟩⟩
    · split at e2
      · rename_i h
        cases e2; cases ru; cases rv
        exact ⟨_, rfl, fun Q q => .inr ⟨_, _, rfl, rfl, h, q⟩⟩
      · cases e2
def oPow : Op2 K where
  r := rI CPow fun i j => .int (i ^ j.toNat)
  f := fI fun i j => if 0 ≤ j ∧ j ≤ 1000000 ∧ i.natAbs < 2 ^ 64 then some (.int (i ^ j.toNat)) else none
  ok := fun H x y u v w ru rv e => by
    obtain ⟨i, j, rfl, rfl, e2⟩ := fI_some e
    split at e2
    · rename_i h
      cases e2; cases ru; cases rv
      exact ⟨_, rfl, fun Q q => ⟨_, _, rfl, rfl, h, q⟩⟩
    · cases e2
def oCmp (p : Int → Int → Bool) : Op2 K where
  r := rI0 fun i j => .bl (p i j)
  f := fI fun i j => some (.bl (p i j))
  ok := fun H x y u v w ru rv e => by
    obtain ⟨i, j, rfl, rfl, e2⟩ := fI_some e
    cases e2; cases ru; cases rv
    exact ⟨_, rfl, fun Q q => ⟨_, _, rfl, rfl, q⟩⟩
abbrev oLt : Op2 K := oCmp fun i j => decide (i < j)
abbrev oLe : Op2 K := oCmp fun i j => decide (i ≤ j)
abbrev oGt : Op2 K := oCmp fun i j => decide (j < i)
abbrev oGe : Op2 K := oCmp fun i j => decide (j ≤ i)
/-! data -/
mutual
def pd : U → Option PyData
  | .non => some .none
  | .bl b => some (.bool b)
  | .int i => some (.int i)
  | .str s => some (.str s)
  | .lst us => (pdL us).map .list
  | .frl us => (pdL us).map .list
  | .tup us => (pdL us).map .tuple
  | _ => none
def pdL : List U → Option (List PyData)
  | [] => some []
  | u :: us => (pd u).bind fun d => (pdL us).map fun ds => d :: ds
end
mutual
theorem pd_ok {H : Hp} : ∀ (u : U) (v : V) (d : PyData), Rep K H u v → pd u = some d → Dp K H v d
  | .non, _, _, r, e => by cases r; cases e; exact .non
  | .bl b, _, _, r, e => by cases r; cases e; exact .bl b
  | .int i, _, _, r, e => by cases r; cases e; exact .int i
  | .str s, _, _, r, e => by cases r; cases e; exact .str s
  | .ref _, _, _, r, e => by cases e
  | .lst us, _, _, r, e => by
    obtain ⟨a, vs, rfl, h1, h2⟩ := r
    obtain ⟨ds, e1, rfl⟩ := Option.map_eq_some_iff.mp e
    exact .lst (SqL.of h1) (pdL_ok us vs ds h2 e1)
  | .frl us, _, _, r, e => by
    obtain ⟨a, vs, rfl, h1, h2⟩ := r
    obtain ⟨ds, e1, rfl⟩ := Option.map_eq_some_iff.mp e
    exact .lst h1 (pdL_ok us vs ds h2 e1)
  | .tup us, _, _, r, e => by
    obtain ⟨a, vs, rfl, h1, h2⟩ := r
    obtain ⟨ds, e1, rfl⟩ := Option.map_eq_some_iff.mp e
    exact .tup h1 (pdL_ok us vs ds h2 e1)
  | .dic _, _, _, _, e => by cases e
  | .ins _ _, _, _, _, e => by cases e
theorem pdL_ok {H : Hp} : ∀ (us : List U) (vs : List V) (ds : List PyData), RepL K H us vs → pdL us = some ds → DpAll K H vs ds
  | [], _, _, r, e => by cases r; cases e; exact .nil
  | u :: us, _, _, r, e => by
    obtain ⟨v, vr, rfl, h1, h2⟩ := r
    obtain ⟨d, e1, e2⟩ := Option.bind_eq_some_iff.mp e
    obtain ⟨ds, e3, rfl⟩ := Option.map_eq_some_iff.mp e2
    exact .cons (pd_ok u v d h1 e1) (pdL_ok us vr ds h2 e3)
end
def eqU (u v : U) : Option Bool := (pd u).bind fun d => (pd v).bind fun e => if SeqAt.shaped d = true ∧ SeqAt.shaped e = true then some (PyData.eqv d e) else none
theorem eqU_ok {H : Hp} {u v : U} {x y : V} {b : Bool} (ru : Rep K H u x) (rv : Rep K H v y) (e : eqU u v = some b) : ∃ d e, Dp K H x d ∧ Dp K H y e ∧ SeqAt.shaped d = true ∧ SeqAt.shaped e = true ∧ PyData.eqv d e = b := by
  obtain ⟨d, e1, e⟩ := Option.bind_eq_some_iff.mp e
  obtain ⟨d', e2, e⟩ := Option.bind_eq_some_iff.mp e
  split at e
  · rename_i h
    cases e
    exact ⟨d, d', pd_ok _ _ _ ru e1, pd_ok _ _ _ rv e2, h.1, h.2, rfl⟩
  · cases e
def oEq : Op2 K where
  r := rEqD K
  f := fun u v => (eqU u v).map .bl
  ok := fun H x y u v w ru rv e => by
    obtain ⟨b, e1, rfl⟩ := Option.map_eq_some_iff.mp e
    obtain ⟨d, d', h1, h2, h3, h4, rfl⟩ := eqU_ok ru rv e1
    exact ⟨_, rfl, fun Q q => ⟨d, d', h1, h2, h3, h4, q⟩⟩
def oNe : Op2 K where
  r := rNeD K
  f := fun u v => (eqU u v).map fun b => .bl (!b)
  ok := fun H x y u v w ru rv e => by
    obtain ⟨b, e1, rfl⟩ := Option.map_eq_some_iff.mp e
    obtain ⟨d, d', h1, h2, h3, h4, rfl⟩ := eqU_ok ru rv e1
    exact ⟨_, rfl, fun Q q => ⟨d, d', h1, h2, h3, h4, q⟩⟩
def isNon : U → Bool
  | .non => true
  | _ => false
theorem isNon_ok {H : Hp} {u : U} {v : V} (r : Rep K H u v) : decide (v = V.non) = isNon u := by
  cases u with
  | non => cases r; rfl
  | bl b => cases r; rfl
  | int b => cases r; rfl
  | str b => cases r; rfl
  | ref b => cases r; rfl
  | lst us => obtain ⟨a, vs, rfl, _⟩ := r; rfl
  | frl us => obtain ⟨a, vs, rfl, _⟩ := r; rfl
  | tup us => obtain ⟨a, vs, rfl, _⟩ := r; rfl
  | dic us => obtain ⟨a, vs, rfl, _⟩ := r; rfl
  | ins c us => obtain ⟨a, dx, vs, rfl, _⟩ := r; rfl
def rIsN' : R2 := fun x y H Q => y = .non ∧ Q (.bl (decide (x = .non))) H
def rNotN' : R2 := fun x y H Q => y = .non ∧ Q (.bl (!decide (x = .non))) H
def oIsN : Op2 K where
  r := rIsN'
  f := fun u v => match v with
    | .non => some (.bl (isNon u))
    | _ => none
  ok := fun H x y u v w ru rv e => by
    split at e
    · cases e; cases rv; exact ⟨_, rfl, fun Q q => ⟨rfl, by rw [isNon_ok ru]; exact q⟩⟩
    · cases e
def oNotN : Op2 K where
  r := rNotN'
  f := fun u v => match v with
    | .non => some (.bl (!isNon u))
    | _ => none
  ok := fun H x y u v w ru rv e => by
    split at e
    · cases e; cases rv; exact ⟨_, rfl, fun Q q => ⟨rfl, by rw [isNon_ok ru]; exact q⟩⟩
    · cases e
/-- x in a list, a tuple of flat things -/
def flU : U → Option V
  | .non => some .non
  | .bl b => some (.bl b)
  | .int i => some (.int i)
  | .str s => some (.str s)
  | _ => none
def seqU : U → Option (List U)
  | .lst us => some us
  | .frl us => some us
  | .tup us => some us
  | _ => none
theorem flU_ok {H : Hp} {u : U} {v z : V} (r : Rep K H u v) (e : flU u = some z) : v = z ∧ flatV v = true := by
  cases u <;> first | (cases e; cases r; exact ⟨rfl, rfl⟩) | cases e
def flL : List U → Option (List V)
  | [] => some []
  | u :: us => (flU u).bind fun v => (flL us).map fun vs => v :: vs
theorem flL_ok {H : Hp} : ∀ {us : List U} {vs zs : List V}, RepL K H us vs → flL us = some zs → vs = zs ∧ vs.all flatV = true
  | [], _, _, r, e => by cases r; cases e; exact ⟨rfl, rfl⟩
  | u :: us, _, _, r, e => by
    obtain ⟨v, vr, rfl, h1, h2⟩ := r
    obtain ⟨z, e1, e2⟩ := Option.bind_eq_some_iff.mp e
    obtain ⟨zs, e3, rfl⟩ := Option.map_eq_some_iff.mp e2
    obtain ⟨rfl, q1⟩ := flU_ok h1 e1
    obtain ⟨rfl, q2⟩ := flL_ok h2 e3
    exact ⟨rfl, by simp only [List.all_cons, q1, q2, Bool.and_self]⟩
theorem seqU_ok {H : Hp} {u : U} {v : V} {us : List U} (r : Rep K H u v) (e : seqU u = some us) : ∃ a vs, v = .ref a ∧ (SqL K H a vs ∨ SqT K H a vs) ∧ RepL K H us vs := by
  cases u with
  | lst _ => cases e; obtain ⟨a, vs, rfl, h1, h2⟩ := r; exact ⟨a, vs, rfl, .inl (SqL.of h1), h2⟩
  | frl _ => cases e; obtain ⟨a, vs, rfl, h1, h2⟩ := r; exact ⟨a, vs, rfl, .inl h1, h2⟩
  | tup _ => cases e; obtain ⟨a, vs, rfl, h1, h2⟩ := r; exact ⟨a, vs, rfl, .inr h1, h2⟩
  | _ => cases e
def inU (u v : U) : Option Bool := (flU u).bind fun x => (seqU v).bind fun us => (flL us).map fun ys => inV x ys
def oIn (neg : Bool) : Op2 K where
  r := rIn K neg
  f := fun u v => (inU u v).map fun b => .bl (if neg then !b else b)
  ok := fun H x y u v w ru rv e => by
    obtain ⟨b, e1, rfl⟩ := Option.map_eq_some_iff.mp e
    obtain ⟨z, e2, e1⟩ := Option.bind_eq_some_iff.mp e1
    obtain ⟨us, e3, e1⟩ := Option.bind_eq_some_iff.mp e1
    obtain ⟨ys, e4, rfl⟩ := Option.map_eq_some_iff.mp e1
    obtain ⟨rfl, q1⟩ := flU_ok ru e2
    obtain ⟨a, vs, rfl, h1, h2⟩ := seqU_ok rv e3
    obtain ⟨rfl, q2⟩ := flL_ok h2 e4
    exact ⟨_, rfl, fun Q q => ⟨a, _, rfl, h1, q1, q2, q⟩⟩
def oNeg : Op1 K where
  r := fun x H Q => ∃ i, x = .int i ∧ Q (.int (-i)) H
  f := fun u => match u with
    | .int i => some (.int (-i))
    | _ => none
  ok := fun H x u w r e => by
    split at e
    · cases e; cases r; exact ⟨_, rfl, fun Q q => ⟨_, rfl, q⟩⟩
    · cases e

/-! ### items -/
theorem RepL.at {B : Hp} {us : List U} {vs : List V} {i : Int} {u : U} (r : RepL K B us vs) (e : atI us i = some u) : ∃ v, atI vs i = some v ∧ Rep K B u v := by
  obtain ⟨j, e1, e2⟩ := Option.bind_eq_some_iff.mp e
  obtain ⟨v, e3, e4⟩ := r.get e2
  exact ⟨v, by unfold atI; rw [r.length, e1]; exact e3, e4⟩
def ixU (u v : U) : Option U := match v with
  | .int i => match u with
    | .str s => if s.length ≤ 16777216 then (atI s.cps.toList i).map fun c => .str ⟨#[c]⟩ else none
    | _ => (seqU u).bind fun us => atI us i
  | _ => none
def oIx : OpI K where
  r := rIx K
  f := ixU
  ok := fun B H x y u v w Q ex ru rv e f => by
    unfold ixU at e
    split at e
    · rename_i i
      have ry : y = .int i := rv
      subst ry
      split at e
      · rename_i s
        split at e
        · rename_i hl
          obtain ⟨c, e1, rfl⟩ := Option.map_eq_some_iff.mp e
          cases ru
          exact .inr (.inr ⟨s, i, c, rfl, rfl, by rw [PySem.sizeLine_eq]; exact hl, e1, f _ rfl⟩)
        · cases e
      · obtain ⟨us, e1, e2⟩ := Option.bind_eq_some_iff.mp e
        obtain ⟨a, vs, rfl, h1, h2⟩ := seqU_ok ru e1
        obtain ⟨z, e3, e4⟩ := h2.at e2
        rcases h1 with h1 | h1
        · exact .inl ⟨a, vs, i, z, rfl, rfl, Ex.l ex h1, e3, f z e4⟩
        · exact .inr (.inl ⟨a, vs, i, z, rfl, rfl, Ex.t ex h1, e3, f z e4⟩)
    · cases e

/-! ### slices -/
inductive OO where
  | ok (o : Option Int) (ρ : Env)
  | ex (e : Exn) (ρ : Env)
structure MO (K : PySem.W.Frag) where
  t : WX → TO
  m : Env → Option OO
  p : Bool
  ok : ∀ (F : Fc) (W : WX) (ρ : Env) (σ : St) (B H : Hp) (Q : Option Int → Hp → Prop) (o : OO), m ρ = some o → Rel K F ρ σ B H →
    (match o with
      | .ok x ρ' => ∀ B' H', Ex B B' → (p = true → Ex H H' ∧ ρ' = ρ) → Rel K F ρ' σ B' H' → Q x H'
      | .ex e ρ' => ∀ cls d B' H', Ex B B' → Rel K F ρ' σ B' H' → XRel K e cls d H' → W cls d σ H') → t W σ H Q
def moNone : MO K where
  t := fun _ => tNoPart
  m := fun ρ => some (.ok none ρ)
  p := true
  ok := fun F W ρ σ B H Q o e R f => by cases e; exact f B H Ex.refl (fun _ => ⟨Ex.refl, rfl⟩) R
def moSome (a : ME K) : MO K where
  t := fun W => tPart (a.t W)
  m := fun ρ => match a.m ρ with
    | some (.ok (.int i) ρ1) => some (.ok (some i) ρ1)
    | some (.ex e ρ1) => some (.ex e ρ1)
    | _ => none
  p := a.p
  ok := fun F W ρ σ B H Q o e R f => by
    split at e
    · rename_i i ρ1 e1
      cases e
      refine a.ok F W ρ σ B H _ _ e1 R fun v B1 H1 x1 p1 R1 r1 => ?_
      exact ⟨i, rep_up R1 r1, f B1 H1 x1 p1 R1⟩
    · rename_i x ρ1 e1
      cases e
      exact a.ok F W ρ σ B H _ _ e1 R f
    · cases e
def cutU (us : List U) (lo hi : Option Int) : List U := (us.drop (HT.sIx us.length 0 lo)).take (HT.sIx us.length us.length hi - HT.sIx us.length 0 lo)
theorem RepL.cut {B : Hp} {us : List U} {vs : List V} (r : RepL K B us vs) (lo hi : Option Int) : RepL K B (cutU us lo hi) (cutV vs lo hi) := by
  unfold cutU cutV
  rw [r.length]
  exact RepL.take _ (RepL.drop _ r)
def lstU : U → Option (List U)
  | .lst us => some us
  | .frl us => some us
  | _ => none
theorem lstU_ok {H : Hp} {u : U} {v : V} {us : List U} (r : Rep K H u v) (e : lstU u = some us) : ∃ a vs, v = .ref a ∧ SqL K H a vs ∧ RepL K H us vs := by
  cases u with
  | lst _ => cases e; obtain ⟨a, vs, rfl, h1, h2⟩ := r; exact ⟨a, vs, rfl, SqL.of h1, h2⟩
  | frl _ => cases e; obtain ⟨a, vs, rfl, h1, h2⟩ := r; exact ⟨a, vs, rfl, h1, h2⟩
  | _ => cases e
/-- xs[lo:hi], a list that is known -/
def mSlL (a : ME K) (lo hi : MO K) (hk : a.k = true := by exact id rfl) (h1 : lo.p = true := by exact id rfl) (h2 : hi.p = true := by exact id rfl) : MF K where
  t := fun W => L2.tSl (rSlL K) (a.t W) (lo.t W) (hi.t W)
  m := fun ρ => match a.m ρ with
    | none => none
    | some (.ex e ρ1) => some (.ex e ρ1)
    | some (.ok u ρ1) => match lo.m ρ1 with
      | none => none
      | some (.ex e ρ2) => some (.ex e ρ2)
      | some (.ok x ρ2) => match hi.m ρ2 with
        | none => none
        | some (.ex e ρ3) => some (.ex e ρ3)
        | some (.ok y ρ3) => (lstU u).map fun us => .ok (cutU us x y) ρ3
  p := a.p
  ok := fun F W ρ σ B H Q o e R f => by
    split at e
    · cases e
    · rename_i x ρ1 e1
      cases e
      exact a.ok F W ρ σ B H _ _ e1 R f
    · rename_i u ρ1 e1
      refine a.ok F W ρ σ B H _ _ e1 R fun v B1 H1 x1 p1 R1 r1 => ?_
      rw [hk] at r1
      split at e
      · cases e
      · rename_i x ρ2 e2
        cases e
        exact lo.ok F W ρ1 σ B1 H1 _ _ e2 R1 fun cls d B2 H2 x2 R2 xr => f cls d B2 H2 (x1.trans x2) R2 xr
      · rename_i x ρ2 e2
        refine lo.ok F W ρ1 σ B1 H1 _ _ e2 R1 fun B2 H2 x2 p2 R2 => ?_
        split at e
        · cases e
        · rename_i y ρ3 e3
          cases e
          exact hi.ok F W ρ2 σ B2 H2 _ _ e3 R2 fun cls d B3 H3 x3 R3 xr => f cls d B3 H3 ((x1.trans x2).trans x3) R3 xr
        · rename_i y ρ3 e3
          refine hi.ok F W ρ2 σ B2 H2 _ _ e3 R2 fun B3 H3 x3 p3 R3 => ?_
          obtain ⟨us, e4, rfl⟩ := Option.map_eq_some_iff.mp e
          have r3 := Rep.mono (x2.trans x3) _ _ r1
          obtain ⟨q, vs, rfl, h3, h4⟩ := lstU_ok r3 e4
          refine ⟨q, vs, rfl, Ex.l R3.ex h3, fun p hp => newF f ((x1.trans x2).trans x3) (fun c => ?_) R3 (h4.cut x y) hp⟩
          exact ⟨((p1 c).1.trans (p2 h1).1).trans (p3 h2).1, ((p3 h2).2.trans (p2 h1).2).trans (p1 c).2⟩

/-! ### built-ins by values: a scalar of things looked at -/
structure OpC (K : PySem.W.Frag) where
  r : List V → Hp → VK → Prop
  f : List U → Option U
  ok : ∀ (H : Hp) (xs : List V) (us : List U) (w : U), RepL K H us xs → f us = some w → ∃ z, scV w = some z ∧ ∀ Q : VK, Q z H → r xs H Q
def mBi (o : OpC K) (a : MA K) : ME K where
  t := fun W => tCB o.r (a.t W)
  m := fun ρ => bindAE (a.m ρ) fun us ρ1 => (o.f us).map fun w => .ok w ρ1
  p := a.p
  k := true
  ok := fun F W ρ σ B H Q out e R f => by
    rcases bindAE_some e with ⟨us, ρ1, e1, e⟩ | ⟨x, ρ1, e1, rfl⟩
    · refine a.ok F W ρ σ B H _ _ e1 R fun vs B1 H1 x1 p1 R1 r1 => ?_
      obtain ⟨w, ew, rfl⟩ := Option.map_eq_some_iff.mp e
      have r2 : RepL K H1 us vs := by
        cases ck : a.k with
        | true => rw [ck] at r1; exact RepL.mono R1.ex _ _ r1
        | false => rw [ck] at r1; exact r1
      obtain ⟨z, hz, q⟩ := o.ok H1 vs us w r2 ew
      exact q _ (f z B1 H1 x1 p1 R1 (by show Rep K B1 w z; exact rep_sc hz))
    · exact a.ok F W ρ σ B H _ _ e1 R fun cls d B1 H1 x1 R1 xr => f cls d B1 H1 x1 R1 xr
theorem repL1 {H : Hp} {u : U} {xs : List V} (r : RepL K H [u] xs) : ∃ v, xs = [v] ∧ Rep K H u v := by
  obtain ⟨v, vr, rfl, h1, h2⟩ := r; cases h2; exact ⟨v, rfl, h1⟩
theorem repL2 {H : Hp} {u w : U} {xs : List V} (r : RepL K H [u, w] xs) : ∃ v x, xs = [v, x] ∧ Rep K H u v ∧ Rep K H w x := by
  obtain ⟨v, vr, rfl, h1, h2⟩ := r
  obtain ⟨x, h3, h4⟩ := repL1 h2
  exact ⟨v, x, by rw [h3], h1, h4⟩
def lenU : U → Option Int
  | .str s => if s.length ≤ 16777216 then some s.length else none
  | u => (seqU u).map fun us => (us.length : Int)
def rLenX (K : PySem.W.Frag) : List V → Hp → VK → Prop := fun xs H Q => ∃ x n, xs = [x] ∧ LenV K x H n ∧ Q (.int n) H
def oLen : OpC K where
  r := rLenX K
  f := fun us => match us with
    | [u] => (lenU u).map .int
    | _ => none
  ok := fun H xs us w r e => by
    split at e
    · rename_i u
      obtain ⟨v, rfl, r1⟩ := repL1 r
      obtain ⟨n, e0, rfl⟩ := Option.map_eq_some_iff.mp e
      unfold lenU at e0
      split at e0
      · rename_i s
        split at e0
        · rename_i h
          cases e0; cases r1
          exact ⟨_, rfl, fun Q q => ⟨_, s.length, rfl, ⟨by rw [PySem.sizeLine_eq]; exact h, rfl⟩, q⟩⟩
        · cases e0
      · obtain ⟨us, e1, rfl⟩ := Option.map_eq_some_iff.mp e0
        obtain ⟨a, vs, rfl, h1, h2⟩ := seqU_ok r1 e1
        refine ⟨_, rfl, fun Q q => ⟨_, vs.length, rfl, ?_, by rw [h2.length]; exact q⟩⟩
        rcases h1 with h1 | h1
        · exact .inl ⟨vs, h1, rfl⟩
        · exact .inr ⟨vs, h1, rfl⟩
    · cases e
def oAbs : OpC K where
  r := fun xs H Q => ∃ i, xs = [.int i] ∧ Q (.int (if i < 0 then -i else i)) H
  f := fun us => match us with
    | [.int i] => some (.int (if i < 0 then -i else i))
    | _ => none
  ok := fun H xs us w r e => by
    split at e
    · obtain ⟨v, rfl, r1⟩ := repL1 r
      cases e; cases r1
      exact ⟨_, rfl, fun Q q => ⟨_, rfl, q⟩⟩
    · cases e
def oMax2 : OpC K where
  r := fun xs H Q => ∃ i j, xs = [.int i, .int j] ∧ Q (.int (if j > i then j else i)) H
  f := fun us => match us with
    | [.int i, .int j] => some (.int (if j > i then j else i))
    | _ => none
  ok := fun H xs us w r e => by
    split at e
    · obtain ⟨v, x, rfl, r1, r2⟩ := repL2 r
      cases e; cases r1; cases r2
      exact ⟨_, rfl, fun Q q => ⟨_, _, rfl, q⟩⟩
    · cases e
def oMin2 : OpC K where
  r := fun xs H Q => ∃ i j, xs = [.int i, .int j] ∧ Q (.int (if j < i then j else i)) H
  f := fun us => match us with
    | [.int i, .int j] => some (.int (if j < i then j else i))
    | _ => none
  ok := fun H xs us w r e => by
    split at e
    · obtain ⟨v, x, rfl, r1, r2⟩ := repL2 r
      cases e; cases r1; cases r2
      exact ⟨_, rfl, fun Q q => ⟨_, _, rfl, q⟩⟩
    · cases e
def rInt1 : List V → Hp → VK → Prop := fun xs H Q => (∃ i, xs = [.int i] ∧ Q (.int i) H) ∨ ∃ k, xs = [.bl k] ∧ Q (.int (if k then 1 else 0)) H
def oInt : OpC K where
  r := rInt1
  f := fun us => match us with
    | [.int i] => some (.int i)
    | [.bl k] => some (.int (if k then 1 else 0))
    | _ => none
  ok := fun H xs us w r e => by
    split at e
    · obtain ⟨v, rfl, r1⟩ := repL1 r
      cases e; cases r1
      exact ⟨_, rfl, fun Q q => .inl ⟨_, rfl, q⟩⟩
    · obtain ⟨v, rfl, r1⟩ := repL1 r
      cases e; cases r1
      exact ⟨_, rfl, fun Q q => .inr ⟨_, rfl, q⟩⟩
    · cases e
def intsU : List U → Option (List Int)
  | [] => some []
  | .int i :: us => (intsU us).map fun is => i :: is
  | _ => none
theorem intsU_ok {H : Hp} : ∀ {us : List U} {vs : List V} {is : List Int}, RepL K H us vs → intsU us = some is → vs = is.map V.int
  | [], _, _, r, e => by cases r; cases e; rfl
  | u :: us, _, _, r, e => by
    obtain ⟨v, vr, rfl, h1, h2⟩ := r
    cases u with
    | int i =>
      obtain ⟨is, e1, rfl⟩ := Option.map_eq_some_iff.mp e
      have : v = .int i := h1
      rw [this, intsU_ok h2 e1]; rfl
    | _ => cases e
def blsU : List U → Option (List Bool)
  | [] => some []
  | .bl i :: us => (blsU us).map fun is => i :: is
  | _ => none
theorem blsU_ok {H : Hp} : ∀ {us : List U} {vs : List V} {is : List Bool}, RepL K H us vs → blsU us = some is → vs = is.map V.bl
  | [], _, _, r, e => by cases r; cases e; rfl
  | u :: us, _, _, r, e => by
    obtain ⟨v, vr, rfl, h1, h2⟩ := r
    cases u with
    | bl i =>
      obtain ⟨is, e1, rfl⟩ := Option.map_eq_some_iff.mp e
      have : v = .bl i := h1
      rw [this, blsU_ok h2 e1]; rfl
    | _ => cases e
def oSum : OpC K where
  r := rSum K
  f := fun us => match us with
    | [u] => (lstU u).bind fun xs => (intsU xs).map fun is => .int is.sum
    | _ => none
  ok := fun H xs us w r e => by
    split at e
    · obtain ⟨v, rfl, r1⟩ := repL1 r
      obtain ⟨us, e1, e⟩ := Option.bind_eq_some_iff.mp e
      obtain ⟨is, e2, rfl⟩ := Option.map_eq_some_iff.mp e
      obtain ⟨a, vs, rfl, h1, h2⟩ := lstU_ok r1 e1
      exact ⟨_, rfl, fun Q q => ⟨a, is, rfl, by rw [← intsU_ok h2 e2]; exact h1, q⟩⟩
    · cases e
def oAll : OpC K where
  r := rAll K
  f := fun us => match us with
    | [u] => (lstU u).bind fun xs => (blsU xs).map fun is => .bl (is.all id)
    | _ => none
  ok := fun H xs us w r e => by
    split at e
    · obtain ⟨v, rfl, r1⟩ := repL1 r
      obtain ⟨us, e1, e⟩ := Option.bind_eq_some_iff.mp e
      obtain ⟨is, e2, rfl⟩ := Option.map_eq_some_iff.mp e
      obtain ⟨a, vs, rfl, h1, h2⟩ := lstU_ok r1 e1
      exact ⟨_, rfl, fun Q q => ⟨a, is, rfl, by rw [← blsU_ok h2 e2]; exact h1, q⟩⟩
    · cases e
def maxI : List Int → Int
  | [] => 0
  | [x] => x
  | x :: y :: r => max x (maxI (y :: r))
theorem maxI_mem : ∀ {l : List Int}, l ≠ [] → maxI l ∈ l ∧ ∀ y ∈ l, y ≤ maxI l
  | [], h => absurd rfl h
  | [x], _ => ⟨by simp [maxI], by simp [maxI]⟩
  | x :: y :: r, _ => by
    obtain ⟨h1, h2⟩ := maxI_mem (l := y :: r) (by simp)
    have e : maxI (x :: y :: r) = max x (maxI (y :: r)) := rfl
    rw [e]
    refine ⟨?_, fun z hz => ?_⟩
    · rcases Int.le_total x (maxI (y :: r)) with c | c
      · rw [Int.max_eq_right c]; exact List.mem_cons_of_mem _ h1
      · rw [Int.max_eq_left c]; exact List.mem_cons_self
    · rcases List.mem_cons.mp hz with rfl | hz
      · exact Int.le_max_left _ _
      · exact Int.le_trans (h2 z hz) (Int.le_max_right _ _)
def oMax : OpC K where
  r := rMax K
  f := fun us => match us with
    | [u] => (lstU u).bind fun xs => (intsU xs).bind fun is => if is = [] then none else some (.int (maxI is))
    | _ => none
  ok := fun H xs us w r e => by
    split at e
    · obtain ⟨v, rfl, r1⟩ := repL1 r
      obtain ⟨us, e1, e⟩ := Option.bind_eq_some_iff.mp e
      obtain ⟨is, e2, e⟩ := Option.bind_eq_some_iff.mp e
      obtain ⟨a, vs, rfl, h1, h2⟩ := lstU_ok r1 e1
      split at e
      · cases e
      · rename_i hne
        cases e
        refine ⟨_, rfl, fun Q q => ⟨a, is, rfl, by rw [← intsU_ok h2 e2]; exact h1, List.length_pos_iff.mpr hne, fun m hm hy => ?_⟩⟩
        obtain ⟨q1, q2⟩ := maxI_mem hne
        have : m = maxI is := Int.le_antisymm (q2 m hm) (hy _ q1)
        rw [this]; exact q
    · cases e

/-! ### new lists by built-ins -/
structure OpF (K : PySem.W.Frag) where
  r : List V → Hp → VK → Prop
  f : List U → Option (List U)
  ok : ∀ (B H : Hp) (xs : List V) (us ws : List U) (Q : VK), Ex B H → RepL K B us xs → f us = some ws → (∀ zs, RepL K B ws zs → ∀ p, H p = none → Q (.ref p) (upd H p (.lst zs))) → r xs H Q
def mBiF (o : OpF K) (a : MA K) (hk : a.k = true := by exact id rfl) : MF K where
  t := fun W => tCB o.r (a.t W)
  m := fun ρ => match a.m ρ with
    | some (.ok us ρ1) => (o.f us).map fun ws => .ok ws ρ1
    | x => x
  p := a.p
  ok := fun F W ρ σ B H Q out e R f => by
    split at e
    · rename_i us ρ1 e1
      obtain ⟨ws, ew, rfl⟩ := Option.map_eq_some_iff.mp e
      refine a.ok F W ρ σ B H _ _ e1 R fun vs B1 H1 x1 p1 R1 r1 => ?_
      rw [hk] at r1
      exact o.ok B1 H1 vs us ws _ R1.ex r1 ew fun zs rz p hp => newF f x1 p1 R1 rz hp
    · rename_i h2
      cases o : a.m ρ with
      | none => rw [o] at e; cases e
      | some x =>
        rw [o] at e; cases e
        cases out with
        | ok us ρ1 => exact absurd o (h2 us ρ1)
        | ex x ρ1 => exact a.ok F W ρ σ B H _ _ o R f
def rListX (K : PySem.W.Frag) : List V → Hp → VK → Prop := fun xs H Q => ∃ p ys, xs = [.ref p] ∧ (SqL K H p ys ∨ SqT K H p ys) ∧ ∀ l, H l = none → Q (.ref l) (upd H l (.lst ys))
def oList : OpF K where
  r := rListX K
  f := fun us => match us with
    | [u] => seqU u
    | _ => none
  ok := fun B H xs us ws Q ex r e f => by
    split at e
    · obtain ⟨v, rfl, r1⟩ := repL1 r
      obtain ⟨a, vs, rfl, h1, h2⟩ := seqU_ok r1 e
      refine ⟨a, vs, rfl, ?_, fun l hl => f vs h2 l hl⟩
      rcases h1 with h1 | h1
      · exact .inl (Ex.l ex h1)
      · exact .inr (Ex.t ex h1)
    · cases e
def insI (x : Int) : List Int → List Int
  | [] => [x]
  | y :: r => if x ≤ y then x :: y :: r else y :: insI x r
def sortI : List Int → List Int
  | [] => []
  | x :: r => insI x (sortI r)
theorem insI_perm (x : Int) : ∀ l, (insI x l).Perm (x :: l)
  | [] => .refl _
  | y :: r => by
    unfold insI
    split
    · exact .refl _
    · exact ((insI_perm x r).cons y).trans (.swap x y r)
theorem sortI_perm : ∀ l, (sortI l).Perm l
  | [] => .refl _
  | x :: r => (insI_perm x (sortI r)).trans ((sortI_perm r).cons x)
theorem insI_sorted (x : Int) : ∀ {l : List Int}, l.Pairwise (· ≤ ·) → (insI x l).Pairwise (· ≤ ·)
  | [], _ => by simp [insI]
  | y :: r, h => by
    unfold insI
    obtain ⟨h1, h2⟩ := List.pairwise_cons.mp h
    split
    · rename_i c
      exact List.pairwise_cons.mpr ⟨fun z hz => by rcases List.mem_cons.mp hz with rfl | hz; exact c; exact Int.le_trans c (h1 z hz), h⟩
    · rename_i c
      refine List.pairwise_cons.mpr ⟨fun z hz => ?_, insI_sorted x h2⟩
      rcases List.mem_cons.mp ((insI_perm x r).mem_iff.mp hz) with rfl | hz
      · omega
      · exact h1 z hz
theorem sortI_sorted : ∀ l, (sortI l).Pairwise (· ≤ ·)
  | [] => .nil
  | x :: r => insI_sorted x (sortI_sorted r)
theorem sortI_uniq : ∀ {l l' : List Int}, l.Perm l' → l.Pairwise (· ≤ ·) → l'.Pairwise (· ≤ ·) → l = l'
  | l, l', p, h, h' => p.eq_of_pairwise (fun a b _ _ h1 h2 => Int.le_antisymm h1 h2) h h'
def oSorted : OpF K where
  r := rSortedI K
  f := fun us => match us with
    | [u] => (lstU u).bind fun xs => (intsU xs).map fun is => (sortI is).map U.int
    | _ => none
  ok := fun B H xs us ws Q ex r e f => by
    split at e
    · obtain ⟨v, rfl, r1⟩ := repL1 r
      obtain ⟨us, e1, e⟩ := Option.bind_eq_some_iff.mp e
      obtain ⟨is, e2, rfl⟩ := Option.map_eq_some_iff.mp e
      obtain ⟨a, vs, rfl, h1, h2⟩ := lstU_ok r1 e1
      refine ⟨a, is, rfl, by rw [← intsU_ok h2 e2]; exact Ex.l ex h1, fun ns' p hp hs hn => ?_⟩
      have : ns' = sortI is := sortI_uniq (hp.trans (sortI_perm is).symm) hs (sortI_sorted is)
      subst this
      refine f _ ?_ p hn
      generalize sortI is = l
      induction l with
      | nil => exact rfl
      | cons x l ih => exact ⟨_, _, rfl, rfl, ih⟩
    · cases e

/-! ### what is walked -/
theorem Itok_list {B : Hp} {us : List U} {a : Addr} {vs : List V} (h : SqL K B a vs) (r : RepL K B us vs) : ItOk K B us (Itl K a) := fun i B1 H1 x1 x2 => by
  have h1 : SqL K H1 a vs := Ex.l x2 (Ex.l x1 h)
  refine ⟨fun hi => ⟨vs, h1, by rw [r.length]; exact hi⟩, fun u hu => ?_⟩
  obtain ⟨v, hv, rv⟩ := r.get hu
  refine ⟨⟨vs, v, h1, hv⟩, fun x H2 hy => ?_⟩
  obtain ⟨rfl, q⟩ := hy
  have := q vs h1
  rw [hv] at this; cases this
  exact ⟨B1, Go.refl x2, Rep.mono x1 _ _ rv⟩
end Sg

set_option Elab.async false
set_option linter.all false
set_option maxRecDepth 100000
set_option maxHeartbeats 4000000
namespace Sg
open PySem L2
variable {K : PySem.W.Frag}

/-! ### what is walked -/
def miList (a : ME K) (hk : a.k = true := by exact id rfl) : MI K where
  t := fun W => iList K (a.t W)
  m := fun ρ => match a.m ρ with
    | some (.ok u ρ1) => (lstU u).map fun us => .ok us ρ1
    | some (.ex e ρ1) => some (.ex e ρ1)
    | none => none
  ok := fun F W ρ σ B H Q out e R f => by
    split at e
    · rename_i u ρ1 e1
      obtain ⟨us, e2, rfl⟩ := Option.map_eq_some_iff.mp e
      refine a.ok F W ρ σ B H _ _ e1 R fun v1 B1 H1 x1 p1 R1 r1 => ?_
      rw [hk] at r1
      obtain ⟨q, vs, rfl, h1, h2⟩ := lstU_ok r1 e2
      exact ⟨q, rfl, ⟨vs, Ex.l R1.ex h1⟩, f _ B1 H1 x1 R1 (Itok_list h1 h2)⟩
    · rename_i x ρ1 e1
      cases e
      exact a.ok F W ρ σ B H _ _ e1 R f
    · cases e
def miTup (a : ME K) (hk : a.k = true := by exact id rfl) : MI K where
  t := fun W => iTup K (a.t W)
  m := fun ρ => match a.m ρ with
    | some (.ok (.tup us) ρ1) => some (.ok us ρ1)
    | some (.ex e ρ1) => some (.ex e ρ1)
    | _ => none
  ok := fun F W ρ σ B H Q out e R f => by
    split at e
    · rename_i us ρ1 e1
      cases e
      refine a.ok F W ρ σ B H _ _ e1 R fun v1 B1 H1 x1 p1 R1 r1 => ?_
      rw [hk] at r1
      obtain ⟨q, vs, rfl, h1, h2⟩ := r1
      refine ⟨q, rfl, ⟨vs, Ex.t R1.ex h1⟩, f _ B1 H1 x1 R1 fun i B2 H2 y1 y2 => ?_⟩
      have h3 : SqT K H2 q vs := Ex.t y2 (Ex.t y1 h1)
      refine ⟨fun hi => ⟨vs, h3, by rw [h2.length]; exact hi⟩, fun u hu => ?_⟩
      obtain ⟨v, hv, rv⟩ := h2.get hu
      refine ⟨⟨vs, v, h3, hv⟩, fun x H3 hy => ?_⟩
      obtain ⟨rfl, q⟩ := hy
      have := q vs h3
      rw [hv] at this; cases this
      exact ⟨B2, Go.refl y2, Rep.mono y1 _ _ rv⟩
    · rename_i x ρ1 e1
      cases e
      exact a.ok F W ρ σ B H _ _ e1 R f
    · cases e
def rangeU (lo : Int) (n : Nat) : List U := (List.range n).map fun i => .int (lo + (i : Nat))
theorem Itok_range {B : Hp} (lo : Int) (n : Nat) : ItOk K B (rangeU lo n) (Itr lo n) := fun i B1 H1 x1 x2 => by
  refine ⟨fun hi => (show n ≤ i from by simpa [rangeU] using hi), fun u hu => ?_⟩
  unfold rangeU at hu
  rw [List.getElem?_map] at hu
  obtain ⟨j, e1, rfl⟩ := Option.map_eq_some_iff.mp hu
  obtain ⟨h1, h2⟩ := List.getElem?_eq_some_iff.mp e1
  have h3 : i < n := by simpa using h1
  have h4 : j = i := by rw [← h2]; simp
  subst h4
  refine ⟨h3, fun x H2 hy => ?_⟩
  obtain ⟨rfl, rfl⟩ := hy
  exact ⟨B1, Go.refl x2, rfl⟩
def rngOk (i j : Int) : Bool := decide (-(2 ^ 62) ≤ i ∧ i < 2 ^ 62 ∧ -(2 ^ 62) ≤ j ∧ j < 2 ^ 62)
def miRng1 (a : ME K) : MI K where
  t := fun W => iRng1 (tCons (a.t W) tNil)
  m := fun ρ => match a.m ρ with
    | some (.ok (.int j) ρ1) => if rngOk 0 j = true then some (.ok (rangeU 0 j.toNat) ρ1) else none
    | some (.ex e ρ1) => some (.ex e ρ1)
    | _ => none
  ok := fun F W ρ σ B H Q out e R f => by
    split at e
    · rename_i j ρ1 e1
      split at e
      · rename_i h
        cases e
        obtain ⟨_, _, h3, h4⟩ := of_decide_eq_true h
        refine a.ok F W ρ σ B H _ _ e1 R fun v1 B1 H1 x1 p1 R1 r1 => ?_
        have r2 : v1 = .int j := rep_up R1 r1
        subst r2
        exact ⟨j, rfl, h3, h4, f _ B1 H1 x1 R1 (Itok_range 0 _)⟩
      · cases e
    · rename_i x ρ1 e1
      cases e
      exact a.ok F W ρ σ B H _ _ e1 R f
    · cases e
def miRng2 (a b : ME K) : MI K where
  t := fun W => iRng2 (tCons (a.t W) (tCons (b.t W) tNil))
  m := fun ρ => match a.m ρ with
    | some (.ok (.int i) ρ1) => (match b.m ρ1 with
      | some (.ok (.int j) ρ2) => if rngOk i j = true then some (.ok (rangeU i (j - i).toNat) ρ2) else none
      | some (.ex e ρ2) => some (.ex e ρ2)
      | _ => none)
    | some (.ex e ρ1) => some (.ex e ρ1)
    | _ => none
  ok := fun F W ρ σ B H Q out e R f => by
    split at e
    · rename_i i ρ1 e1
      refine a.ok F W ρ σ B H _ _ e1 R fun v1 B1 H1 x1 p1 R1 r1 => ?_
      have r2 : v1 = .int i := rep_up R1 r1
      subst r2
      split at e
      · rename_i j ρ2 e2
        split at e
        · rename_i h
          cases e
          refine b.ok F W ρ1 σ B1 H1 _ _ e2 R1 fun v2 B2 H2 x2 p2 R2 r2 => ?_
          have r3 : v2 = .int j := rep_up R2 r2
          subst r3
          exact ⟨i, j, rfl, of_decide_eq_true h, f _ B2 H2 (x1.trans x2) R2 (Itok_range i _)⟩
        · cases e
      · rename_i x ρ2 e2
        cases e
        exact b.ok F W ρ1 σ B1 H1 _ _ e2 R1 fun cls d B2 H2 x2 R2 xr => f cls d B2 H2 (x1.trans x2) R2 xr
      · cases e
    · rename_i x ρ1 e1
      cases e
      exact a.ok F W ρ σ B H _ _ e1 R f
    · cases e
def enumU : Nat → List U → List U
  | _, [] => []
  | k, u :: r => .tup [.int (k : Nat), u] :: enumU (k + 1) r
theorem enumU_get : ∀ (us : List U) (k i : Nat), (enumU k us)[i]? = us[i]?.map fun u => .tup [.int ((k + i : Nat) : Nat), u]
  | [], k, i => by simp [enumU]
  | u :: r, k, 0 => by simp [enumU]
  | u :: r, k, i + 1 => by
    have := enumU_get r (k + 1) i
    simp only [enumU, List.getElem?_cons_succ, this]
    rw [show k + 1 + i = k + (i + 1) by omega]
theorem enumU_len : ∀ (us : List U) (k : Nat), (enumU k us).length = us.length
  | [], _ => rfl
  | _ :: r, k => by simp [enumU, enumU_len r]
def zipU : List U → List U → List U
  | u :: r, v :: s => .tup [u, v] :: zipU r s
  | _, _ => []
theorem zipU_get : ∀ (us vs : List U) (i : Nat) (w : U), (zipU us vs)[i]? = some w → ∃ u v, us[i]? = some u ∧ vs[i]? = some v ∧ w = .tup [u, v]
  | [], _, i, w, h => by simp [zipU] at h
  | u :: r, [], i, w, h => by simp [zipU] at h
  | u :: r, v :: s, 0, w, h => by simp [zipU] at h; exact ⟨u, v, rfl, rfl, h.symm⟩
  | u :: r, v :: s, i + 1, w, h => by
    obtain ⟨a, b, h1, h2, h3⟩ := zipU_get r s i w (by simpa [zipU] using h)
    exact ⟨a, b, by simpa using h1, by simpa using h2, h3⟩
theorem zipU_len : ∀ (us vs : List U), (zipU us vs).length = min us.length vs.length
  | [], _ => by simp [zipU]
  | u :: r, [] => by simp [zipU]
  | u :: r, v :: s => by simp [zipU, zipU_len r s]
def miEnum (a : ME K) (hk : a.k = true := by exact id rfl) : MI K where
  t := fun W => iEnum K (tCons (a.t W) tNil)
  m := fun ρ => match a.m ρ with
    | some (.ok u ρ1) => (lstU u).map fun us => .ok (enumU 0 us) ρ1
    | some (.ex e ρ1) => some (.ex e ρ1)
    | none => none
  ok := fun F W ρ σ B H Q out e R f => by
    split at e
    · rename_i u ρ1 e1
      obtain ⟨us, e2, rfl⟩ := Option.map_eq_some_iff.mp e
      refine a.ok F W ρ σ B H _ _ e1 R fun v1 B1 H1 x1 p1 R1 r1 => ?_
      rw [hk] at r1
      obtain ⟨q, vs, rfl, h1, h2⟩ := lstU_ok r1 e2
      refine ⟨q, vs, rfl, Ex.l R1.ex h1, f _ B1 H1 x1 R1 fun i B2 H2 y1 y2 => ?_⟩
      have h3 : SqL K H2 q vs := Ex.l y2 (Ex.l y1 h1)
      refine ⟨fun hi => ⟨vs, h3, by rw [h2.length]; rw [enumU_len] at hi; exact hi⟩, fun w hw => ?_⟩
      rw [enumU_get] at hw
      obtain ⟨u, hu, rfl⟩ := Option.map_eq_some_iff.mp hw
      obtain ⟨v, hv, rv⟩ := h2.get hu
      refine ⟨⟨vs, v, h3, hv⟩, fun x H3 hy => ?_⟩
      obtain ⟨T, x0, rfl, hT, rfl, hx⟩ := hy
      have := hx vs h3
      rw [hv] at this; cases this
      have g := Go.newB (o := .tup [.int ((i : Nat) : Int), v]) y2 hT
      refine ⟨_, g, T, _, rfl, .inl (.inl upd_same), _, _, rfl, ?_, _, _, rfl, Rep.mono g.bb _ _ (Rep.mono y1 _ _ rv), rfl⟩
      show V.int _ = V.int _
      rw [Nat.zero_add]
    · rename_i x ρ1 e1
      cases e
      exact a.ok F W ρ σ B H _ _ e1 R f
    · cases e
def miZip (a b : ME K) (hk : (a.k && b.k) = true := by exact id rfl) : MI K where
  t := fun W => iZip K (tCons (a.t W) (tCons (b.t W) tNil))
  m := fun ρ => match a.m ρ with
    | some (.ok u ρ1) => (match b.m ρ1 with
      | some (.ok v ρ2) => (lstU u).bind fun us => (lstU v).map fun vs => .ok (zipU us vs) ρ2
      | some (.ex e ρ2) => some (.ex e ρ2)
      | none => none)
    | some (.ex e ρ1) => some (.ex e ρ1)
    | none => none
  ok := fun F W ρ σ B H Q out e R f => by
    obtain ⟨ka, kb⟩ := Bool.and_eq_true_iff.mp hk
    split at e
    · rename_i u ρ1 e1
      refine a.ok F W ρ σ B H _ _ e1 R fun v1 B1 H1 x1 p1 R1 r1 => ?_
      rw [ka] at r1
      split at e
      · rename_i v ρ2 e2
        refine b.ok F W ρ1 σ B1 H1 _ _ e2 R1 fun v2 B2 H2 x2 p2 R2 r2 => ?_
        rw [kb] at r2
        obtain ⟨us, e3, e⟩ := Option.bind_eq_some_iff.mp e
        obtain ⟨vs, e4, rfl⟩ := Option.map_eq_some_iff.mp e
        obtain ⟨q, xs, rfl, h1, h2⟩ := lstU_ok (Rep.mono x2 _ _ r1) e3
        obtain ⟨q', ys, rfl, h1', h2'⟩ := lstU_ok r2 e4
        refine ⟨q, q', xs, ys, rfl, Ex.l R2.ex h1, Ex.l R2.ex h1', f _ B2 H2 (x1.trans x2) R2 fun i B3 H3 y1 y2 => ?_⟩
        have h3 : SqL K H3 q xs := Ex.l y2 (Ex.l y1 h1)
        have h3' : SqL K H3 q' ys := Ex.l y2 (Ex.l y1 h1')
        refine ⟨fun hi => ⟨xs, ys, h3, h3', by rw [h2.length, h2'.length]; rw [zipU_len] at hi; omega⟩, fun w hw => ?_⟩
        obtain ⟨u0, w0, hu, hw0, rfl⟩ := zipU_get us vs i w hw
        obtain ⟨v, hv, rv⟩ := h2.get hu
        obtain ⟨v', hv', rv'⟩ := h2'.get hw0
        refine ⟨⟨xs, ys, v, v', h3, h3', hv, hv'⟩, fun x H4 hy => ?_⟩
        obtain ⟨T, x0, y0, rfl, hT, rfl, hx, hy⟩ := hy
        have q1 := hx xs h3
        have q2 := hy ys h3'
        rw [hv] at q1; rw [hv'] at q2; cases q1; cases q2
        have g := Go.newB (o := .tup [v, v']) y2 hT
        exact ⟨_, g, T, _, rfl, .inl (.inl upd_same), _, _, rfl, Rep.mono g.bb _ _ (Rep.mono y1 _ _ rv), _, _, rfl, Rep.mono g.bb _ _ (Rep.mono y1 _ _ rv'), rfl⟩
      · rename_i x ρ2 e2
        cases e
        exact b.ok F W ρ1 σ B1 H1 _ _ e2 R1 fun cls d B2 H2 x2 R2 xr => f cls d B2 H2 (x1.trans x2) R2 xr
      · cases e
    · rename_i x ρ1 e1
      cases e
      exact a.ok F W ρ σ B H _ _ e1 R f
    · cases e

/-! ### methods of a list of ours -/
structure OpM (K : PySem.W.Frag) where
  r : V → List V → Hp → VK → Prop
  f : List U → List U → Option (U × List U)
  ok : ∀ (B H : Hp) (p : Addr) (us ws xs : List U) (vs zs : List V) (w : U) (Q : VK), Ex B H → H p = some (.lst vs) → B p = none → RepL K B us vs → RepL K B xs zs → f us xs = some (w, ws) →
    (∀ ys z, RepL K B ws ys → Rep K B w z → Q z (upd H p (.lst ys))) → r (.ref p) zs H Q
theorem tyL {H : Hp} {p : Addr} {vs : List V} (h : H p = some (.lst vs)) : tyV K "list" (.ref p) H := .inl ⟨rfl, vs, SqL.of h⟩
/-- xs.m(..), xs a list of ours at slot j -/
def mMeth (j : Nat) (o : OpM K) (a : MA K) (hk : a.k = true := by exact id rfl) : ME K where
  t := fun W => tBM K "list" o.r (tVar j) (a.t W)
  m := fun ρ => match ρ[j]? with
    | some (.cel _ _) => (match a.m ρ with
      | some (.ok xs ρ1) => (match ρ1[j]? with
        | some (.cel own us) => (o.f us xs).map fun q => .ok q.1 (ρ1.set j (.cel own q.2))
        | _ => none)
      | some (.ex e ρ1) => some (.ex e ρ1)
      | none => none)
    | _ => none
  p := false
  k := true
  ok := fun F W ρ σ B H Q out e R f => by
    split at e
    · rename_i own0 us0 h0
      obtain ⟨p, ws, hv, z1, z2, z3, _⟩ := R.sl j _ h0
      refine ⟨_, getD_some hv, tyL z1, ?_⟩
      split at e
      · rename_i xs ρ1 e1
        refine a.ok F W ρ σ B H _ _ e1 R fun vs B1 H1 x1 p1 R1 r1 => ?_
        rw [hk] at r1
        split at e
        · rename_i own us h1
          obtain ⟨⟨w, ws'⟩, e2, rfl⟩ := Option.map_eq_some_iff.mp e
          obtain ⟨p', ws1, hv', y1, y2, y3, _⟩ := R1.sl j _ h1
          rw [hv] at hv'; cases hv'
          exact o.ok B1 H1 p us ws' xs ws1 vs w _ R1.ex y1 y2 y3 r1 e2 fun ys z ry rz => f z B1 _ x1 (fun z => nomatch z) (R1.wrC h1 hv y1 y2 ry) rz
        · cases e
      · rename_i x ρ1 e1
        cases e
        exact a.ok F W ρ σ B H _ _ e1 R f
      · cases e
    · cases e
def mMeth0 (j : Nat) (o : OpM K) : ME K where
  t := fun _ => tBM0 K "list" o.r (tVar j)
  m := fun ρ => match ρ[j]? with
    | some (.cel own us) => (o.f us []).map fun q => .ok q.1 (ρ.set j (.cel own q.2))
    | _ => none
  p := false
  k := true
  ok := fun F W ρ σ B H Q out e R f => by
    split at e
    · rename_i own us h0
      obtain ⟨p, ws, hv, z1, z2, z3, _⟩ := R.sl j _ h0
      obtain ⟨⟨w, ws'⟩, e2, rfl⟩ := Option.map_eq_some_iff.mp e
      exact ⟨_, getD_some hv, tyL z1, o.ok B H p us ws' [] ws [] w _ R.ex z1 z2 z3 rfl e2 fun ys z ry rz => f z B _ Ex.refl (fun z => nomatch z) (R.wrC h0 hv z1 z2 ry) rz⟩
    · cases e
def oAppend : OpM K where
  r := rAppend
  f := fun us xs => match xs with
    | [x] => if us.length < 16777216 then some (.non, us ++ [x]) else none
    | _ => none
  ok := fun B H p us ws xs vs zs w Q ex h1 h2 h3 h4 e f => by
    split at e
    · split at e
      · rename_i hl
        cases e
        obtain ⟨v, rfl, r1⟩ := repL1 h4
        exact ⟨p, vs, v, rfl, rfl, h1, by rw [h3.length, PySem.sizeLine_eq]; exact hl, f _ _ (h3.append (RepL.one r1)) rfl⟩
      · cases e
    · cases e
def oExtend : OpM K where
  r := rExtend
  f := fun us xs => match xs with
    | [.lst ys] => if us.length + ys.length ≤ 16777216 then some (.non, us ++ ys) else none
    | _ => none
  ok := fun B H p us ws xs vs zs w Q ex h1 h2 h3 h4 e f => by
    split at e
    · split at e
      · rename_i hl
        cases e
        obtain ⟨v, rfl, r1⟩ := repL1 h4
        obtain ⟨q, ys, rfl, k1, k2⟩ := r1
        exact ⟨p, q, vs, ys, rfl, rfl, h1, ex _ _ k1, by rw [h3.length, k2.length, PySem.sizeLine_eq]; exact hl, f _ _ (h3.append k2) rfl⟩
      · cases e
    · cases e
def oPopAt : OpM K where
  r := rPopAt
  f := fun us xs => match xs with
    | [.int i] => if -(2 ^ 63) ≤ i ∧ i < 2 ^ 63 then (seqIndex? i us.length).bind fun k => us[k]?.map fun u => (u, us.eraseIdx k) else none
    | _ => none
  ok := fun B H p us ws xs vs zs w Q ex h1 h2 h3 h4 e f => by
    split at e
    · rename_i i
      split at e
      · rename_i hl
        obtain ⟨k, e1, e2⟩ := Option.bind_eq_some_iff.mp e
        obtain ⟨u, e3, e4⟩ := Option.map_eq_some_iff.mp e2
        cases e4
        obtain ⟨v, rfl, r1⟩ := repL1 h4
        obtain ⟨y, hy, ry⟩ := h3.get e3
        have : v = .int i := r1
        subst this
        exact ⟨p, vs, i, k, y, rfl, rfl, h1, hl.1, hl.2, by rw [h3.length]; exact e1, hy, f _ _ (h3.eraseIdx k) ry⟩
      · cases e
    · cases e
theorem dropLast_get {us : List U} {vs : List V} {B : Hp} (h : RepL K B us vs) : RepL K B us.dropLast vs.dropLast := by
  rw [List.dropLast_eq_take, List.dropLast_eq_take, h.length]
  exact h.take _
def oPop : OpM K where
  r := rPop
  f := fun us xs => match xs with
    | [] => us[us.length - 1]?.map fun u => (u, us.dropLast)
    | _ => none
  ok := fun B H p us ws xs vs zs w Q ex h1 h2 h3 h4 e f => by
    split at e
    · obtain ⟨u, e3, e4⟩ := Option.map_eq_some_iff.mp e
      cases e4
      cases h4
      obtain ⟨y, hy, ry⟩ := h3.get e3
      exact ⟨p, vs, y, rfl, rfl, h1, by rw [h3.length]; exact hy, f _ _ (dropLast_get h3) ry⟩
    · cases e
def oReverse : OpM K where
  r := rReverse
  f := fun us xs => match xs with
    | [] => some (.non, us.reverse)
    | _ => none
  ok := fun B H p us ws xs vs zs w Q ex h1 h2 h3 h4 e f => by
    split at e
    · cases e
      cases h4
      exact ⟨p, vs, rfl, rfl, h1, f _ _ h3.reverse rfl⟩
    · cases e
def oClear : OpM K where
  r := rClear
  f := fun us xs => match xs with
    | [] => some (.non, [])
    | _ => none
  ok := fun B H p us ws xs vs zs w Q ex h1 h2 h3 h4 e f => by
    split at e
    · cases e
      cases h4
      exact ⟨p, vs, rfl, rfl, h1, f [] _ rfl rfl⟩
    · cases e
/-- xs[i] = e, xs a list of ours -/
def msSet (j : Nat) (i e : ME K) (hk : e.k = true := by exact id rfl) : MS K where
  t := fun W => tAsg (e.t W) (gSub (tVar j) (i.t W) rSetL)
  m := fun ρ => match e.m ρ with
    | none => none
    | some (.ex x ρ1) => some (.ex x ρ1)
    | some (.ok u ρ1) => match ρ1[j]? with
      | some (.cel _ _) => (match i.m ρ1 with
        | none => none
        | some (.ex x ρ2) => some (.ex x ρ2)
        | some (.ok (.int n) ρ2) => (match ρ2[j]? with
          | some (.cel own us) => (ixN us.length n).map fun k => .nx (ρ2.set j (.cel own (us.set k u)))
          | _ => none)
        | _ => none)
      | _ => none
  ok := fun F W ρ σ B H D o q R f => by
    split at q
    · cases q
    · rename_i x ρ1 e1
      cases q
      exact e.ok F W ρ σ B H _ _ e1 R fun cls d B1 H1 x1 R1 xr => f cls d σ B1 H1 x1 R1 xr
    · rename_i u ρ1 e1
      refine e.ok F W ρ σ B H _ _ e1 R fun v1 B1 H1 x1 p1 R1 r1 => ?_
      rw [hk] at r1
      split at q
      · rename_i own0 us0 h0
        obtain ⟨p, ws, hv, z1, z2, z3, _⟩ := R1.sl j _ h0
        refine ⟨_, getD_some hv, ?_⟩
        split at q
        · cases q
        · rename_i x ρ2 e2
          cases q
          exact i.ok F W ρ1 σ B1 H1 _ _ e2 R1 fun cls d B2 H2 x2 R2 xr => f cls d σ B2 H2 (x1.trans x2) R2 xr
        · rename_i n ρ2 e2
          refine i.ok F W ρ1 σ B1 H1 _ _ e2 R1 fun v2 B2 H2 x2 p2 R2 r2 => ?_
          have r3 : v2 = .int n := rep_up R2 r2
          subst r3
          split at q
          · rename_i own us h1
            obtain ⟨k, ek, rfl⟩ := Option.map_eq_some_iff.mp q
            obtain ⟨p', ws1, hv', y1, y2, y3, _⟩ := R2.sl j _ h1
            rw [hv] at hv'; cases hv'
            refine ⟨p, ws1, n, k, rfl, rfl, y1, by rw [y3.length]; exact ek, ?_⟩
            exact f σ B2 _ (x1.trans x2) (R2.wrC h1 hv y1 y2 (RepL.set (Rep.mono x2 _ _ r1) k y3))
          · cases q
        · cases q
      · cases q

/-! ### lists joined, repeated -/
theorem noteF {F : Fc} {W : WX} {p : Bool} {ρ : Env} {σ : St} {B H : Hp} {Q : VK} : True := trivial
/-- xs + ys, both known -/
def mCat (a b : ME K) (hk : (a.k && b.k) = true := by exact id rfl) : MF K where
  t := fun W => tOp rCat (a.t W) (b.t W)
  m := fun ρ => match a.m ρ with
    | some (.ok (.lst us) ρ1) => (match b.m ρ1 with
      | some (.ok (.lst vs) ρ2) => if us.length + vs.length ≤ 16777216 then some (.ok (us ++ vs) ρ2) else none
      | some (.ex e ρ2) => some (.ex e ρ2)
      | _ => none)
    | some (.ex e ρ1) => some (.ex e ρ1)
    | _ => none
  p := a.p && b.p
  ok := fun F W ρ σ B H Q out e R f => by
    obtain ⟨ka, kb⟩ := Bool.and_eq_true_iff.mp hk
    split at e
    · rename_i us ρ1 e1
      refine a.ok F W ρ σ B H _ _ e1 R fun v1 B1 H1 x1 p1 R1 r1 => ?_
      rw [ka] at r1
      split at e
      · rename_i vs ρ2 e2
        split at e
        · rename_i hl
          cases e
          refine b.ok F W ρ1 σ B1 H1 _ _ e2 R1 fun v2 B2 H2 x2 p2 R2 r2 => ?_
          rw [kb] at r2
          obtain ⟨q, xs, rfl, h1, h2⟩ := Rep.mono x2 _ _ r1
          obtain ⟨q', ys, rfl, h1', h2'⟩ := r2
          refine ⟨q, q', xs, ys, rfl, rfl, R2.ex _ _ h1, R2.ex _ _ h1', by rw [h2.length, h2'.length, PySem.sizeLine_eq]; exact hl, fun z hz => newF f (x1.trans x2) (fun c => ?_) R2 (h2.append h2') hz⟩
          obtain ⟨c1, c2⟩ := Bool.and_eq_true_iff.mp c
          exact ⟨(p1 c1).1.trans (p2 c2).1, (p2 c2).2.trans (p1 c1).2⟩
        · cases e
      · rename_i x ρ2 e2
        cases e
        exact b.ok F W ρ1 σ B1 H1 _ _ e2 R1 fun cls d B2 H2 x2 R2 xr => f cls d B2 H2 (x1.trans x2) R2 xr
      · cases e
    · rename_i x ρ1 e1
      cases e
      exact a.ok F W ρ σ B H _ _ e1 R f
    · cases e
/-- xs * n -/
def mRepeat (a b : ME K) (hk : a.k = true := by exact id rfl) : MF K where
  t := fun W => tOp rRep (a.t W) (b.t W)
  m := fun ρ => match a.m ρ with
    | some (.ok (.lst us) ρ1) => (match b.m ρ1 with
      | some (.ok (.int n) ρ2) => if -(2 ^ 63) ≤ n ∧ n < 2 ^ 63 ∧ us.length * n.toNat ≤ 16777216 then some (.ok (List.replicate n.toNat us).flatten ρ2) else none
      | some (.ex e ρ2) => some (.ex e ρ2)
      | _ => none)
    | some (.ex e ρ1) => some (.ex e ρ1)
    | _ => none
  p := a.p && b.p
  ok := fun F W ρ σ B H Q out e R f => by
    split at e
    · rename_i us ρ1 e1
      refine a.ok F W ρ σ B H _ _ e1 R fun v1 B1 H1 x1 p1 R1 r1 => ?_
      rw [hk] at r1
      split at e
      · rename_i n ρ2 e2
        split at e
        · rename_i hl
          cases e
          refine b.ok F W ρ1 σ B1 H1 _ _ e2 R1 fun v2 B2 H2 x2 p2 R2 r2 => ?_
          have r3 : v2 = .int n := rep_up R2 r2
          subst r3
          obtain ⟨q, xs, rfl, h1, h2⟩ := Rep.mono x2 _ _ r1
          refine ⟨q, n, xs, rfl, rfl, R2.ex _ _ h1, hl.1, hl.2.1, by rw [h2.length, PySem.sizeLine_eq]; exact hl.2.2, fun z hz => newF f (x1.trans x2) (fun c => ?_) R2 (h2.replicate _) hz⟩
          obtain ⟨c1, c2⟩ := Bool.and_eq_true_iff.mp c
          exact ⟨(p1 c1).1.trans (p2 c2).1, (p2 c2).2.trans (p1 c1).2⟩
        · cases e
      · rename_i x ρ2 e2
        cases e
        exact b.ok F W ρ1 σ B1 H1 _ _ e2 R1 fun cls d B2 H2 x2 R2 xr => f cls d B2 H2 (x1.trans x2) R2 xr
      · cases e
    · rename_i x ρ1 e1
      cases e
      exact a.ok F W ρ σ B H _ _ e1 R f
    · cases e
end Sg

set_option Elab.async false
set_option linter.all false
set_option maxRecDepth 100000
set_option maxHeartbeats 4000000
namespace Sg
open PySem L2

/-! ### short words for derivations -/
section
variable {X : Cx} {pos pos' : Pos} {x : Str} {e : Expr} {te : TE}
theorem gnm (i : Nat) (hN : X.N.Nodup) (hi : X.N[i]? = some x := by rfl) (hx : Loc X.env.scope x := by first | exact Or.inl rfl | exact Or.inr rfl)
    (hf : X.fn x = true ∨ X.env.scope.names.lookup x = some .local := by first | exact .inl rfl | exact .inr rfl) : PG X (.Name x pos) (gName i) := pg_name hN hi hx hf
theorem sset (i : Nat) (hN : X.N.Nodup) (he : PE X e te) (hi : X.N[i]? = some x := by rfl) (hx : Loc X.env.scope x := by first | exact Or.inl rfl | exact Or.inr rfl) (hs : swapsWith e (some (.Name x pos')) pos.line X.env = pure false := by rfl)
    (hf : X.fn x = true ∨ X.env.scope.names.lookup x = some .local := by first | exact .inl rfl | exact .inr rfl) : PS X (.Assign [.Name x pos'] e pos) (tAsg te (gName i)) := ps_set hN hi hx he hs hf
end

/-! ### a def of the module, called by its name -/
structure Cal (P : Program) (w : World) (K : PySem.W.Frag) (mg : Str → Option Value) (base : Heap) (CX : CXT) (k : Nat) (x : Str) (n : Nat) (mf : List Slot → Option CO) : Prop where
  mg_ : mg x = some (.ref (He.ga K x))
  kp : PySem.W.keepIn K (.ref (He.ga K x)) = true
  ok : ∃ fd ps, FnOk P w K mg base CX k (He.ga K x) fd ps (spM K n mf) ∧ Binds K fd ps []
section
variable {X : Cx} {pos p : Pos} {x : Str} {e : Expr} {es : List Expr} {t : TA} {k n : Nat} {mf : List Slot → Option CO} {W : WX}
theorem pcal0 (c : Cal X.prog X.w X.K X.mg X.base CX0 k x n mf) (hr : Room k X.A) (ha : PA X (e :: es) t) (hg : Gl X x := by rfl) (hdb : (x == ("__debug__" : Str)) = false := by decide)
    (he : starEach (e :: es) X.env = (false, eval e X.env) :: starEach es X.env := by rfl) (hpl : (backTo pos (starEach es X.env)).any (·.1) = false := by rfl) :
    PE X (.Call (.Name x p) (e :: es) [] pos) (tCallS (spM X.K n mf) (WE W) t) := by
  obtain ⟨fd, ps, F, b⟩ := c.ok
  exact pe_callS F hr hg c.mg_ c.kp b (fun _ _ _ _ _ _ _ h => h.elim) ha hdb he hpl
theorem pcalX (c : Cal X.prog X.w X.K X.mg X.base (L2.CX X.prog X.w) k x n mf) (hr : Room k X.A) (tk : Takes X W) (ha : PA X (e :: es) t) (hg : Gl X x := by rfl) (hdb : (x == ("__debug__" : Str)) = false := by decide)
    (he : starEach (e :: es) X.env = (false, eval e X.env) :: starEach es X.env := by rfl) (hpl : (backTo pos (starEach es X.env)).any (·.1) = false := by rfl) :
    PE X (.Call (.Name x p) (e :: es) [] pos) (tCallS (spM X.K n mf) (WE W) t) := by
  obtain ⟨fd, ps, F, b⟩ := c.ok
  exact pe_callS F hr hg c.mg_ c.kp b (fun σ => passAt tk σ) ha hdb he hpl
end

variable {K : PySem.W.Frag}
/-! ### more operators -/
def oEqI : Op2 K where
  r := rEq
  f := fI fun i j => some (.bl (decide (i = j)))
  ok := fun H x y u v w ru rv e => by
    obtain ⟨i, j, rfl, rfl, e2⟩ := fI_some e
    cases e2; cases ru; cases rv
    refine ⟨_, rfl, fun Q q => ⟨rfl, ?_⟩⟩
    have : decide (V.int i = V.int j) = decide (i = j) := by simp
    rw [this]; exact q
def oNeI : Op2 K where
  r := rNe
  f := fI fun i j => some (.bl (!decide (i = j)))
  ok := fun H x y u v w ru rv e => by
    obtain ⟨i, j, rfl, rfl, e2⟩ := fI_some e
    cases e2; cases ru; cases rv
    refine ⟨_, rfl, fun Q q => ⟨rfl, ?_⟩⟩
    have : decide (V.int i = V.int j) = decide (i = j) := by simp
    rw [this]; exact q
def fS (g : Str → Str → Option U) : U → U → Option U
  | .str i, .str j => g i j
  | _, _ => none
theorem fS_some {g : Str → Str → Option U} {u v w : U} (h : fS g u v = some w) : ∃ i j, u = .str i ∧ v = .str j ∧ g i j = some w := by
  unfold fS at h
  split at h
  · exact ⟨_, _, rfl, rfl, h⟩
  · cases h
def oEqS : Op2 K where
  r := rEq
  f := fS fun i j => some (.bl (decide (i = j)))
  ok := fun H x y u v w ru rv e => by
    obtain ⟨i, j, rfl, rfl, e2⟩ := fS_some e
    cases e2; cases ru; cases rv
    refine ⟨_, rfl, fun Q q => ⟨rfl, ?_⟩⟩
    have : decide (V.str i = V.str j) = decide (i = j) := by simp
    rw [this]; exact q
def oNeS : Op2 K where
  r := rNe
  f := fS fun i j => some (.bl (!decide (i = j)))
  ok := fun H x y u v w ru rv e => by
    obtain ⟨i, j, rfl, rfl, e2⟩ := fS_some e
    cases e2; cases ru; cases rv
    refine ⟨_, rfl, fun Q q => ⟨rfl, ?_⟩⟩
    have : decide (V.str i = V.str j) = decide (i = j) := by simp
    rw [this]; exact q
/-- a < b < c -/
def mChain (o o' : Op2 K) (a b c : ME K) (h1 : (a.k || b.p) = true := by exact id rfl) (h2 : (b.k || c.p) = true := by exact id rfl) : ME K where
  t := fun W => tChain o.r o'.r (a.t W) (b.t W) (c.t W)
  m := fun ρ => bindE (a.m ρ) fun u ρ1 => bindE (b.m ρ1) fun v ρ2 => match o.f u v with
    | some (.bl true) => bindE (c.m ρ2) fun w ρ3 => (o'.f v w).bind fun z => match z with
      | .bl d => some (.ok (.bl d) ρ3)
      | _ => none
    | some (.bl false) => some (.ok (.bl false) ρ2)
    | _ => none
  p := a.p && (b.p && c.p)
  k := true
  ok := fun F W ρ σ B H Q out e R f => by
    rcases bindE_some e with ⟨u, ρ1, e1, e⟩ | ⟨x, ρ1, e1, rfl⟩
    · refine a.ok F W ρ σ B H _ _ e1 R fun v1 B1 H1 x1 p1 R1 r1 => ?_
      rcases bindE_some e with ⟨v, ρ2, e2, e⟩ | ⟨x, ρ2, e2, rfl⟩
      · refine b.ok F W ρ1 σ B1 H1 _ _ e2 R1 fun v2 B2 H2 x2 p2 R2' r2 => ?_
        have r1' : Rep K H2 u v1 := by
          rcases Bool.or_eq_true_iff.mp h1 with c | c
          · rw [c] at r1
            exact Rep.mono R2'.ex _ _ (Rep.mono x2 _ _ r1)
          · exact Rep.mono (p2 c).1 _ _ (rep_up R1 r1)
        split at e
        · rename_i eo
          obtain ⟨z, hz, q⟩ := o.ok H2 v1 v2 u v _ r1' (rep_up R2' r2) eo
          cases hz
          refine q _ ⟨true, rfl, ?_⟩
          rw [if_pos rfl]
          rcases bindE_some e with ⟨w, ρ3, e3, e⟩ | ⟨x, ρ3, e3, rfl⟩
          · refine c.ok F W ρ2 σ B2 H2 _ _ e3 R2' fun v3 B3 H3 x3 p3 R3 r3 => ?_
            obtain ⟨z, ez, e⟩ := Option.bind_eq_some_iff.mp e
            have r2' : Rep K H3 v v2 := by
              rcases Bool.or_eq_true_iff.mp h2 with c | c
              · rw [c] at r2
                exact Rep.mono R3.ex _ _ (Rep.mono x3 _ _ r2)
              · exact Rep.mono (p3 c).1 _ _ (rep_up R2' r2)
            obtain ⟨z', hz', q'⟩ := o'.ok H3 v2 v3 v w z r2' (rep_up R3 r3) ez
            split at e
            · cases e; cases hz'
              refine q' _ (f _ B3 H3 ((x1.trans x2).trans x3) (fun c => ?_) R3 rfl)
              obtain ⟨c1, c2⟩ := Bool.and_eq_true_iff.mp c
              obtain ⟨c2, c3⟩ := Bool.and_eq_true_iff.mp c2
              exact ⟨((p1 c1).1.trans (p2 c2).1).trans (p3 c3).1, ((p3 c3).2.trans (p2 c2).2).trans (p1 c1).2⟩
            · cases e
          · exact c.ok F W ρ2 σ B2 H2 _ _ e3 R2' fun cls d B3 H3 x3 R3 xr => f cls d B3 H3 ((x1.trans x2).trans x3) R3 xr
        · rename_i eo
          cases e
          obtain ⟨z, hz, q⟩ := o.ok H2 v1 v2 u v _ r1' (rep_up R2' r2) eo
          cases hz
          refine q _ ⟨false, rfl, ?_⟩
          rw [if_neg (by decide)]
          refine f _ B2 H2 (x1.trans x2) (fun c => ?_) R2' rfl
          obtain ⟨c1, c2⟩ := Bool.and_eq_true_iff.mp c
          obtain ⟨c2, c3⟩ := Bool.and_eq_true_iff.mp c2
          exact ⟨(p1 c1).1.trans (p2 c2).1, (p2 c2).2.trans (p1 c1).2⟩
        · cases e
      · exact b.ok F W ρ1 σ B1 H1 _ _ e2 R1 fun cls d B2 H2 x2 R2' xr => f cls d B2 H2 (x1.trans x2) R2' xr
    · exact a.ok F W ρ σ B H _ _ e1 R fun cls d B1 H1 x1 R1 xr => f cls d B1 H1 x1 R1 xr
/-- isinstance(x, T), T a built-in class -/
def tyU : U → Option String
  | .non => some "NoneType"
  | .bl _ => some "bool"
  | .int _ => some "int"
  | .str _ => some "str"
  | .lst _ => some "list"
  | .tup _ => some "tuple"
  | .dic _ => some "dict"
  | _ => none
theorem tyU_ok {H : Hp} {u : U} {v : V} {n : String} (r : Rep K H u v) (e : tyU u = some n) : TyX K H v (.type n) := by
  cases u with
  | non => cases e; cases r; exact .base .non
  | bl b => cases e; cases r; exact .base (.bl b)
  | int b => cases e; cases r; exact .base (.int b)
  | str b => cases e; cases r; exact .base (.str b)
  | lst us => cases e; obtain ⟨a, vs, rfl, h1, _⟩ := r; exact .base (.lst h1)
  | tup us =>
    cases e
    obtain ⟨a, vs, rfl, h1, _⟩ := r
    rcases h1 with (h1 | ⟨o, h1⟩) | ⟨o, its, n, hk, hc, _⟩
    · exact .base (.tup h1)
    · exact .fTuple h1
    · exact .kTuple hk hc
  | dic us => cases e; obtain ⟨a, vs, rfl, h1, _⟩ := r; exact .base (.dK h1)
  | _ => cases e
/-- the answer by names of built-in types -/
def isiB (a b : String) : Option Bool :=
  if a = b then some true else if b = "int" then (if a = "bool" then some true else if a ∈ ["NoneType", "str", "list", "tuple", "dict"] then some false else none)
  else if b ∈ ["bool", "str", "list", "tuple", "dict"] then (if a ∈ ["NoneType", "bool", "int", "str", "list", "tuple", "dict"] then some false else none) else none
theorem isiB_ok {a b : String} {r : Bool} (h : isiB a b = some r) : kitB a b = some r := by
  unfold isiB at h
  split at h
  · rename_i e
    subst e; cases h
    unfold kitB
    rw [if_pos (by simp)]
  · split at h
    · rename_i eb
      subst eb
      split at h
      · rename_i ea; subst ea; cases h; decide +kernel
      · split at h
        · rename_i hm
          cases h
          simp only [List.mem_cons, List.not_mem_nil, or_false] at hm
          rcases hm with rfl | rfl | rfl | rfl | rfl <;> decide +kernel
        · cases h
    · split at h
      · rename_i hb
        split at h
        · rename_i ha
          cases h
          simp only [List.mem_cons, List.not_mem_nil, or_false] at ha hb
          rcases hb with rfl | rfl | rfl | rfl | rfl <;> rcases ha with rfl | rfl | rfl | rfl | rfl | rfl | rfl <;> first | decide +kernel | contradiction
        · cases h
      · cases h
def rIsB (K : PySem.W.Frag) (n : String) : List V → Hp → VK → Prop := rIsi K
def mIsi (n : String) (a : ME K) : ME K where
  t := fun W => tCB (rIsi K) (tCons (a.t W) (tCons (tC (.ty n)) tNil))
  m := fun ρ => bindE (a.m ρ) fun u ρ1 => (tyU u).bind fun s => (isiB s n).map fun b => .ok (.bl b) ρ1
  p := a.p
  k := true
  ok := fun F W ρ σ B H Q out e R f => by
    rcases bindE_some e with ⟨u, ρ1, e1, e⟩ | ⟨x, ρ1, e1, rfl⟩
    · refine a.ok F W ρ σ B H _ _ e1 R fun v1 B1 H1 x1 p1 R1 r1 => ?_
      obtain ⟨s, es, e⟩ := Option.bind_eq_some_iff.mp e
      obtain ⟨b, eb, rfl⟩ := Option.map_eq_some_iff.mp e
      exact ⟨v1, .ty n, .type s, .type n, b, rfl, .ty n, tyU_ok (rep_up R1 r1) es, kit_ty (isiB_ok eb), f (.bl b) B1 H1 x1 p1 R1 rfl⟩
    · exact a.ok F W ρ σ B H _ _ e1 R fun cls d B1 H1 x1 R1 xr => f cls d B1 H1 x1 R1 xr
/-- x op= e -/
structure OpIp (K : PySem.W.Frag) where
  r : TIp
  f : U → U → Option U
  ok : ∀ (H : Hp) (x y : V) (u v w : U), Rep K H u x → Rep K H v y → f u v = some w → ∃ z, scV w = some z ∧ ∀ Q : VK, Q z H → r x y H Q
def msAug (i : Nat) (o : OpIp K) (e : ME K) : MS K where
  t := fun W => tAug i (e.t W) o.r
  m := fun ρ => match ρ[i]? with
    | some (.val u) => bindES (e.m ρ) fun v ρ1 => (o.f u v).map fun w => .nx (ρ1.set i (.val w))
    | _ => none
  ok := fun F W ρ σ B H D out q R f => by
    split at q
    · rename_i u hu
      obtain ⟨x, hx, rx⟩ := R.sl i _ hu
      refine ⟨x, getD_some hx, ?_⟩
      rcases bindES_some q with ⟨v, ρ1, e1, q⟩ | ⟨y, ρ1, e1, rfl⟩
      · refine e.ok F W ρ σ B H _ _ e1 R fun v1 B1 H1 x1 p1 R1 r1 => ?_
        obtain ⟨w, ew, rfl⟩ := Option.map_eq_some_iff.mp q
        obtain ⟨z, hz, k⟩ := o.ok H1 x v1 u v w (Rep.mono R1.ex _ _ (Rep.mono x1 _ _ rx)) (rep_up R1 r1) ew
        exact k _ (f _ B1 H1 x1 (R1.setV (rep_sc hz)))
      · exact e.ok F W ρ σ B H _ _ e1 R fun cls d B1 H1 x1 R1 xr => f cls d σ B1 H1 x1 R1 xr
    · cases q
end Sg

set_option Elab.async false
set_option linter.all false
set_option maxRecDepth 100000
set_option maxHeartbeats 4000000
namespace Sg
open PySem L2
section
variable {X : Cx} {pos : Pos} {x : Str}
theorem pglI {i : Int} (h : ∃ t, X.mg x = some (.int i t)) (hg : Gl X x := by rfl) (hd : (x == ("__debug__" : Str)) = false := by decide) : PE X (.Name x pos) (tC (.int i)) := by
  obtain ⟨t, e⟩ := h
  exact pe_glob hg e ⟨t, rfl⟩ hd
theorem pglS {z : Str} (h : ∃ t, X.mg x = some (.str z t)) (hg : Gl X x := by rfl) (hd : (x == ("__debug__" : Str)) = false := by decide) : PE X (.Name x pos) (tC (.str z)) := by
  obtain ⟨t, e⟩ := h
  exact pe_glob hg e ⟨t, rfl⟩ hd
end
variable {K : PySem.W.Frag}
/-- xs[::-1] -/
def mRev (a : ME K) (hk : a.k = true := by exact id rfl) : MF K where
  t := fun W => tRevL K (a.t W)
  m := fun ρ => match a.m ρ with
    | some (.ok u ρ1) => (lstU u).map fun us => .ok us.reverse ρ1
    | some (.ex e ρ1) => some (.ex e ρ1)
    | none => none
  p := a.p
  ok := fun F W ρ σ B H Q out e R f => by
    split at e
    · rename_i u ρ1 e1
      obtain ⟨us, e2, rfl⟩ := Option.map_eq_some_iff.mp e
      refine a.ok F W ρ σ B H _ _ e1 R fun v1 B1 H1 x1 p1 R1 r1 => ?_
      rw [hk] at r1
      obtain ⟨q, vs, rfl, h1, h2⟩ := lstU_ok r1 e2
      exact ⟨q, vs, rfl, Ex.l R1.ex h1, fun p hp => newF f x1 p1 R1 h2.reverse hp⟩
    · rename_i x ρ1 e1
      cases e
      exact a.ok F W ρ σ B H _ _ e1 R f
    · cases e
def rgLok (i j : Int) : Bool := decide (-(2 ^ 62) ≤ i ∧ i < 2 ^ 62 ∧ -(2 ^ 62) ≤ j ∧ j < 2 ^ 62 ∧ (j - i).toNat ≤ 2 ^ 24)
theorem rgU_rep {B : Hp} (i j : Int) : RepL K B (rangeU i (j - i).toNat) (rgV i j) := by
  unfold rangeU rgV
  generalize (j - i).toNat = n
  have : ∀ l : List Nat, RepL K B (l.map fun k => U.int (i + (k : Nat))) (l.map fun k => V.int (i + (k : Nat))) := by
    intro l
    induction l with
    | nil => exact rfl
    | cons x l ih => exact ⟨_, _, rfl, rfl, ih⟩
  exact this _
/-- list(range(a, b)) -/
def mListRng (a b : ME K) : MF K where
  t := fun W => tLstRg (tRg2 (a.t W) (b.t W))
  m := fun ρ => match a.m ρ with
    | some (.ok (.int i) ρ1) => (match b.m ρ1 with
      | some (.ok (.int j) ρ2) => if rgLok i j = true then some (.ok (rangeU i (j - i).toNat) ρ2) else none
      | some (.ex e ρ2) => some (.ex e ρ2)
      | _ => none)
    | some (.ex e ρ1) => some (.ex e ρ1)
    | _ => none
  p := a.p && b.p
  ok := fun F W ρ σ B H Q out e R f => by
    split at e
    · rename_i i ρ1 e1
      refine a.ok F W ρ σ B H _ _ e1 R fun v1 B1 H1 x1 p1 R1 r1 => ?_
      have r2 : v1 = .int i := rep_up R1 r1
      subst r2
      split at e
      · rename_i j ρ2 e2
        split at e
        · rename_i h
          cases e
          refine b.ok F W ρ1 σ B1 H1 _ _ e2 R1 fun v2 B2 H2 x2 p2 R2 r2 => ?_
          have r3 : v2 = .int j := rep_up R2 r2
          subst r3
          refine ⟨i, j, rfl, rfl, (by have h' := of_decide_eq_true (show decide _ = true from h); exact h'), fun q hq => newF f (x1.trans x2) (fun c => ?_) R2 (rgU_rep i j) hq⟩
          obtain ⟨c1, c2⟩ := Bool.and_eq_true_iff.mp c
          exact ⟨(p1 c1).1.trans (p2 c2).1, (p2 c2).2.trans (p1 c1).2⟩
        · cases e
      · rename_i x ρ2 e2
        cases e
        exact b.ok F W ρ1 σ B1 H1 _ _ e2 R1 fun cls d B2 H2 x2 R2 xr => f cls d B2 H2 (x1.trans x2) R2 xr
      · cases e
    · rename_i x ρ1 e1
      cases e
      exact a.ok F W ρ σ B H _ _ e1 R f
    · cases e
section
variable {X : Cx} {pos p2 p3 p4 : Pos} {a b : Expr} {ta tb : TE}
theorem pe_listRng2 (hl : X.mg "list" = none) (hm : X.mg "range" = none) (ha : PE X a ta) (hb : PE X b tb) (hc : X.calm = true := by rfl) (hg : Gl X "list" := by rfl) (hg2 : Gl X "range" := by rfl)
    (na : starEach [a, b] X.env = (false, eval a X.env) :: starEach [b] X.env := by rfl)
    (nb : starEach [b] X.env = (false, eval b X.env) :: starEach [] X.env := by rfl) (hp : (backTo p2 (starEach [b] X.env)).any (·.1) = false := by rfl) :
    PE X (.Call (.Name "list" p3) [.Call (.Name "range" p4) [a, b] [] p2] [] pos) (tLstRg (tRg2 ta tb)) :=
  pe_listRg hc hg hl (prg_2 hg2 hm ha hb na nb hp)
end
/-- f(..) that hands back a new list of its own -/
def callMF (mf : List Slot → Option CO) (a : Option CA) : Option AO :=
  match a with
  | none => none
  | some (.ex e ρ) => some (.ex e ρ)
  | some (.ok is ρ) => match resolve ρ is with
    | none => none
    | some as => if nCel as ≤ 1 then match mf as with
      | some (.cel us c) => (putJ ρ (celJ is) c).map fun ρ' => .ok us ρ'
      | some (.ex e c) => (putJ ρ (celJ is) c).map fun ρ' => .ex e ρ'
      | _ => none
    else none
theorem put_cells {F : Fc} {ρ ρ' : Env} {σ : St} {B H : Hp} {jc : Option Nat} {c : Option (List U)} {q : Addr} (R : Rel K F ρ σ B H) (h : H q = none) (e : putJ ρ jc c = some ρ') (j : Nat) (s : Slot) (es : ρ'[j]? = some s) (cs : s.isC = true) : σ.getD j none ≠ some (.ref q) := fun z => by
  have hz : ∃ t, ρ[j]? = some t ∧ t.isC = true := by
    unfold putJ at e
    split at e
    · cases e; exact ⟨s, es, cs⟩
    · split at e
      · rename_i own us0 hj
        cases e
        rcases getElem_set es with ⟨rfl, rfl⟩ | ⟨ne, es⟩
        · exact ⟨_, hj, rfl⟩
        · exact ⟨s, es, cs⟩
      · cases e
    · cases e
  obtain ⟨t, ht, ct⟩ := hz
  exact R.notC h j t ht ct z
def mCallF (n : Nat) (mf : List Slot → Option CO) (a : MC K) (hk : a.k = true := by exact id rfl) : MF K where
  t := fun W => tCallS (spM K n mf) (WE W) (a.t W)
  m := fun ρ => (a.m ρ).bind fun o => match o with
    | .ok is _ => if is.length = n then callMF mf (some o) else none
    | _ => callMF mf (some o)
  p := false
  ok := fun F W ρ σ B H Q out e R f => by
    obtain ⟨o, e1, e⟩ := Option.bind_eq_some_iff.mp e
    cases o with
    | ex x ρ1 => cases e; exact a.ok F W ρ σ B H _ _ e1 R fun cls d B1 H1 x1 R1 xr => f cls d B1 H1 x1 R1 xr
    | ok is ρ1 =>
      refine a.ok F W ρ σ B H _ _ e1 R fun vs B1 H1 x1 p1 R1 r1 => ?_
      rw [hk] at r1
      have e' : (if is.length = n then callMF mf (some (.ok is ρ1)) else none) = some out := e
      split at e'
      · rename_i hn
        unfold callMF at e'
        split at e'
        · cases e'
        · rename_i h; cases h
        · rename_i is' ρ1' h
          cases h
          split at e'
          · cases e'
          · rename_i as ea
            obtain ⟨q1, q2, q3⟩ := resolve_ok R1 r1 ea
            split at e'
            · rename_i n1
              have q3 := q3 n1
              split at e'
              · rename_i us c em
                obtain ⟨ρ', ep, rfl⟩ := Option.map_eq_some_iff.mp e'
                refine ⟨B1, as, _, R1.ex, q2.trans hn, q1, n1, em, fun q ws B' H' g cc h1 h2 h3 hq r => ?_⟩
                exact f q ws B' H' (x1.trans g.bb) (fun z => nomatch z) (after_call R1 g q3 cc ep) h1 h2 (R1.fresh0 h3) (put_cells R1 h3 ep) (fun o ho => by rw [(R1.xx _ _ ho).1] at h3; cases h3) r
              · rename_i x c em
                obtain ⟨ρ', ep, rfl⟩ := Option.map_eq_some_iff.mp e'
                exact ⟨B1, as, _, R1.ex, q2.trans hn, q1, n1, em, fun cls d B' H' g cc xr => f cls d B' H' (x1.trans g.bb) (after_call R1 g q3 cc ep) xr⟩
              · cases e'
            · cases e'
      · cases e'
/-! ### a, b = v, w -/
theorem Rel.pushX {F : Fc} {ρ : Env} {σ : St} {B H : Hp} {q : Addr} {o : HO} (R : Rel K F ρ σ B H) (h1 : H q = some o) (h2 : B q = none) (h3 : F.H0 q = none) (h4 : ∀ (j : Nat) s, ρ[j]? = some s → s.isC = true → σ.getD j none ≠ some (.ref q)) (h5 : ∀ o, (q, o) ∉ F.X) : Rel K (F.push q o) ρ σ B H :=
  ⟨R.len, R.ex, R.sl, R.ds, R.bb, R.hh, R.th, R.nw, fun a u e => by
    rcases List.mem_cons.mp e with e | e
    · cases e; exact ⟨h1, h2, h3⟩
    · exact R.xx a u e, fun a u e j s es c => by
    rcases List.mem_cons.mp e with e | e
    · cases e; exact h4 j s es c
    · exact R.xs a u e j s es c, by
    show ((q, o) :: F.X |>.map (·.1)).Nodup
    rw [List.map_cons, List.nodup_cons]
    refine ⟨fun hm => ?_, R.xd⟩
    obtain ⟨⟨a, u⟩, hu, e⟩ := List.mem_map.mp hm
    have e' : a = q := e
    rw [e'] at hu
    exact h5 u hu⟩
def msParVV (i j : Nat) (a b : ME K) (ha : a.k = true := by exact id rfl) (hb : b.k = true := by exact id rfl) : MS K where
  t := fun W => tPar i j (tCons (a.t W) (tCons (b.t W) tNil))
  m := fun ρ => bindES (a.m ρ) fun u ρ1 => bindES (b.m ρ1) fun v ρ2 => some (.nx ((ρ2.set i (.val u)).set j (.val v)))
  ok := fun F W ρ σ B H D o q R f => by
    rcases bindES_some q with ⟨u, ρ1, e1, q⟩ | ⟨x, ρ1, e1, rfl⟩
    · refine a.ok F W ρ σ B H _ _ e1 R fun v1 B1 H1 x1 p1 R1 r1 => ?_
      rw [ha] at r1
      rcases bindES_some q with ⟨v, ρ2, e2, q⟩ | ⟨x, ρ2, e2, rfl⟩
      · cases q
        refine b.ok F W ρ1 σ B1 H1 _ _ e2 R1 fun v2 B2 H2 x2 p2 R2 r2 => ?_
        rw [hb] at r2
        exact ⟨v1, v2, rfl, f _ B2 H2 (x1.trans x2) ((R2.setV (Rep.mono x2 _ _ r1)).setV r2)⟩
      · exact b.ok F W ρ1 σ B1 H1 _ _ e2 R1 fun cls d B2 H2 x2 R2 xr => f cls d σ B2 H2 (x1.trans x2) R2 xr
    · exact a.ok F W ρ σ B H _ _ e1 R fun cls d B1 H1 x1 R1 xr => f cls d σ B1 H1 x1 R1 xr
/-- the first a new list of ours (it stays ahead of the second's evaluation) -/
def msParFV (i j : Nat) (a : MF K) (b : ME K) (hij : (i != j) = true := by exact id rfl) (hb : b.k = true := by exact id rfl) : MS K where
  t := fun W => tPar i j (tCons (a.t W) (tCons (b.t W) tNil))
  m := fun ρ => bindAS (a.m ρ) fun us ρ1 => match b.m ρ1 with
    | some (.ok v ρ2) => some (.nx ((ρ2.set i (.cel true us)).set j (.val v)))
    | some (.ex e ρ2) => some (.ex e ρ2)
    | none => none
  ok := fun F W ρ σ B H D o q R f => by
    rcases bindAS_some q with ⟨us, ρ1, e1, q⟩ | ⟨x, ρ1, e1, rfl⟩
    · refine a.ok F W ρ σ B H _ _ e1 R fun p ws B1 H1 x1 p1 R1 h1 h2 h3 h4 h5 r1 => ?_
      have R1' := R1.pushX h1 h2 h3 h4 h5
      split at q
      · rename_i v ρ2 e2
        cases q
        refine b.ok _ W ρ1 σ B1 H1 _ _ e2 R1' fun v2 B2 H2 x2 p2 R2 r2 => ?_
        rw [hb] at r2
        obtain ⟨y1, y2, y3⟩ := R2.getX
        have y4 := R2.xs p _ List.mem_cons_self
        have y5 := R2.notX
        exact ⟨.ref p, v2, rfl, f _ B2 H2 (x1.trans x2) ((R2.popX.setC y1 y2 (RepL.mono x2 _ _ r1) y3 y4 y5).setV r2)⟩
      · rename_i x ρ2 e2
        cases q
        exact b.ok _ W ρ1 σ B1 H1 _ _ e2 R1' fun cls d B2 H2 x2 R2 xr => f cls d σ B2 H2 (x1.trans x2) R2.popX xr
      · cases q
    · exact a.ok F W ρ σ B H _ _ e1 R fun cls d B1 H1 x1 R1 xr => f cls d σ B1 H1 x1 R1 xr
theorem setC_comm {F : Fc} {ρ : Env} {σ : St} {B H : Hp} : True := trivial
def msParVF (i j : Nat) (a : ME K) (b : MF K) (ha : a.k = true := by exact id rfl) : MS K where
  t := fun W => tPar i j (tCons (a.t W) (tCons (b.t W) tNil))
  m := fun ρ => bindES (a.m ρ) fun u ρ1 => bindAS (b.m ρ1) fun us ρ2 => some (.nx ((ρ2.set i (.val u)).set j (.cel true us)))
  ok := fun F W ρ σ B H D o q R f => by
    rcases bindES_some q with ⟨u, ρ1, e1, q⟩ | ⟨x, ρ1, e1, rfl⟩
    · refine a.ok F W ρ σ B H _ _ e1 R fun v1 B1 H1 x1 p1 R1 r1 => ?_
      rw [ha] at r1
      rcases bindAS_some q with ⟨us, ρ2, e2, q⟩ | ⟨x, ρ2, e2, rfl⟩
      · cases q
        refine b.ok F W ρ1 σ B1 H1 _ _ e2 R1 fun p ws B2 H2 x2 p2 R2 h1 h2 h3 h4 h5 r2 => ?_
        refine ⟨v1, .ref p, rfl, f _ B2 H2 (x1.trans x2) ((R2.setV (i := i) (Rep.mono x2 _ _ r1)).setC h1 h2 r2 h3 (fun l s es cs => ?_) h5)⟩
        rcases getElem_set es with ⟨rfl, rfl⟩ | ⟨ne, es⟩
        · cases cs
        · rw [List.getD_eq_getElem?_getD, List.getElem?_set_ne (Ne.symm ne), ← List.getD_eq_getElem?_getD]
          exact h4 l s es cs
      · exact b.ok F W ρ1 σ B1 H1 _ _ e2 R1 fun cls d B2 H2 x2 R2 xr => f cls d σ B2 H2 (x1.trans x2) R2 xr
    · exact a.ok F W ρ σ B H _ _ e1 R fun cls d B1 H1 x1 R1 xr => f cls d σ B1 H1 x1 R1 xr
def ipAdd : OpIp K where
  r := ipI fun i j => i + j
  f := fI fun i j => some (.int (i + j))
  ok := fun H x y u v w ru rv e => by
    obtain ⟨i, j, rfl, rfl, e2⟩ := fI_some e
    cases e2; cases ru; cases rv
    exact ⟨_, rfl, fun Q q => ⟨_, _, rfl, rfl, q⟩⟩
def ipSub : OpIp K where
  r := ipI fun i j => i - j
  f := fI fun i j => some (.int (i - j))
  ok := fun H x y u v w ru rv e => by
    obtain ⟨i, j, rfl, rfl, e2⟩ := fI_some e
    cases e2; cases ru; cases rv
    exact ⟨_, rfl, fun Q q => ⟨_, _, rfl, rfl, q⟩⟩
end Sg

set_option Elab.async false
set_option linter.all false
set_option maxRecDepth 100000
set_option maxHeartbeats 4000000
namespace Sg
open PySem L2
/-! derivations over bundles -/
section
variable {X : Cx} {W : WX} {pos p2 p3 p4 : Pos} {e a b c : Expr} {es : List Expr} {A B C : ME X.K} {j : Nat} {x : Str}
theorem dI {i : Int} {h} : PE X (.Constant (.int i) j pos) ((mC (K := X.K) (.int i) (.int i) h).t W) := pe_int
theorem dB {i : Bool} {h} : PE X (.Constant (.bool i) j pos) ((mC (K := X.K) (.bl i) (.bl i) h).t W) := pe_bl
theorem dN {h} : PE X (.Constant .none j pos) ((mC (K := X.K) .non .non h).t W) := pe_non
theorem dS {i : Str} {h} : PE X (.Constant (.str i) j pos) ((mC (K := X.K) (.str i) (.str i) h).t W) := pe_str
theorem dGI {i : Int} {h} (q : ∃ t, X.mg x = some (.int i t)) (hg : Gl X x := by rfl) (hd : (x == ("__debug__" : Str)) = false := by decide) : PE X (.Name x pos) ((mC (K := X.K) (.int i) (.int i) h).t W) := pglI q hg hd
theorem dGS {i : Str} {h} (q : ∃ t, X.mg x = some (.str i t)) (hg : Gl X x := by rfl) (hd : (x == ("__debug__" : Str)) = false := by decide) : PE X (.Name x pos) ((mC (K := X.K) (.str i) (.str i) h).t W) := pglS q hg hd
theorem dV {i : Nat} (hN : X.N[i]? = some x := by rfl) (hv : Vis X.env.scope x := by first | exact Or.inl rfl | exact Or.inr (Or.inl rfl) | exact Or.inr (Or.inr rfl)) (hd : (x == ("__debug__" : Str)) = false := by decide)
    (hcd : (x == ("__classdict__" : Str)) = false := by decide) : PE X (.Name x pos) ((mVar (K := X.K) i).t W) := pe_var hN hv hd hcd
theorem dLk {i : Nat} (hN : X.N[i]? = some x := by rfl) (hv : Vis X.env.scope x := by first | exact Or.inl rfl | exact Or.inr (Or.inl rfl) | exact Or.inr (Or.inr rfl)) (hd : (x == ("__debug__" : Str)) = false := by decide)
    (hcd : (x == ("__classdict__" : Str)) = false := by decide) : PE X (.Name x pos) ((mLook (K := X.K) i).t W) := pe_var hN hv hd hcd
theorem dLt {i : Nat} (hN : X.N[i]? = some x := by rfl) (hv : Vis X.env.scope x := by first | exact Or.inl rfl | exact Or.inr (Or.inl rfl) | exact Or.inr (Or.inr rfl)) (hd : (x == ("__debug__" : Str)) = false := by decide)
    (hcd : (x == ("__classdict__" : Str)) = false := by decide) : PE X (.Name x pos) ((mLet (K := X.K) i).t W) := pe_var hN hv hd hcd
theorem dop {op : Operator} {o : Op2 X.K} {h} (ho : OpR X (binaryOp op) o.r) (ha : PE X a (A.t W)) (hb : PE X b (B.t W)) : PE X (.BinOp a op b pos) ((mOp o A B h).t W) := pe_op ho ha hb
theorem dopK {op : Operator} {o : Op2K X.K} {h} (ho : OpR X (binaryOp op) o.r) (ha : PE X a (A.t W)) (hb : PE X b (B.t W)) : PE X (.BinOp a op b pos) ((mOpK o A B h).t W) := pe_op ho ha hb
theorem dcm {op : CmpOp} {o : Op2 X.K} {h} (ho : OpR X (compareOp op) o.r) (ha : PE X a (A.t W)) (hb : PE X b (B.t W)) (hm : behindInMarks op b = false := by first | exact nomark _ | rfl) : PE X (.Compare a [op] [b] pos) ((mOp o A B h).t W) := pe_cmpR ho ha hb hm
theorem tcm {op : CmpOp} {o : Op2 X.K} {h} (ho : OpR X (compareOp op) o.r) (ha : PE X a (A.t W)) (hb : PE X b (B.t W)) (hm : behindInMarks op b = false := by first | exact nomark _ | rfl) : PT X (.Compare a [op] [b] pos) ((mTest (mOp o A B h)).t W) := pt_cmpR ho ha hb hm
theorem dch {op op' : CmpOp} {o o' : Op2 X.K} {h h'} (ho : OpR X (compareOp op) o.r) (ho' : OpR X (compareOp op') o'.r) (ha : PE X a (A.t W)) (hb : PE X b (B.t W)) (hc : PE X c (C.t W)) (hm : lastMarks [op, op'] [b, c] = false := by with_unfolding_all rfl) : PE X (.Compare a [op, op'] [b, c] pos) ((mChain o o' A B C h h').t W) := pe_chain ho ho' ha hb hc hm
theorem tch {op op' : CmpOp} {o o' : Op2 X.K} {h h'} (ho : OpR X (compareOp op) o.r) (ho' : OpR X (compareOp op') o'.r) (ha : PE X a (A.t W)) (hb : PE X b (B.t W)) (hc : PE X c (C.t W)) (hm : lastMarks [op, op'] [b, c] = false := by with_unfolding_all rfl) : PT X (.Compare a [op, op'] [b, c] pos) ((mTest (mChain o o' A B C h h')).t W) := pt_chain ho ho' ha hb hc hm
theorem dneg (ha : PE X a (A.t W)) : PE X (.UnaryOp .USub a pos) ((mUn oNeg A).t W) := show PE X _ (tUn (oNeg (K := X.K)).r (A.t W)) from pe_un un_neg ha
theorem dix {h} (ha : PE X a (A.t W)) (hb : PE X b (B.t W)) (hs : PlainIx b := by exact fun _ _ => rfl) : PE X (.Subscript a b pos) ((mIx oIx A B h).t W) := pe_ix ix_seq ha hb hs
theorem dsc (ha : PE X a (A.t W)) : PE X a ((mSc A).t W) := ha
theorem dfr {M : MF X.K} (ha : PE X a (M.t W)) : PE X a ((mFr M).t W) := ha
theorem dnil : PA X [] ((mNil (K := X.K)).t W) := pa_nil
theorem dcons {L : MA X.K} {h} (ha : PE X e (A.t W)) (hr : PA X es (L.t W)) (hs : starEach (e :: es) X.env = (false, eval e X.env) :: starEach es X.env := by rfl) : PA X (e :: es) ((mCons A L h).t W) := pa_cons ha hr hs
theorem dtup {L : MA X.K} {h x1} (ha : PA X es (L.t W)) : PE X (.Tuple es x1 pos) ((mTup L h).t W) := pe_tup ha
theorem dlst {L : MA X.K} {h} (ha : PA X es (L.t W)) : PE X (.List es pos) ((mLst L h).t W) := pe_lst ha
theorem dand {rest : List Expr} (ha : PE X a (A.t W)) (hb : PE X (.BoolOp .And (b :: rest) pos) (B.t W)) : PE X (.BoolOp .And (a :: b :: rest) pos) ((mAndV A B).t W) := pe_and ha hb
theorem dor {rest : List Expr} (ha : PE X a (A.t W)) (hb : PE X (.BoolOp .Or (b :: rest) pos) (B.t W)) : PE X (.BoolOp .Or (a :: b :: rest) pos) ((mOrV A B).t W) := pe_or ha hb
theorem done {op} (ha : PE X a (A.t W)) : PE X (.BoolOp op [a] pos) (A.t W) := pe_one ha
theorem dnot (ha : PE X a (A.t W)) : PE X (.UnaryOp .Not a pos) ((mNotV A).t W) := pe_not ha
theorem dif {T : MT X.K} (hc : PT X c (T.t W)) (ha : PE X a (A.t W)) (hb : PE X b (B.t W)) : PE X (.IfExp c a b pos) ((mIf T A B).t W) := pe_ifExp hc ha hb
theorem onone : PO X none ((moNone (K := X.K)).t W) := po_none
theorem osome (ha : PE X a (A.t W)) : PO X (some a) ((moSome A).t W) := po_some ha
theorem dsl {lo hi : Option Expr} {L U : MO X.K} {h h1 h2} (ha : PE X a (A.t W)) (hl : PO X lo (L.t W)) (hu : PO X hi (U.t W)) : PE X (.Subscript a (.Slice lo hi none p2) pos) ((mSlL A L U h h1 h2).t W) := pe_slice sl_list ha hl hu
theorem drev {k : Nat} {h} {p1 : Pos} (ha : PE X a (A.t W)) : PE X (.Subscript a (.Slice none none (some (.UnaryOp .USub (.Constant (.int 1) k p1) p2)) p3) pos) ((mRev A h).t W) := pe_revL ha
theorem dcat {h} (ha : PE X a (A.t W)) (hb : PE X b (B.t W)) : PE X (.BinOp a .Add b pos) ((mCat A B h).t W) := pe_op op_cat ha hb
theorem drpt {h} (ha : PE X a (A.t W)) (hb : PE X b (B.t W)) : PE X (.BinOp a .Mult b pos) ((mRepeat A B h).t W) := pe_op op_rep ha hb
theorem dbiB {o : OpC X.K} {L : MA X.K} {id : String} (hc : CallR X (.builtin id) o.r) (hm : X.mg x = none) (ha : PA X (e :: es) (L.t W)) (hv : bootBuiltins x = some (.builtin id) := by decide +kernel) (hg : Gl X x := by rfl) (hn : x ≠ "__name__" := by decide) (hdb : (x == ("__debug__" : Str)) = false := by decide)
    (he : starEach (e :: es) X.env = (false, eval e X.env) :: starEach es X.env := by rfl) (hpl : (backTo pos (starEach es X.env)).any (·.1) = false := by rfl) : PE X (.Call (.Name x p2) (e :: es) [] pos) ((mBi o L).t W) := pe_callB hc hg hm hv ha hn hdb he hpl
theorem dbiT {o : OpC X.K} {L : MA X.K} {id : String} (hc : CallR X (.type id) o.r) (hm : X.mg x = none) (ha : PA X (e :: es) (L.t W)) (hv : bootBuiltins x = some (.type id) := by decide +kernel) (hg : Gl X x := by rfl) (hn : x ≠ "__name__" := by decide) (hdb : (x == ("__debug__" : Str)) = false := by decide)
    (he : starEach (e :: es) X.env = (false, eval e X.env) :: starEach es X.env := by rfl) (hpl : (backTo pos (starEach es X.env)).any (·.1) = false := by rfl) : PE X (.Call (.Name x p2) (e :: es) [] pos) ((mBi o L).t W) := pe_callTy hc hg hm hv ha hn hdb he hpl
theorem dbfB {o : OpF X.K} {L : MA X.K} {id : String} {h} (hc : CallR X (.builtin id) o.r) (hm : X.mg x = none) (ha : PA X (e :: es) (L.t W)) (hv : bootBuiltins x = some (.builtin id) := by decide +kernel) (hg : Gl X x := by rfl) (hn : x ≠ "__name__" := by decide) (hdb : (x == ("__debug__" : Str)) = false := by decide)
    (he : starEach (e :: es) X.env = (false, eval e X.env) :: starEach es X.env := by rfl) (hpl : (backTo pos (starEach es X.env)).any (·.1) = false := by rfl) : PE X (.Call (.Name x p2) (e :: es) [] pos) ((mBiF o L h).t W) := pe_callB hc hg hm hv ha hn hdb he hpl
theorem dbfT {o : OpF X.K} {L : MA X.K} {id : String} {h} (hc : CallR X (.type id) o.r) (hm : X.mg x = none) (ha : PA X (e :: es) (L.t W)) (hv : bootBuiltins x = some (.type id) := by decide +kernel) (hg : Gl X x := by rfl) (hn : x ≠ "__name__" := by decide) (hdb : (x == ("__debug__" : Str)) = false := by decide)
    (he : starEach (e :: es) X.env = (false, eval e X.env) :: starEach es X.env := by rfl) (hpl : (backTo pos (starEach es X.env)).any (·.1) = false := by rfl) : PE X (.Call (.Name x p2) (e :: es) [] pos) ((mBiF o L h).t W) := pe_callTy hc hg hm hv ha hn hdb he hpl
theorem dlr (hl : X.mg "list" = none) (hm : X.mg "range" = none) (ha : PE X a (A.t W)) (hb : PE X b (B.t W)) (hc : X.calm = true := by rfl) (hg : Gl X "list" := by rfl) (hg2 : Gl X "range" := by rfl)
    (na : starEach [a, b] X.env = (false, eval a X.env) :: starEach [b] X.env := by rfl)
    (nb : starEach [b] X.env = (false, eval b X.env) :: starEach [] X.env := by rfl) (hp : (backTo p2 (starEach [b] X.env)).any (·.1) = false := by rfl) :
    PE X (.Call (.Name "list" p3) [.Call (.Name "range" p4) [a, b] [] p2] [] pos) ((mListRng A B).t W) := pe_listRng2 hl hm ha hb hc hg hg2 na nb hp
theorem disi {n : String} {y : Str} (hi : X.mg "isinstance" = none) (ht : X.mg y = none) (ha : PE X a (A.t W)) (hv : bootBuiltins y = some (.type n) := by decide +kernel) (hg : Gl X "isinstance" := by rfl) (hg2 : Gl X y := by rfl)
    (hn : y ≠ "__name__" := by decide) (hd : (y == ("__debug__" : Str)) = false := by decide)
    (he : starEach [a, .Name y p2] X.env = (false, eval a X.env) :: starEach [.Name y p2] X.env := by rfl) (he2 : starEach [.Name y p2] X.env = (false, eval (.Name y p2) X.env) :: starEach [] X.env := by rfl) (hpl : (backTo pos (starEach [.Name y p2] X.env)).any (·.1) = false := by rfl) :
    PE X (.Call (.Name "isinstance" p3) [a, .Name y p2] [] pos) ((mIsi n A).t W) :=
  pe_callB call_isi hg hi (by decide +kernel) (pa_cons ha (pa_cons (pe_bltn (v := .ty n) hg2 ht hv rfl hn hd) pa_nil he2) he) (by decide) (by decide) he hpl
theorem dcnil : PA X [] ((mcNil (K := X.K)).t W) := pa_nil
theorem dcval {L : MC X.K} {h} (ha : PE X e (A.t W)) (hr : PA X es (L.t W)) (hs : starEach (e :: es) X.env = (false, eval e X.env) :: starEach es X.env := by rfl) : PA X (e :: es) ((mcVal A L h).t W) := pa_cons ha hr hs
theorem dccel {i : Nat} {L : MC X.K} (hr : PA X es (L.t W)) (hN : X.N[i]? = some x := by rfl) (hv : Vis X.env.scope x := by first | exact Or.inl rfl | exact Or.inr (Or.inl rfl) | exact Or.inr (Or.inr rfl)) (hd : (x == ("__debug__" : Str)) = false := by decide)
    (hcd : (x == ("__classdict__" : Str)) = false := by decide) (hs : starEach (.Name x p2 :: es) X.env = (false, eval (.Name x p2) X.env) :: starEach es X.env := by rfl) : PA X (.Name x p2 :: es) ((mcCel i L).t W) := pa_cons (pe_var hN hv hd hcd) hr hs
theorem dcall0 {k n : Nat} {mf : List Slot → Option CO} {L : MC X.K} {h} (c : Cal X.prog X.w X.K X.mg X.base CX0 k x n mf) (hr : Room k X.A) (ha : PA X (e :: es) (L.t W)) (hg : Gl X x := by rfl) (hdb : (x == ("__debug__" : Str)) = false := by decide)
    (he : starEach (e :: es) X.env = (false, eval e X.env) :: starEach es X.env := by rfl) (hpl : (backTo pos (starEach es X.env)).any (·.1) = false := by rfl) : PE X (.Call (.Name x p2) (e :: es) [] pos) ((mCall n mf L h).t W) := pcal0 c hr ha hg hdb he hpl
theorem dcallX {k n : Nat} {mf : List Slot → Option CO} {L : MC X.K} {h} (c : Cal X.prog X.w X.K X.mg X.base (L2.CX X.prog X.w) k x n mf) (hr : Room k X.A) (tk : Takes X W) (ha : PA X (e :: es) (L.t W)) (hg : Gl X x := by rfl) (hdb : (x == ("__debug__" : Str)) = false := by decide)
    (he : starEach (e :: es) X.env = (false, eval e X.env) :: starEach es X.env := by rfl) (hpl : (backTo pos (starEach es X.env)).any (·.1) = false := by rfl) : PE X (.Call (.Name x p2) (e :: es) [] pos) ((mCall n mf L h).t W) := pcalX c hr tk ha hg hdb he hpl
theorem dcallF0 {k n : Nat} {mf : List Slot → Option CO} {L : MC X.K} {h} (c : Cal X.prog X.w X.K X.mg X.base CX0 k x n mf) (hr : Room k X.A) (ha : PA X (e :: es) (L.t W)) (hg : Gl X x := by rfl) (hdb : (x == ("__debug__" : Str)) = false := by decide)
    (he : starEach (e :: es) X.env = (false, eval e X.env) :: starEach es X.env := by rfl) (hpl : (backTo pos (starEach es X.env)).any (·.1) = false := by rfl) : PE X (.Call (.Name x p2) (e :: es) [] pos) ((mCallF n mf L h).t W) := pcal0 c hr ha hg hdb he hpl
theorem dcallFX {k n : Nat} {mf : List Slot → Option CO} {L : MC X.K} {h} (c : Cal X.prog X.w X.K X.mg X.base (L2.CX X.prog X.w) k x n mf) (hr : Room k X.A) (tk : Takes X W) (ha : PA X (e :: es) (L.t W)) (hg : Gl X x := by rfl) (hdb : (x == ("__debug__" : Str)) = false := by decide)
    (he : starEach (e :: es) X.env = (false, eval e X.env) :: starEach es X.env := by rfl) (hpl : (backTo pos (starEach es X.env)).any (·.1) = false := by rfl) : PE X (.Call (.Name x p2) (e :: es) [] pos) ((mCallF n mf L h).t W) := pcalX c hr tk ha hg hdb he hpl
theorem dmeth {i : Nat} {name : Str} {id : String} {o : OpM X.K} {L : MA X.K} {h} {apos cpos : Pos} (slot : PySem.Slot "list" name id) (hty : typeOf (.builtin id) = pure (.type "method_descriptor")) (hm : MtR X id o.r) (ha : PA X (e :: es) (L.t W))
    (hN : X.N[i]? = some x := by rfl) (hv : Vis X.env.scope x := by first | exact Or.inl rfl | exact Or.inr (Or.inl rfl) | exact Or.inr (Or.inr rfl)) (hd : (x == ("__debug__" : Str)) = false := by decide) (hcd : (x == ("__classdict__" : Str)) = false := by decide)
    (hbase : attributeBase (.Name x p2) name X.env (eval (.Name x p2) X.env) = eval (.Name x p2) X.env := by rfl)
    (hfew : ((backTo cpos (starEach (e :: es) X.env)).all (fun x => !x.1) && (backToKw cpos (keywordEach [] X.env)).all (fun x => x.1.isSome)
      && decide ((e :: es).length + ([] : List Keyword).length + (if ([] : List Keyword).isEmpty then 0 else 1) < 30)) = true := by rfl)
    (hline : (apos.endLine == cpos.line) = true := by rfl) (hs : starEach (e :: es) X.env = (false, eval e X.env) :: starEach es X.env := by rfl) (hplain : (backTo cpos (starEach es X.env)).any (·.1) = false := by rfl) :
    PE X (.Call (.Attribute (.Name x p2) name apos) (e :: es) [] cpos) ((mMeth i o L h).t W) := pe_bm PySem.F.plainAttrs_list slot hty hm (pe_var hN hv hd hcd) ha hbase hfew hline hs hplain
theorem dmeth0 {i : Nat} {name : Str} {id : String} {o : OpM X.K} {apos cpos : Pos} (slot : PySem.Slot "list" name id) (hty : typeOf (.builtin id) = pure (.type "method_descriptor")) (hm : MtR X id o.r)
    (hN : X.N[i]? = some x := by rfl) (hv : Vis X.env.scope x := by first | exact Or.inl rfl | exact Or.inr (Or.inl rfl) | exact Or.inr (Or.inr rfl)) (hd : (x == ("__debug__" : Str)) = false := by decide) (hcd : (x == ("__classdict__" : Str)) = false := by decide)
    (hbase : attributeBase (.Name x p2) name X.env (eval (.Name x p2) X.env) = eval (.Name x p2) X.env := by rfl) (hline : (apos.endLine == cpos.line) = true := by rfl) :
    PE X (.Call (.Attribute (.Name x p2) name apos) [] [] cpos) ((mMeth0 i o).t W) := pe_bm0 PySem.F.plainAttrs_list slot hty hm (pe_var hN hv hd hcd) hbase hline
end
section
variable {X : Cx} {W : WX} {pos p2 p3 p4 : Pos} {e a b c : Expr} {es rest : List Expr} {A B C : ME X.K} {j : Nat} {x : Str} {S T : MT X.K}
/-! tests -/
theorem tval (ha : PE X a (A.t W)) (he : ∀ whole, isTrue a X.env whole = (do let v ← whole; standAt a.pos; holding [v] (truthy v)) := by intro _; rfl) : PT X a ((mTest A).t W) := pt_val ha he
theorem ttru (ha : PE X a (A.t W)) (he : ∀ whole, isTrue a X.env whole = (do let v ← whole; standAt a.pos; holding [v] (truthy v)) := by intro _; rfl) : PT X a ((mTru A).t W) := pt_truth ha he
theorem tnot (ha : PT X a (T.t W)) : PT X (.UnaryOp .Not a pos) ((mNot T).t W) := pt_not ha
theorem tpw (ha : PW X a (T.t W)) : PT X a (T.t W) := ha.pt
theorem wand (ha : PT X a (S.t W)) (hb : PW X (.BoolOp .And (b :: rest) pos) (T.t W)) : PW X (.BoolOp .And (a :: b :: rest) pos) ((mAnd S T).t W) := pw_and ha hb
theorem wor (ha : PT X a (S.t W)) (hb : PW X (.BoolOp .Or (b :: rest) pos) (T.t W)) : PW X (.BoolOp .Or (a :: b :: rest) pos) ((mOr S T).t W) := pw_or ha hb
theorem wand1 (ha : PT X a (S.t W)) : PW X (.BoolOp .And [a] pos) (S.t W) := pw_and1 ha
theorem wor1 (ha : PT X a (S.t W)) : PW X (.BoolOp .Or [a] pos) (S.t W) := pw_or1 ha
/-! targets, walks, comprehensions -/
variable {tg : Expr} {G : MG X.K} {Gs : MGs X.K} {I : MI X.K}
theorem gN {i : Nat} (hN : X.N.Nodup) (hi : X.N[i]? = some x := by rfl) (hx : Loc X.env.scope x := by first | exact Or.inl rfl | exact Or.inr rfl)
    (hf : X.fn x = true ∨ X.env.scope.names.lookup x = some .local := by first | exact .inl rfl | exact .inr rfl) : PG X (.Name x pos) ((mgName (K := X.K) i).t) := pg_name hN hi hx hf
theorem gnil : PGs X [] ((mgNil (K := X.K)).t) := pgs_nil
theorem gcons (h1 : PG X e G.t) (h2 : PGs X es Gs.t) (hs : (assignEach (e :: es) X.env).map (·.2) = assign e X.env :: (assignEach es X.env).map (·.2) := by rfl) : PGs X (e :: es) ((mgCons G Gs).t) := pgs_cons h1 h2 hs
theorem gtup {k n : Nat} (h : PGs X es Gs.t) (hc : X.calm = true := by rfl) (hn : (assignEach es X.env).length = n := by rfl) (hst : (assignEach es X.env).findIdx? (·.1) = none := by rfl) : PG X (.Tuple es k pos) ((mgTup n Gs).t) := pg_tup hc h hn hst
theorem ilist {h} (ha : PE X a (A.t W)) : PI X tg a ((miList A h).t W) := pi_list ha
theorem itup {h} (ha : PE X a (A.t W)) : PI X tg a ((miTup A h).t W) := pi_tup ha
theorem irng1 (hm : X.mg "range" = none) (ha : PE X a (A.t W)) (hg : Gl X "range" := by rfl) (hs : starEach [a] X.env = [(false, eval a X.env)] := by rfl) (hs' : starEach [a] X.env = (false, eval a X.env) :: starEach [] X.env := by rfl) : PI X tg (.Call (.Name "range" p2) [a] [] pos) ((miRng1 A).t W) := pi_range1 hg hm (pa_cons ha pa_nil hs') hs
theorem irng2 (hm : X.mg "range" = none) (ha : PE X a (A.t W)) (hb : PE X b (B.t W)) (hg : Gl X "range" := by rfl) (hs : starEach [a, b] X.env = [(false, eval a X.env), (false, eval b X.env)] := by rfl) (hs2 : starEach [b] X.env = [(false, eval b X.env)] := by rfl)
    (h1 : starEach [a, b] X.env = (false, eval a X.env) :: starEach [b] X.env := by rfl) (h2 : starEach [b] X.env = (false, eval b X.env) :: starEach [] X.env := by rfl) : PI X tg (.Call (.Name "range" p2) [a, b] [] pos) ((miRng2 A B).t W) := pi_range2 hg hm (pa_cons ha (pa_cons hb pa_nil h2) h1) hs hs2
theorem ienum {elts : List Expr} {kk : Nat} {tpos : Pos} {h} (hm : X.mg "enumerate" = none) (ha : PE X a (A.t W)) (hg : Gl X "enumerate" := by rfl) (hs : starEach [a] X.env = [(false, eval a X.env)] := by rfl) (hs' : starEach [a] X.env = (false, eval a X.env) :: starEach [] X.env := by rfl) :
    PI X (.Tuple elts kk tpos) (.Call (.Name "enumerate" p2) [a] [] pos) ((miEnum A h).t W) := pi_enum hg hm (pa_cons ha pa_nil hs') hs
theorem izip {elts : List Expr} {kk : Nat} {tpos : Pos} {h} (hm : X.mg "zip" = none) (ha : PE X a (A.t W)) (hb : PE X b (B.t W)) (hg : Gl X "zip" := by rfl)
    (hs : starEach [a, b] X.env = (false, eval a X.env) :: starEach [b] X.env := by rfl) (hpl : (backTo pos (starEach [b] X.env)).any (·.1) = false := by rfl) (h2 : starEach [b] X.env = (false, eval b X.env) :: starEach [] X.env := by rfl) :
    PI X (.Tuple elts kk tpos) (.Call (.Name "zip" p2) [a, b] [] pos) ((miZip A B h).t W) := pi_zip hg hm (pa_cons ha (pa_cons hb pa_nil h2) hs) hs hpl
theorem tsnil : PTs X [] ((mtYes (K := X.K)).t W) := pts_nil
theorem tsone (ha : PT X a (T.t W)) : PTs X [a] ((mtOne T).t W) := pts_one ha
theorem dlc {elt iter : Expr} {ifs : List Expr} {scope : Scope} {own : List (Str × Nat)} {Ts : MTs X.K} {vs : List Nat} {hg0 hk0} (hN : X.N.Nodup) (ok : blkC X.N X.env.scope scope own = true) (hvs : own.map (·.2) = vs) (hi : PI X tg iter (I.t W))
    (hg : ∀ (s : Shared) (H : Hp) (C : Addr) (cl : List (Str × Addr)) (fp : List Addr), PG (X.blk s H scope (compEnvC scope cl C X.env) fp) tg G.t) (ht : ∀ (s : Shared) (H : Hp) (C : Addr) (cl : List (Str × Addr)) (fp : List Addr), PTs (X.blk s H scope (compEnvC scope cl C X.env) fp) ifs (Ts.t WNo))
    (he : ∀ (s : Shared) (H : Hp) (C : Addr) (cl : List (Str × Addr)) (fp : List Addr), PE (X.blk s H scope (compEnvC scope cl C X.env) fp) elt (A.t WNo)) (hs : ∀ x, foldedSetIterable iter X.env x = pure x := by intro _; rfl) (hc : X.calm = true := by rfl) :
    PE X (.ListComp elt [⟨tg, iter, ifs, 0⟩] scope pos) ((mLc I G Ts A vs hg0 hk0).t W) := by
  subst hvs
  exact pe_lc hc hN hi (blkOk_by ok) hg ht he hs
end
section
variable {X : Cx} {W : WX} {pos p2 p3 p4 : Pos} {e a b c : Expr} {es rest : List Expr} {A B C : ME X.K} {j : Nat} {x : Str} {T : MT X.K} {st : Stmt} {sts b1 b2 : List Stmt} {S S' : MS X.K} {tg iter : Expr} {G : MG X.K} {I : MI X.K} {M : MF X.K}
/-! statements -/
theorem snil : PSs X [] ((msNil (K := X.K)).t W) := pss_nil
theorem scons (h1 : PS X st (S.t W)) (h2 : PSs X sts (S'.t W)) : PSs X (st :: sts) ((msSeq S S').t W) := show PSs X (st :: sts) (tSeq (S.t W) (S'.t W)) from pss_cons h1 h2
theorem sone (h1 : PS X st (S.t W)) : PSs X [st] (S.t W) := pss_one h1
theorem sif (hc : PT X c (T.t W)) (ha : PSs X b1 (S.t W)) (hb : PSs X b2 (S'.t W)) : PS X (.If c b1 b2 pos) ((msIf T S S').t W) := ps_if hc ha hb
theorem sasg {h} (he : PE X e (A.t W)) (hg : PG X tg G.t) (hs : swapsWithSole [tg] e pos.line X.env = pure false := by rfl) (hw : swappedStores [tg] e X.env = pure none := by rfl)
    (h1 : (assignEach [tg] X.env).map (·.2) = [assign tg X.env] := by rfl) : PS X (.Assign [tg] e pos) ((msAsg A G h).t W) := ps_asg he hg hs hw h1
theorem sasgN {i : Nat} {h} (hN : X.N.Nodup) (he : PE X e (A.t W)) (hi : X.N[i]? = some x := by rfl) (hx : Loc X.env.scope x := by first | exact Or.inl rfl | exact Or.inr rfl) (hs : swapsWith e (some (.Name x p2)) pos.line X.env = pure false := by rfl)
    (hf : X.fn x = true ∨ X.env.scope.names.lookup x = some .local := by first | exact .inl rfl | exact .inr rfl) : PS X (.Assign [.Name x p2] e pos) ((msAsg A (mgName i) h).t W) := ps_set hN hi hx he hs hf
theorem sasgF {i : Nat} (hN : X.N.Nodup) (he : PE X e (M.t W)) (hi : X.N[i]? = some x := by rfl) (hx : Loc X.env.scope x := by first | exact Or.inl rfl | exact Or.inr rfl) (hs : swapsWith e (some (.Name x p2)) pos.line X.env = pure false := by rfl)
    (hf : X.fn x = true ∨ X.env.scope.names.lookup x = some .local := by first | exact .inl rfl | exact .inr rfl) : PS X (.Assign [.Name x p2] e pos) ((msAsgF M i).t W) := ps_set hN hi hx he hs hf
theorem sdrop (he : PE X e (A.t W)) (hs : swapsWith e none pos.line X.env = pure false := by rfl) : PS X (.Expr e pos) ((msDrop A).t W) := ps_expr he hs
theorem sdoc {i : Str} : PS X (.Expr (.Constant (.str i) j p2) pos) ((msNil (K := X.K)).t W) := ps_doc
theorem sret {h} (he : PE X e (A.t W)) : PS X (.Return (some e) pos) ((msRet A h).t W) := ps_ret he
theorem sretF (he : PE X e (M.t W)) : PS X (.Return (some e) pos) ((msRetF M).t W) := ps_ret he
theorem sretC {i : Nat} (hN : X.N[i]? = some x := by rfl) (hv : Vis X.env.scope x := by first | exact Or.inl rfl | exact Or.inr (Or.inl rfl) | exact Or.inr (Or.inr rfl)) (hd : (x == ("__debug__" : Str)) = false := by decide)
    (hcd : (x == ("__classdict__" : Str)) = false := by decide) : PS X (.Return (some (.Name x p2)) pos) ((msRetC (K := X.K) i).t W) := ps_ret (pe_var hN hv hd hcd)
theorem sretN : PS X (.Return none pos) ((msRetN (K := X.K)).t W) := ps_retN
theorem sbrk : PS X (.Break pos) ((msBrk (K := X.K)).t W) := ps_break
theorem scnt : PS X (.Continue pos) ((msCont (K := X.K)).t W) := ps_continue
theorem ssetI {i : Nat} {I : ME X.K} {h} (he : PE X e (A.t W)) (hi : PE X b (I.t W)) (hN : X.N[i]? = some x := by rfl) (hv : Vis X.env.scope x := by first | exact Or.inl rfl | exact Or.inr (Or.inl rfl) | exact Or.inr (Or.inr rfl)) (hd : (x == ("__debug__" : Str)) = false := by decide)
    (hcd : (x == ("__classdict__" : Str)) = false := by decide)
    (hsub : ∀ v, assign (.Subscript (.Name x p2) b p3) X.env v = (do
      let ov ← holding [v] (eval (.Name x p2) X.env)
      let iv ← holding [v, ov] (eval b X.env)
      standAt p3
      holding [v, ov, iv] (setItem ov iv v)
      release [v, ov, iv] []) := by intro _; rfl)
    (hs : swapsWithSole [.Subscript (.Name x p2) b p3] e pos.line X.env = pure false := by rfl) (hw : swappedStores [.Subscript (.Name x p2) b p3] e X.env = pure none := by rfl)
    (h1 : (assignEach [.Subscript (.Name x p2) b p3] X.env).map (·.2) = [assign (.Subscript (.Name x p2) b p3) X.env] := by rfl) :
    PS X (.Assign [.Subscript (.Name x p2) b p3] e pos) ((msSet i I A h).t W) := ps_asg he (pg_sub (pe_var hN hv hd hcd) hi set_list hsub) hs hw h1
theorem saug {i : Nat} {op : Operator} {o : OpIp X.K} (hN : X.N.Nodup) (ho : PIp X op o.r) (he : PE X e (A.t W)) (hi : X.N[i]? = some x := by rfl) (hx : Loc X.env.scope x := by first | exact Or.inl rfl | exact Or.inr rfl) (hf : X.fn x = true ∨ X.env.scope.names.lookup x = some .local := by first | exact .inl rfl | exact .inr rfl) :
    PS X (.AugAssign (.Name x p2) op e pos) ((msAug i o A).t W) := ps_aug hN hi hx he ho hf
theorem sfor {body : List Stmt} {kl : List Nat} (hp : PassesOwn (model X.prog X.w) X.A X.env X.xe) (hi : PI X tg iter (I.t W)) (hg : PG X tg G.t) (hb : PSs X body (S.t W)) (hc : X.calm = true := by rfl) (hs : ∀ x, foldedSetIterable iter X.env x = pure x := by intro _; rfl) :
    PS X (.For tg iter body [] pos) ((msFor I G S kl).t W) := ps_for hp hc hi hg hb hs
theorem slc {i : Nat} {elt : Expr} {ifs : List Expr} {scope : Scope} {own : List (Str × Nat)} {Ts : MTs X.K} {vs : List Nat} {hg0 hk0 h} (hN : X.N.Nodup) (ok : blkC X.N X.env.scope scope own = true) (hvs : own.map (·.2) = vs) (hsw : swapsWith (.ListComp elt [⟨tg, iter, ifs, 0⟩] scope p3) (some (.Name x p2)) pos.line X.env = pure true) (hi : PI X tg iter (I.t W))
    (hg : ∀ (s : Shared) (H : Hp) (C : Addr) (cl : List (Str × Addr)) (fp : List Addr), PG (X.blk s H scope (compEnvC scope cl C X.env) fp) tg G.t) (ht : ∀ (s : Shared) (H : Hp) (C : Addr) (cl : List (Str × Addr)) (fp : List Addr), PTs (X.blk s H scope (compEnvC scope cl C X.env) fp) ifs (Ts.t WNo))
    (he : ∀ (s : Shared) (H : Hp) (C : Addr) (cl : List (Str × Addr)) (fp : List Addr), PE (X.blk s H scope (compEnvC scope cl C X.env) fp) elt (A.t WNo)) (hy : X.N[i]? = some x := by rfl) (hyl : X.env.scope.names.lookup x = some .local := by rfl) (hs : ∀ x, foldedSetIterable iter X.env x = pure x := by intro _; rfl) (hc : X.calm = true := by rfl) :
    PS X (.Assign [.Name x p2] (.ListComp elt [⟨tg, iter, ifs, 0⟩] scope p3) pos) ((msAsg (mFr (mLc I G Ts A vs hg0 hk0)) (mgName i) h).t W) := by
  subst hvs
  exact ps_setLc hc hN hy hyl hsw hi (blkOk_by ok) hg ht he hs
theorem slcF {i : Nat} {elt : Expr} {ifs : List Expr} {scope : Scope} {own : List (Str × Nat)} {Ts : MTs X.K} {vs : List Nat} {hg0 hk0} (hN : X.N.Nodup) (ok : blkC X.N X.env.scope scope own = true) (hvs : own.map (·.2) = vs) (hsw : swapsWith (.ListComp elt [⟨tg, iter, ifs, 0⟩] scope p3) (some (.Name x p2)) pos.line X.env = pure true) (hi : PI X tg iter (I.t W))
    (hg : ∀ (s : Shared) (H : Hp) (C : Addr) (cl : List (Str × Addr)) (fp : List Addr), PG (X.blk s H scope (compEnvC scope cl C X.env) fp) tg G.t) (ht : ∀ (s : Shared) (H : Hp) (C : Addr) (cl : List (Str × Addr)) (fp : List Addr), PTs (X.blk s H scope (compEnvC scope cl C X.env) fp) ifs (Ts.t WNo))
    (he : ∀ (s : Shared) (H : Hp) (C : Addr) (cl : List (Str × Addr)) (fp : List Addr), PE (X.blk s H scope (compEnvC scope cl C X.env) fp) elt (A.t WNo)) (hy : X.N[i]? = some x := by rfl) (hyl : X.env.scope.names.lookup x = some .local := by rfl) (hs : ∀ x, foldedSetIterable iter X.env x = pure x := by intro _; rfl) (hc : X.calm = true := by rfl) :
    PS X (.Assign [.Name x p2] (.ListComp elt [⟨tg, iter, ifs, 0⟩] scope p3) pos) ((msAsgF (mLc I G Ts A vs hg0 hk0) i).t W) := by
  subst hvs
  exact ps_setLc hc hN hy hyl hsw hi (blkOk_by ok) hg ht he hs
theorem sparVV {i k : Nat} {y : Str} {kt k2 : Nat} {pt pt2 px py : Pos} {h h'} (hN : X.N.Nodup) (ha : PE X a (A.t W)) (hb : PE X b (B.t W)) (hc : X.calm = true := by rfl) (hi : X.N[i]? = some x := by rfl) (hj : X.N[k]? = some y := by rfl) (hij : i ≠ k := by decide)
    (hx : X.env.scope.names.lookup x = some .local := by rfl) (hy : X.env.scope.names.lookup y = some .local := by rfl) (na : starEach [a, b] X.env = (false, eval a X.env) :: starEach [b] X.env := by rfl) (nb : starEach [b] X.env = (false, eval b X.env) :: starEach [] X.env := by rfl)
    (hw : swappedStores [.Tuple [.Name x px, .Name y py] kt pt] (.Tuple [a, b] k2 pt2) X.env = pure (some [x, y]) := by rfl)
    (hs : swapsWithSole [.Tuple [.Name x px, .Name y py] kt pt] (.Tuple [a, b] k2 pt2) pos.line X.env = pure false := by rfl) :
    PS X (.Assign [.Tuple [.Name x px, .Name y py] kt pt] (.Tuple [a, b] k2 pt2) pos) ((msParVV i k A B h h').t W) := ps_par hc hN hi hj hij hx hy (pa_cons ha (pa_cons hb pa_nil nb) na) hw hs
theorem sparFV {i k : Nat} {y : Str} {kt k2 : Nat} {pt pt2 px py : Pos} {h h'} (hN : X.N.Nodup) (ha : PE X a (M.t W)) (hb : PE X b (B.t W)) (hc : X.calm = true := by rfl) (hi : X.N[i]? = some x := by rfl) (hj : X.N[k]? = some y := by rfl) (hij : i ≠ k := by decide)
    (hx : X.env.scope.names.lookup x = some .local := by rfl) (hy : X.env.scope.names.lookup y = some .local := by rfl) (na : starEach [a, b] X.env = (false, eval a X.env) :: starEach [b] X.env := by rfl) (nb : starEach [b] X.env = (false, eval b X.env) :: starEach [] X.env := by rfl)
    (hw : swappedStores [.Tuple [.Name x px, .Name y py] kt pt] (.Tuple [a, b] k2 pt2) X.env = pure (some [x, y]) := by rfl)
    (hs : swapsWithSole [.Tuple [.Name x px, .Name y py] kt pt] (.Tuple [a, b] k2 pt2) pos.line X.env = pure false := by rfl) :
    PS X (.Assign [.Tuple [.Name x px, .Name y py] kt pt] (.Tuple [a, b] k2 pt2) pos) ((msParFV i k M B h h').t W) := ps_par hc hN hi hj hij hx hy (pa_cons ha (pa_cons hb pa_nil nb) na) hw hs
theorem sparVF {i k : Nat} {y : Str} {kt k2 : Nat} {pt pt2 px py : Pos} {h} (hN : X.N.Nodup) (ha : PE X a (A.t W)) (hb : PE X b (M.t W)) (hc : X.calm = true := by rfl) (hi : X.N[i]? = some x := by rfl) (hj : X.N[k]? = some y := by rfl) (hij : i ≠ k := by decide)
    (hx : X.env.scope.names.lookup x = some .local := by rfl) (hy : X.env.scope.names.lookup y = some .local := by rfl) (na : starEach [a, b] X.env = (false, eval a X.env) :: starEach [b] X.env := by rfl) (nb : starEach [b] X.env = (false, eval b X.env) :: starEach [] X.env := by rfl)
    (hw : swappedStores [.Tuple [.Name x px, .Name y py] kt pt] (.Tuple [a, b] k2 pt2) X.env = pure (some [x, y]) := by rfl)
    (hs : swapsWithSole [.Tuple [.Name x px, .Name y py] kt pt] (.Tuple [a, b] k2 pt2) pos.line X.env = pure false := by rfl) :
    PS X (.Assign [.Tuple [.Name x px, .Name y py] kt pt] (.Tuple [a, b] k2 pt2) pos) ((msParVF i k A M h).t W) := ps_par hc hN hi hj hij hx hy (pa_cons ha (pa_cons hb pa_nil nb) na) hw hs
end
/-! the rules of the operators, under the bundles' names -/
section
variable {X : Cx}
theorem rAdd : OpR X (binaryOp .Add) (oAdd (K := X.K)).r := op_or op_add op_add_str
theorem rSub : OpR X (binaryOp .Sub) (oSub (K := X.K)).r := op_sub
theorem rMul : OpR X (binaryOp .Mult) (oMul (K := X.K)).r := op_or op_mul op_mulX
theorem rMod : OpR X (binaryOp .Mod) (oMod (K := X.K)).r := op_modN
theorem rDiv : OpR X (binaryOp .FloorDiv) (oDiv (K := X.K)).r := op_or op_fdivN op_fdivW
theorem rPow : OpR X (binaryOp .Pow) (oPow (K := X.K)).r := op_pow
theorem rLt : OpR X (compareOp .Lt) (oLt (K := X.K)).r := op_lt
theorem rLe : OpR X (compareOp .LtE) (oLe (K := X.K)).r := op_le
theorem rGt : OpR X (compareOp .Gt) (oGt (K := X.K)).r := op_gt
theorem rGe : OpR X (compareOp .GtE) (oGe (K := X.K)).r := op_ge
theorem rEqI : OpR X (compareOp .Eq) (oEqI (K := X.K)).r := op_eq
theorem rNeI : OpR X (compareOp .NotEq) (oNeI (K := X.K)).r := op_ne
theorem rEqS : OpR X (compareOp .Eq) (oEqS (K := X.K)).r := op_eq
theorem rNeS : OpR X (compareOp .NotEq) (oNeS (K := X.K)).r := op_ne
theorem rEqX {k : Nat} (hr : Room k X.A) : OpR X (compareOp .Eq) (oEq (K := X.K)).r := op_eqD hr.units
theorem rNeX {k : Nat} (hr : Room k X.A) : OpR X (compareOp .NotEq) (oNe (K := X.K)).r := op_neD hr.units
theorem rIsN : OpR X (compareOp .Is) (oIsN (K := X.K)).r := op_isN
theorem rNotN : OpR X (compareOp .IsNot) (oNotN (K := X.K)).r := op_notN
theorem rInX : OpR X (compareOp .In) (oIn (K := X.K) false).r := op_in_seq
theorem rNotInX : OpR X (compareOp .NotIn) (oIn (K := X.K) true).r := op_notIn_seq
theorem rLen : CallR X (.builtin "len") (oLen (K := X.K)).r := call_len
theorem rAbs : CallR X (.builtin "abs") (oAbs (K := X.K)).r := call_abs
theorem rMax2 (hc : X.calm = true := by rfl) : CallR X (.builtin "max") (oMax2 (K := X.K)).r := call_max2 hc
theorem rMin2 (hc : X.calm = true := by rfl) : CallR X (.builtin "min") (oMin2 (K := X.K)).r := call_min2 hc
theorem rInt : CallR X (.type "int") (oInt (K := X.K)).r := call_int1
theorem rSumX (hc : X.calm = true := by rfl) : CallR X (.builtin "sum") (oSum (K := X.K)).r := cr_sum hc
theorem rAllX (hc : X.calm = true := by rfl) : CallR X (.builtin "all") (oAll (K := X.K)).r := cr_all hc
theorem rMaxX (hc : X.calm = true := by rfl) : CallR X (.builtin "max") (oMax (K := X.K)).r := cr_max hc
theorem rListL : CallR X (.type "list") (oList (K := X.K)).r := call_list_of
theorem rSortedX : CallR X (.builtin "sorted") (oSorted (K := X.K)).r := cr_sortedI
theorem rAppendX : MtR X "list.append" (oAppend (K := X.K)).r := mt_append
theorem rExtendX : MtR X "list.extend" (oExtend (K := X.K)).r := mt_extend
theorem rPopAtX : MtR X "list.pop" (oPopAt (K := X.K)).r := mt_popAt
theorem rPopX : MtR X "list.pop" (oPop (K := X.K)).r := mt_pop
theorem rReverseX : MtR X "list.reverse" (oReverse (K := X.K)).r := mt_reverse
theorem rClearX : MtR X "list.clear" (oClear (K := X.K)).r := mt_clear
theorem rIpAdd : PIp X .Add (ipAdd (K := X.K)).r := ip_add
theorem rIpSub : PIp X .Sub (ipSub (K := X.K)).r := ip_sub
end
end Sg

set_option Elab.async false
set_option linter.all false
set_option maxRecDepth 100000
set_option maxHeartbeats 4000000
namespace Sg
open PySem L2
variable {K : PySem.W.Frag}
/-- a call of what is known, all arguments at hand -/
theorem call_fin {n : Nat} {mf : List Slot → Option CO} {F : Fc} {W : WX} {ρ ρ1 : Env} {σ : St} {B H B1 H1 : Hp} {Q : VK} {out : EO} {is : List (U ⊕ Nat)} {vs : List V} (x1 : Ex B B1) (R1 : Rel K F ρ1 σ B1 H1) (r1 : ItemsOk K B1 σ is vs) (hn : is.length = n)
    (e' : callM mf (some (.ok is ρ1)) = some out) (f : Fin K F W false true ρ σ B H Q out) : spM K n mf vs H1 Q (WE W σ) := by
  unfold callM at e'
  split at e'
  · cases e'
  · rename_i h; cases h
  · rename_i is' ρ1' h
    cases h
    split at e'
    · cases e'
    · rename_i as ea
      obtain ⟨q1, q2, q3⟩ := resolve_ok R1 r1 ea
      split at e'
      · rename_i n1
        have q3 := q3 n1
        split at e'
        · cases e'
        · rename_i u c em
          obtain ⟨ρ', ep, rfl⟩ := Option.map_eq_some_iff.mp e'
          exact ⟨B1, as, _, R1.ex, q2.trans hn, q1, n1, em, fun v B' H' g cc r => f v B' H' (x1.trans g.bb) (fun z => nomatch z) (after_call R1 g q3 cc ep) r⟩
        · rename_i us c em
          obtain ⟨ρ', ep, rfl⟩ := Option.map_eq_some_iff.mp e'
          refine ⟨B1, as, _, R1.ex, q2.trans hn, q1, n1, em, fun q ws B' H' g cc h1 h2 h3 hq r => ?_⟩
          have R2 := after_call R1 g q3 cc ep
          have xb : Ex B' (upd B' q (.lst ws)) := Ex.new h2
          have nc : ∀ (j : Nat) s, ρ'[j]? = some s → s.isC = true → σ.getD j none ≠ some (.ref q) := fun j s es cs z => by
            have w := R2.sl j s es
            have hz : ∃ t, ρ1[j]? = some t ∧ t.isC = true := by
              unfold putJ at ep
              split at ep
              · cases ep; exact ⟨s, es, cs⟩
              · split at ep
                · rename_i own us0 hj
                  cases ep
                  rcases getElem_set es with ⟨rfl, rfl⟩ | ⟨ne, es⟩
                  · exact ⟨_, hj, rfl⟩
                  · exact ⟨s, es, cs⟩
                · cases ep
              · cases ep
            obtain ⟨t, ht, ct⟩ := hz
            exact R1.notC h3 j t ht ct z
          refine f (.ref q) (upd B' q (.lst ws)) H' ((x1.trans g.bb).trans xb) (fun z => nomatch z) ⟨R2.len, fun b o e => ?_, fun i s e => ?_, R2.ds, R2.bb.trans xb, R2.hh, R2.th, fun b o n e => ?_, fun b o e => ?_, R2.xs, R2.xd⟩ ⟨q, ws, rfl, upd_same, RepL.mono xb _ _ r⟩
          · by_cases c : b = q
            · subst c; rw [upd_same] at e; cases e; exact h1
            · rw [upd_ne c] at e; exact R2.ex b o e
          · have z := R2.sl i s e
            cases s with
            | non => trivial
            | val u => obtain ⟨v, e1, r⟩ := z; exact ⟨v, e1, Rep.mono xb _ _ r⟩
            | cel own us2 =>
              obtain ⟨p, ws2, e1, z1, z2, z3, z4⟩ := z
              have np : p ≠ q := fun c => nc i _ e rfl (by rw [e1, c])
              exact ⟨p, ws2, e1, z1, by rw [upd_ne np]; exact z2, RepL.mono xb _ _ z3, z4⟩
            | celD own us2 =>
              obtain ⟨p, ws2, e1, z1, z2, z3, z4⟩ := z
              have np : p ≠ q := fun c => nc i _ e rfl (by rw [e1, c])
              exact ⟨p, ws2, e1, z1, by rw [upd_ne np]; exact z2, RepD.mono xb _ _ z3, z4⟩
          · have h0 := R1.fresh0 h3
            have np : b ≠ q := fun c => by rw [c, h0] at e; cases e
            rw [upd_ne np]; exact R2.nw b o n e
          · obtain ⟨z1, z2, z3⟩ := R2.xx b o e
            have np : b ≠ q := fun c => by
              have := (R1.xx b o e).1
              rw [c, h3] at this; cases this
            exact ⟨z1, by rw [upd_ne np]; exact z2, z3⟩
        · rename_i x c em
          obtain ⟨ρ', ep, rfl⟩ := Option.map_eq_some_iff.mp e'
          exact ⟨B1, as, _, R1.ex, q2.trans hn, q1, n1, em, fun cls d B' H' g cc xr => f cls d B' H' (x1.trans g.bb) (after_call R1 g q3 cc ep) xr⟩
      · cases e'

theorem fnR_of {P : Program} {w : World} {mg : Str → Option Value} {base : Heap} {CX : CXT} {k : Nat} {f : Addr} {fd : FuncData} {ps : List Str} {sp : Sp} (F : FnOk P w K mg base CX k f fd ps sp) (hb : Binds K fd ps []) : FnR P w K mg base CX k f sp := by
  intro A outer s H us vs Q E hr e0 r h
  have hl : us.length = ps.length := by rw [← r.length]; exact F.len _ _ _ _ h
  have KX : K.In s.heap := e0.mod.kin.keeps fun b o e => (e0.bs b o e).1
  have b := hb s us KX (by rw [List.append_nil]; exact hl)
  rw [List.append_nil] at b
  exact F.run A outer s H ⟨us, []⟩ us vs Q E hr e0 b r h
theorem run_fnRS {X : Cx} {CX : CXT} {k : Nat} {f : Addr} {sp : Sp} {pins : List (Addr × Obj)} {σ : St} {H : Hp} {s : Shared} {E : St → XK} {Q : VK} {us : List Value} {vs : List V} (F : FnR X.prog X.w X.K X.mg X.base CX k f sp) (hr : Room k X.A) (hx : PassesAt CX X σ (E σ)) (I : Inv X pins σ H s) (r : Vals vs us) (h : sp vs H Q (E σ)) :
    codeAny (model X.prog X.w) X.A (.call (.ref f) ⟨us, []⟩) (fun r s' => match r with | .ok (.ret v) => EP X pins σ Q v s' | .ok _ => False | .error e => X.xe e s') s := by
  refine codeAny_mono (F X.A X.stack s H us vs Q (E σ) hr I.env0 r h) fun r s' hq => ?_
  cases r with
  | error e => exact hx pins H s e s' I hq
  | ok fl =>
    cases fl with
    | ret u => exact I.after hq
    | next => exact False.elim hq
    | brk => exact False.elim hq
    | cont => exact False.elim hq

/-! ### a method of an instance, by the instance's class -/
abbrev MTab := List (Str × (List Slot → Option CO))
def tMethD (K : PySem.W.Frag) (m : Str) (n : Nat) (tab : MTab) (E : St → XK) (ta : TE) (t : TA) : TE := fun σ H Q => ta σ H fun x H1 => ∃ a c dx fs mf, x = .ref a ∧ H1 a = some (.ins (He.ga K c) dx fs) ∧ fs.lookup m = none ∧ tab.lookup c = some mf ∧
  t σ H1 fun vs H2 => spM K n mf (x :: vs) H2 Q (E σ)
/-- method m of the class c -/
structure CalM (P : Program) (w : World) (K : PySem.W.Frag) (mg : Str → Option Value) (base : Heap) (CX : CXT) (k : Nat) (c m : Str) (n : Nat) (mf : List Slot → Option CO) : Prop where
  cls : Cls K (He.ga K c)
  ok : ∃ f, Meth K (He.ga K c) m f ∧ FnR P w K mg base CX k f (spM K n mf)
/-- every class of the table has it -/
def CalT (P : Program) (w : World) (K : PySem.W.Frag) (mg : Str → Option Value) (base : Heap) (k : Nat) (m : Str) (n : Nat) (tab : MTab) : Prop := ∀ c mf, tab.lookup c = some mf → CalM P w K mg base (L2.CX P w) k c m n mf
section
variable {X : Cx} {W : WX} {m x : Str} {n k : Nat} {tab : MTab} {ta : TE} {t : TA} {o e : Expr} {es : List Expr} {pos apos p : Pos} {pl : Sem Bool}
theorem pe_methD (he : PE X o ta) (c : CalT X.prog X.w X.K X.mg X.base k m n tab) (hr : Room k X.A) (tk : Takes X W) (ha : PA X (e :: es) t)
    (hst : starEach (e :: es) X.env = (false, eval e X.env) :: starEach es X.env) (hpl : (backTo pos (starEach es X.env)).any (·.1) = false)
    (ht : eval (.Call (.Attribute o m apos) (e :: es) [] pos) X.env = (do
      let ov ← eval o X.env
      standAt apos.atName
      let (f, first) ← holding [ov] (getMethod ov m pl)
      callWith pos f first (backTo pos (starEach (e :: es) X.env)) (backToKw pos (keywordEach [] X.env)))) :
    PE X (.Call (.Attribute o m apos) (e :: es) [] pos) (tMethD X.K m n tab (WE W) ta t) := by
  refine ⟨fun pins s σ H Q I h => ?_⟩
  refine PySem.W.methodCall_KW (pl := pl) (thn (he.run pins s σ H _ I h) fun u s1 ⟨x, H1, I1, rx, a, c', dx, fs, mf, ex, ea, l, hl, q⟩ => ?_) ht
  subst ex
  obtain rfl : u = Value.ref a := rx
  obtain ⟨cc, f, hm, F⟩ := c _ _ hl
  refine getmeth_ok I1 ea cc hm l ?_
  refine PySem.W.callWith_K (first := [.ref a]) (h₀ := X.base) I.ok.mod.kin hm.kp (thn (ha.run pos pins s1 σ H1 _ I1 q) fun us s2 ⟨vs, H2, I2, r, q2⟩ => ⟨I2.kIn, ?_⟩) hst hpl
  exact wpAny_call (run_fnRS (us := .ref a :: us) (vs := .ref a :: vs) F hr (passAt tk σ) I2 (.cons rfl r) q2)
theorem pe_methD0 (he : PE X o ta) (c : CalT X.prog X.w X.K X.mg X.base k m n tab) (hr : Room k X.A) (tk : Takes X W)
    (ht : eval (.Call (.Attribute o m apos) [] [] pos) X.env = (do
      let ov ← eval o X.env
      standAt apos.atName
      let (f, first) ← holding [ov] (getMethod ov m pl)
      callWith pos f first (backTo pos (starEach [] X.env)) (backToKw pos (keywordEach [] X.env)))) :
    PE X (.Call (.Attribute o m apos) [] [] pos) (tMethD X.K m n tab (WE W) ta tNil) := by
  refine ⟨fun pins s σ H Q I h => ?_⟩
  refine PySem.W.methodCall_KW (pl := pl) (thn (he.run pins s σ H _ I h) fun u s1 ⟨x, H1, I1, rx, a, c', dx, fs, mf, ex, ea, l, hl, q⟩ => ?_) ht
  subst ex
  obtain rfl : u = Value.ref a := rx
  obtain ⟨cc, f, hm, F⟩ := c _ _ hl
  refine getmeth_ok I1 ea cc hm l ?_
  exact PySem.W.callWith_K0 (first := [.ref a]) I1.kIn hm.kp (wpAny_call (run_fnRS (us := [.ref a]) (vs := [.ref a]) F hr (passAt tk σ) I1 (.cons rfl .nil) q))
end
theorem RepF.lookup {B : Hp} {m : Str} : ∀ {fs : List (Str × U)} {ws : List (Str × V)}, RepF K B fs ws → fs.lookup m = none → ws.lookup m = none
  | [], _, h, _ => by cases h; rfl
  | (k, u) :: us, _, h, e => by
    obtain ⟨v, r, rfl, _, h2⟩ := h
    rw [List.lookup_cons] at e ⊢
    cases c : m == k with
    | true => rw [c] at e; cases e
    | false => rw [c] at e; exact RepF.lookup h2 e
/-- o.m(..) -/
def mMethD (m : Str) (n : Nat) (tab : MTab) (a : ME K) (b : MC K) (ha : a.k = true := by exact id rfl) (hk : b.k = true := by exact id rfl) : ME K where
  t := fun W => tMethD K m n tab (WE W) (a.t W) (b.t W)
  m := fun ρ => bindE (a.m ρ) fun u ρ1 => match u with
    | .ins c fs => match fs.lookup m, tab.lookup c with
      | none, some mf => (b.m ρ1).bind fun o => match o with
        | .ok is ρ2 => if is.length + 1 = n then callM mf (some (.ok (.inl (.ins c fs) :: is) ρ2)) else none
        | .ex e ρ2 => some (.ex e ρ2)
      | _, _ => none
    | _ => none
  p := false
  k := true
  ok := fun F W ρ σ B H Q out e R f => by
    rcases bindE_some e with ⟨u, ρ1, e1, e⟩ | ⟨x, ρ1, e1, rfl⟩
    · refine a.ok F W ρ σ B H _ _ e1 R fun v1 B1 H1 x1 p1 R1 r1 => ?_
      rw [ha, if_pos rfl] at r1
      cases u with
      | ins c fs =>
        dsimp only at e
        split at e
        · rename_i mf h1 h2
          obtain ⟨ad, dx, ws, rfl, hb, hf⟩ := r1
          refine ⟨ad, c, dx, ws, mf, rfl, R1.ex _ _ hb, RepF.lookup hf h1, h2, ?_⟩
          obtain ⟨o, e2, e⟩ := Option.bind_eq_some_iff.mp e
          cases o with
          | ex x ρ2 => cases e; exact b.ok F W ρ1 σ B1 H1 _ _ e2 R1 fun cls d B2 H2 x2 R2 xr => f cls d B2 H2 (x1.trans x2) R2 xr
          | ok is ρ2 =>
            refine b.ok F W ρ1 σ B1 H1 _ _ e2 R1 fun vs B2 H2 x2 p2 R2 r2 => ?_
            rw [hk, if_pos rfl] at r2
            dsimp only at e
            split at e
            · rename_i hn
              exact call_fin (H := H) (ρ := ρ) (is := .inl (.ins c fs) :: is) (x1.trans x2) R2 ⟨_, vs, rfl, ⟨ad, dx, ws, rfl, x2 _ _ hb, RepF.mono x2 _ _ hf⟩, r2⟩ hn e f
            · cases e
        · cases e
      | _ => cases e
    · exact a.ok F W ρ σ B H _ _ e1 R fun cls d B1 H1 x1 R1 xr => f cls d B1 H1 x1 R1 xr

/-! ### C() of a class without __init__ -/
structure Mk0 (K : PySem.W.Frag) (C : Addr) : Prop where
  makes : PySem.W.makesIn K C = true
  init : PySem.W.findIn K (.ref C) "__init__" = some (some (.builtin "object.__init__"))
  kp : PySem.W.keepIn K (.ref C) = true
def tNewP (K : PySem.W.Frag) (c : Str) : TE := fun _ H Q => ∀ x dx, H x = none → H dx = none → dx ≠ x → Q (.ref x) (upd (upd H dx (.own x)) x (.ins (He.ga K c) dx []))
section
variable {X : Cx} {x c : Str} {p pos : Pos}
theorem run_newP {C : Addr} {pins : List (Addr × Obj)} {σ : St} {H : Hp} {s : Shared} {Q : VK} (M : Mk0 X.K C) (I : Inv X pins σ H s)
    (h : ∀ x dx, H x = none → H dx = none → dx ≠ x → Q (.ref x) (upd (upd H dx (.own x)) x (.ins C dx []))) : wpAny (model X.prog X.w) X.A (call (.ref C) []) (EP X pins σ Q) X.xe s := by
  have hq := h (s.heap.objs.size + 1) s.heap.objs.size (I.hok.fresh (Nat.le_succ _)) (I.hok.fresh (Nat.le_refl _)) (Nat.ne_of_lt (Nat.lt_succ_self _))
  have I2 := Inv.made (C := C) I
  refine wpAny_call (make_map0 I.kIn M.makes M.init (fun self => PySem.W.Looks.of_pure (PySem.W.oi_bind self)) ?_)
  have Y := PySem.W.makes_of (M := model X.prog X.w) I.kIn M.makes
  obtain ⟨hh, g, d, t, os⟩ := s
  have t1 : PySem.W.Looks (model X.prog X.w) ((hh.push PySem.W.emptyDict).push (PySem.W.instObj C hh.objs.size)) (typeOf (.ref (hh.objs.size + 1))) (.ref C) := by
    have e : ((hh.push PySem.W.emptyDict).push (PySem.W.instObj C hh.objs.size)).get? (hh.objs.size + 1) = some (PySem.W.instObj C hh.objs.size) := Heap.get?_push_at (Heap.size_push _ _).symm rfl
    exact (PySem.W.Looks.ld e).andThen .now
  have t2 : PySem.W.Looks (model X.prog X.w) ((hh.push PySem.W.emptyDict).push (PySem.W.instObj C hh.objs.size)) (isInstance (.ref (hh.objs.size + 1)) (.type "object")) true := t1.andThen (Y.top.keeps fun b o e => Heap.get?_push_of_some _ (Heap.get?_push_of_some _ e))
  refine codeAny_call_builtin PySem.W.oi_plain PySem.W.entry_oi (@PySem.W.check_slot (model X.prog X.w) _ _ _ "object.__init__" "object" "__init__" (.ref (hh.objs.size + 1)) [] [] _ PySem.W.oi_kind PySem.W.oi_split t2 (PySem.W.oi_args (.ref (hh.objs.size + 1))) ?_)
  rw [PySem.W.oi_run]
  exact wpAny_pure ⟨rfl, V.ref (hh.objs.size + 1), _, I2, rfl, hq⟩
theorem pe_newP (M : Mk0 X.K (He.ga X.K c)) (hg : Gl X x) (hm : X.mg x = some (.ref (He.ga X.K c))) (hdb : (x == ("__debug__" : Str)) = false) : PE X (.Call (.Name x p) [] [] pos) (tNewP X.K c) := by
  refine ⟨fun pins s σ H Q I h => ?_⟩
  refine wpAny_Call_Name_kw (ld_glob I hg hm ?_ hdb)
  exact PySem.W.callWith_K0 I.kIn M.kp (run_newP M I h)
end
def mNew (c : Str) : ME K where
  t := fun _ => tNewP K c
  m := fun ρ => some (.ok (.ins c []) ρ)
  p := true
  k := true
  ok := fun F W ρ σ B H Q out e R f => by
    cases e
    intro x dx hx hd ne
    have g1 := Go.newB (o := .own x) R.ex hd
    have R1 := R.grow g1
    have hx' : upd H dx (.own x) x = none := by rw [upd_ne (Ne.symm ne)]; exact hx
    have g2 := Go.newB (o := .ins (He.ga K c) dx []) R1.ex hx'
    exact f (.ref x) _ _ (g1.bb.trans g2.bb) (fun _ => ⟨g1.ex.trans g2.ex, rfl⟩) (R1.grow g2) ⟨x, dx, [], rfl, upd_same, rfl⟩

/-! ### C.m(..), m a classmethod of the class C; a constant of the class in a slot -/
structure CalC (P : Program) (w : World) (K : PySem.W.Frag) (mg : Str → Option Value) (base : Heap) (k : Nat) (c m : Str) (n : Nat) (mf : List Slot → Option CO) : Prop where
  mg_ : mg c = some (.ref (He.ga K c))
  kp : PySem.W.keepIn K (.ref (He.ga K c)) = true
  ok : ∃ mc p g, ClX.CRead K (He.ga K c) mc ∧ ClX.CMet K (He.ga K c) mc m p g ∧ FnR P w K mg base (L2.CX P w) k g (spM K n mf)
def tCMethW (C : Addr) (sp : Sp) (E : St → XK) (t : TA) : TE := fun σ H Q => t σ H fun vs H2 => sp (.ref C :: vs) H2 Q (E σ)
section
variable {X : Cx} {W : WX} {m x c : Str} {n k : Nat} {mf : List Slot → Option CO} {t : TA} {o e : Expr} {es : List Expr} {pos apos p : Pos} {pl : Sem Bool}
theorem run_cmS {C q g : Addr} {sp : Sp} {pins : List (Addr × Obj)} {σ : St} {H : Hp} {s : Shared} {Q : VK} {us : List Value} {vs : List V} (F : FnR X.prog X.w X.K X.mg X.base (L2.CX X.prog X.w) k g sp) (hr : Room k X.A) (tk : Takes X W) (I : Inv X ((q, PySem.W.methodObj (.ref g) (.ref C)) :: pins) σ H s)
    (r : Vals vs us) (h : sp (.ref C :: vs) H Q (WE W σ)) : wpAny (model X.prog X.w) X.A (call (.ref q) us) (EP X pins σ Q) X.xe s := by
  have z : wpAny (model X.prog X.w) X.A (call (.ref q) us) (EP X ((q, PySem.W.methodObj (.ref g) (.ref C)) :: pins) σ Q) X.xe s :=
    wpAny_call (PySem.W.method_call (ClX.pin_at I) (run_fnRS (us := .ref C :: us) (vs := .ref C :: vs) F hr (passAt tk σ) I (.cons rfl r) h))
  exact thn z fun _ _ y => ClX.unpinE y
theorem pe_cmethW (cal : CalC X.prog X.w X.K X.mg X.base k c m n mf) (hr : Room k X.A) (tk : Takes X W) (ha : PA X (e :: es) t) (hg : Gl X c) (hdb : (c == ("__debug__" : Str)) = false)
    (hst : starEach (e :: es) X.env = (false, eval e X.env) :: starEach es X.env) (hpl : (backTo pos (starEach es X.env)).any (·.1) = false)
    (ht : eval (.Call (.Attribute (.Name c p) m apos) (e :: es) [] pos) X.env = (do
      let ov ← eval (.Name c p) X.env
      standAt apos.atName
      let (f, first) ← holding [ov] (getMethod ov m pl)
      callWith pos f first (backTo pos (starEach (e :: es) X.env)) (backToKw pos (keywordEach [] X.env)))) :
    PE X (.Call (.Attribute (.Name c p) m apos) (e :: es) [] pos) (tCMethW (He.ga X.K c) (spM X.K n mf) (WE W) t) := by
  obtain ⟨mc, pp, g, r, cm, F⟩ := cal.ok
  refine ⟨fun pins s σ H Q I h => ?_⟩
  refine PySem.W.methodCall_KW (pl := pl) (ld_glob I hg cal.mg_ ?_ hdb) ht
  refine ClX.getmethcm_ok I r cm fun s2 I2 => ?_
  refine ClX.callwith_cm I2 (ClX.base_none I (Nat.le_refl _)) cm.fi (thn (ha.run pos _ s2 σ H _ I2 h) fun us s3 ⟨vs, H2, I3, rv, q2⟩ => ⟨⟨ClX.pin_at I3, I3.kIn⟩, ?_⟩) hst hpl
  exact run_cmS F hr tk I3 rv q2
end
def mCMeth (c : Str) (n : Nat) (mf : List Slot → Option CO) (b : MC K) (hk : b.k = true := by exact id rfl) : ME K where
  t := fun W => tCMethW (He.ga K c) (spM K n mf) (WE W) (b.t W)
  m := fun ρ => (b.m ρ).bind fun o => match o with
    | .ok is ρ2 => if is.length + 1 = n then callM mf (some (.ok (.inl (.ref (He.ga K c)) :: is) ρ2)) else none
    | .ex e ρ2 => some (.ex e ρ2)
  p := false
  k := true
  ok := fun F W ρ σ B H Q out e R f => by
    obtain ⟨o, e2, e⟩ := Option.bind_eq_some_iff.mp e
    cases o with
    | ex x ρ2 => cases e; exact b.ok F W ρ σ B H _ _ e2 R fun cls d B2 H2 x2 R2 xr => f cls d B2 H2 x2 R2 xr
    | ok is ρ2 =>
      refine b.ok F W ρ σ B H _ _ e2 R fun vs B2 H2 x2 p2 R2 r2 => ?_
      rw [hk, if_pos rfl] at r2
      dsimp only at e
      split at e
      · rename_i hn
        exact call_fin (H := H) (ρ := ρ) (is := .inl (.ref (He.ga K c)) :: is) x2 R2 ⟨_, vs, rfl, rfl, r2⟩ hn e f
      · cases e
/-- x.f, x the class at C, f a constant u of it -/
structure ConC (K : PySem.W.Frag) (c f : Str) (u : U) : Prop where
  ok : ∃ mc v w, ClX.CRead K (He.ga K c) mc ∧ ClX.CVal K (He.ga K c) mc f v w ∧ ∀ B, Rep K B u v
def tCon (K : PySem.W.Frag) (c : Str) (u : U) (ta : TE) : TE := fun σ H Q => ta σ H fun x H1 => x = .ref (He.ga K c) ∧ ∀ v, (∀ B, Rep K B u v) → Q v H1
theorem pe_conC {X : Cx} {c f : Str} {u : U} {e : Expr} {ta : TE} {pos : Pos} (k : ConC X.K c f u) (he : PE X e ta) (hb : attributeBase e f X.env (eval e X.env) = eval e X.env) : PE X (.Attribute e f pos) (tCon X.K c u ta) := by
  obtain ⟨mc, v, w, r, cv, hr⟩ := k.ok
  refine ⟨fun pins s σ H Q I h => ?_⟩
  refine attr_of hb (thn (he.run pins s σ H _ I h) fun uu s1 ⟨x, H1, I1, rx, ex, q⟩ => ?_)
  subst ex
  obtain rfl : uu = Value.ref (He.ga X.K c) := rx
  exact ClX.getcval_ok I1 r cv fun s2 I2 => ⟨v, H1, I2, cv.rel, q v hr⟩
def mConC (c : Str) (u : U) (a : ME K) : ME K where
  t := fun W => tCon K c u (a.t W)
  m := fun ρ => bindE (a.m ρ) fun x ρ1 => match x with
    | .ref p => if p = He.ga K c then some (.ok u ρ1) else none
    | _ => none
  p := a.p
  k := true
  ok := fun F W ρ σ B H Q out e R f => by
    rcases bindE_some e with ⟨x, ρ1, e1, e⟩ | ⟨x, ρ1, e1, rfl⟩
    · refine a.ok F W ρ σ B H _ _ e1 R fun v1 B1 H1 x1 p1 R1 r1 => ?_
      cases x with
      | ref p =>
        dsimp only at e
        split at e
        · rename_i hp
          cases e
          subst hp
          have r2 : Rep K H1 (.ref (He.ga K c)) v1 := rep_up R1 r1
          exact ⟨r2, fun v hv => f v B1 H1 x1 p1 R1 (hv _)⟩
        · cases e
      | _ => cases e
    · exact a.ok F W ρ σ B H _ _ e1 R fun cls d B1 H1 x1 R1 xr => f cls d B1 H1 x1 R1 xr
end Sg

set_option Elab.async false
set_option linter.all false
set_option maxRecDepth 100000
set_option maxHeartbeats 4000000
namespace Sg
open PySem L2
variable {K : PySem.W.Frag}
/-! ### try .. except C: without a name -/
abbrev XTab := List (Str × Bool)
def wTab (K : PySem.W.Frag) (tab : XTab) (S2 : TS) (W : WX) (D : Ends) : WX := fun cls d σ H => ∃ cx b, cls = .ref (He.ga K cx) ∧ tab.lookup cx = some b ∧ (b = true → S2 D σ H) ∧ (b = false → W cls d σ H)
def msTry (tab : XTab) (S S2 : MS K) : MS K where
  t := fun W D σ H => S.t (wTab K tab (S2.t WNo) W D) D σ H
  m := fun ρ => match S.m ρ with
    | some (.ex e ρ') => match tab.lookup e.c with
      | some true => match S2.m ρ' with
        | some (.ex _ _) => none
        | o => o
      | some false => some (.ex e ρ')
      | none => none
    | o => o
  ok := fun F W ρ σ B H D o q R f => by
    split at q
    · rename_i e ρ' es
      refine S.ok F _ ρ σ B H D _ es R fun cls d σ' B' H' x' R' xr => ?_
      split at q
      · rename_i ht
        refine ⟨e.c, true, xr.1, ht, fun _ => ?_, fun z => absurd z (by decide)⟩
        split at q
        · cases q
        · rename_i o' hne
          refine S2.ok F WNo ρ' σ' B' H' D _ q R' ?_
          have f' := f.mono x'
          cases o with
          | ex e1 ρ1 => exact absurd q (hne _ _)
          | nx ρ1 => exact f'
          | bk ρ1 => exact f'
          | ct ρ1 => exact f'
          | rt r ρ1 => exact f'
      · rename_i ht
        cases q
        exact ⟨e.c, false, xr.1, ht, fun z => absurd z (by decide), fun _ => f cls d σ' B' H' x' R' xr⟩
      · cases q
    · rename_i o' hne
      refine S.ok F _ ρ σ B H D _ q R ?_
      cases o with
      | ex e1 ρ1 => exact absurd q (hne _ _)
      | nx ρ1 => exact f
      | bk ρ1 => exact f
      | ct ρ1 => exact f
      | rt r ρ1 => exact f
section
variable {X : Cx} {W : WX} {c : Str} {tab : XTab} {S S2 : MS X.K} {body suite : List Stmt} {b₀ : Stmt} {np pos pos' : Pos}
theorem stry (ht : ∀ cx b, tab.lookup cx = some b → PySem.W.exmOne X.K (.ref (He.ga X.K cx)) (.ref (He.ga X.K c)) = some b) (hm : X.mg c = some (.ref (He.ga X.K c))) (tk : Takes X W)
    (hb : ∀ (W' : WX) (pn : List (Addr × Obj)) (xe : Value → Shared → Prop), Takes (X.tr pn xe) W' → PassesOwn (model X.prog X.w) X.A X.env xe → PSs (X.tr pn xe) body (S.t W'))
    (hsu : ∀ (a : Addr) (oe : Obj) (cls : Value) (d : Option Addr) (pn : List (Addr × Obj)), PSs (X.suite a ((a, oe) :: pn)) (b₀ :: suite) (S2.t WNo))
    (hs : X.stack = X.env :: X.outer := by rfl) (hf : X.env.frame = some X.env.locals := by rfl) (hg : Gl X c := by rfl) (hdb : (c == ("__debug__" : Str)) = false := by decide) :
    PS X (.Try body [.ExceptHandler (some (.Name c np)) none (b₀ :: suite) pos'] [] [] pos) ((msTry tab S S2).t W) := by
  have P := ps_try_only (X := X) (x := c) (c := .ref (He.ga X.K c)) (np := np) (pos := pos) (pos' := pos') (body := body) (suite := suite) (b₀ := b₀) (Wout := W)
    (tb := fun W' D σ H => (∀ cls d σ H, wTab X.K tab (S2.t WNo) W D cls d σ H → W' cls d σ H) ∧ S.t (wTab X.K tab (S2.t WNo) W D) D σ H) (ts := fun _ _ _ => S2.t WNo) hs hf ⟨hg, hdb, .inl hm⟩ tk
    (fun W' pn xe tk' po => ⟨fun pins s σ H D I h => (hb (wTab X.K tab (S2.t WNo) W D) pn xe (tk'.imp h.1) po).run pins s σ H D I h.2⟩) (fun a oe cls d pn _ _ => hsu a oe cls d pn)
  refine ⟨fun pins s σ H D I h => P.run pins s σ H D I ⟨fun cls d σ H ⟨cx, b, e, hl, h1, h2⟩ => ⟨b, by rw [e]; exact ht cx b hl, fun hb a _ => h1 hb, h2⟩, h⟩⟩
end
/-! ### derivations -/
section
variable {X : Cx} {W : WX} {m x c : Str} {n k : Nat} {tab : MTab} {mf : List Slot → Option CO} {A : ME X.K} {L : MC X.K} {o e : Expr} {es : List Expr} {pos apos p : Pos} {pl : Sem Bool}
theorem dM {h1 h2} (he : PE X o (A.t W)) (c : CalT X.prog X.w X.K X.mg X.base k m n tab) (hr : Room k X.A) (tk : Takes X W) (ha : PA X (e :: es) (L.t W))
    (hst : starEach (e :: es) X.env = (false, eval e X.env) :: starEach es X.env := by rfl) (hpl : (backTo pos (starEach es X.env)).any (·.1) = false := by rfl)
    (ht : eval (.Call (.Attribute o m apos) (e :: es) [] pos) X.env = (do
      let ov ← eval o X.env
      standAt apos.atName
      let (f, first) ← holding [ov] (getMethod ov m pl)
      callWith pos f first (backTo pos (starEach (e :: es) X.env)) (backToKw pos (keywordEach [] X.env))) := by rfl) :
    PE X (.Call (.Attribute o m apos) (e :: es) [] pos) ((mMethD m n tab A L h1 h2).t W) := pe_methD he c hr tk ha hst hpl ht
theorem dM0 {h1 h2} (he : PE X o (A.t W)) (c : CalT X.prog X.w X.K X.mg X.base k m n tab) (hr : Room k X.A) (tk : Takes X W)
    (ht : eval (.Call (.Attribute o m apos) [] [] pos) X.env = (do
      let ov ← eval o X.env
      standAt apos.atName
      let (f, first) ← holding [ov] (getMethod ov m pl)
      callWith pos f first (backTo pos (starEach [] X.env)) (backToKw pos (keywordEach [] X.env))) := by rfl) :
    PE X (.Call (.Attribute o m apos) [] [] pos) ((mMethD m n tab A mcNil h1 h2).t W) := pe_methD0 he c hr tk ht
theorem dnew (M : Mk0 X.K (He.ga X.K c)) (hm : X.mg c = some (.ref (He.ga X.K c))) (hg : Gl X c := by rfl) (hdb : (c == ("__debug__" : Str)) = false := by decide) : PE X (.Call (.Name c p) [] [] pos) ((mNew (K := X.K) c).t W) := pe_newP M hg hm hdb
theorem dCM {h} (cal : CalC X.prog X.w X.K X.mg X.base k c m n mf) (hr : Room k X.A) (tk : Takes X W) (ha : PA X (e :: es) (L.t W)) (hg : Gl X c := by rfl) (hdb : (c == ("__debug__" : Str)) = false := by decide)
    (hst : starEach (e :: es) X.env = (false, eval e X.env) :: starEach es X.env := by rfl) (hpl : (backTo pos (starEach es X.env)).any (·.1) = false := by rfl)
    (ht : eval (.Call (.Attribute (.Name c p) m apos) (e :: es) [] pos) X.env = (do
      let ov ← eval (.Name c p) X.env
      standAt apos.atName
      let (f, first) ← holding [ov] (getMethod ov m pl)
      callWith pos f first (backTo pos (starEach (e :: es) X.env)) (backToKw pos (keywordEach [] X.env))) := by rfl) :
    PE X (.Call (.Attribute (.Name c p) m apos) (e :: es) [] pos) ((mCMeth c n mf L h).t W) := pe_cmethW cal hr tk ha hg hdb hst hpl ht
theorem dcon {u : U} (k : ConC X.K c m u) (he : PE X e (A.t W)) (hb : attributeBase e m X.env (eval e X.env) = eval e X.env := by rfl) : PE X (.Attribute e m pos) ((mConC c u A).t W) := pe_conC k he hb
/-- an own exception class over ValueError without __init__ -/
structure XF (K : PySem.W.Frag) (mg : Str → Option Value) (c : Str) : Prop where
  mg_ : mg c = some (.ref (He.ga K c))
  ok : PySem.W.excIn K (He.ga K c) He.veBase "ValueError.__new__" = true ∧ PySem.W.keepIn K (.ref (He.ga K c)) = true ∧ PySem.W.subIn K (.ref (He.ga K c)) (.type "BaseException") = some true ∧ PySem.W.typeIn K (.ref (He.ga K c)) = some (.type "type")
theorem srs {t : Str} {j : Nat} {p2 : Pos} (f : XF X.K X.mg c) (tk : Takes X W) (hc : X.calm = true := by rfl) (hg : Gl X c := by rfl) (hdb : (c == ("__debug__" : Str)) = false := by decide) :
    PS X (.Raise (some (.Call (.Name c p) [.Constant (.str t) j p2] [] pos)) none apos) ((msRaise (K := X.K) c).t W) :=
  ps_raise hc tk (pmk_own PySem.F.excBase_ValueError f.ok.1 f.mg_ f.ok.2.1 (raises_own f.ok.2.2.1 f.ok.2.2.2) hg hdb)
end
end Sg

set_option Elab.async false
set_option linter.all false
set_option maxRecDepth 100000
set_option maxHeartbeats 4000000
namespace Sg
open PySem L2
/-! ### statements run by a known code: super() -/
abbrev AtC {α : Type} := @_root_.PySem.wpAt α
def PEc (X : Cx) (c : Code) (e : Expr) (t : TE) : Prop := ∀ (pins : List (Addr × Obj)) (s : Shared) (σ : St) (H : Hp) (Q : VK), Inv X pins σ H s → t σ H Q → AtC (model X.prog X.w) X.A c (eval e X.env) (EP X pins σ Q) X.xe s
def PSc (X : Cx) (c : Code) (st : Stmt) (t : TS) : Prop := ∀ (pins : List (Addr × Obj)) (s : Shared) (σ : St) (H : Hp) (D : Ends), Inv X pins σ H s → t D σ H → AtC (model X.prog X.w) X.A c (exec st X.env) (SP X pins D) X.xe s
def PSsc (X : Cx) (c : Code) (sts : List Stmt) (t : TS) : Prop := ∀ (pins : List (Addr × Obj)) (s : Shared) (σ : St) (H : Hp) (D : Ends), Inv X pins σ H s → t D σ H → AtC (model X.prog X.w) X.A c (execs sts X.env) (SP X pins D) X.xe s
section
variable {X : Cx} {c : Code} {st : Stmt} {sts : List Stmt} {t t1 t2 : TS}
theorem psc_of (h : PS X st t) : PSc X c st t := fun pins s σ H D I q => _root_.PySem.wpAt_of_wpAny (h.run pins s σ H D I q)
theorem pssc_of (h : PSs X sts t) : PSsc X c sts t := fun pins s σ H D I q => _root_.PySem.wpAt_of_wpAny (h.run pins s σ H D I q)
theorem pssc_cons (h1 : PSc X c st t1) (h2 : PSsc X c sts t2) : PSsc X c (st :: sts) (tSeq t1 t2) := fun pins s σ H D I q => by
  refine ks_wpAt_execs_cons (_root_.PySem.wpAt_mono (h1 pins s σ H _ I q) (fun f s1 h => ?_) fun _ _ x => x)
  cases f with
  | next =>
    obtain ⟨σ1, H1, I1, q1⟩ := h
    exact h2 pins s1 σ1 H1 D I1 q1
  | brk => exact h
  | cont => exact h
  | ret v => exact h
/-- name = e -/
theorem psc_set {i : Nat} {x : Str} {e : Expr} {te : TE} {p2 pos : Pos} (hN : X.N.Nodup) (he : PEc X c e te) (hi : X.N[i]? = some x) (hx : Loc X.env.scope x) (hs : swapsWith e (some (.Name x p2)) pos.line X.env = pure false) (hf : X.fn x = true ∨ X.env.scope.names.lookup x = some .local) :
    PSc X c (.Assign [.Name x p2] e pos) (tAsg te (gName i)) := fun pins s σ H D I q =>
  ks_wpAt_Assign_Name (_root_.PySem.wpAt_mono (he pins s σ H _ I q) (fun v s1 ⟨y, H1, I1, r1, q1⟩ => store_ok I1 hN hi hx r1 (fun s2 I2 => ⟨_, H1, I2, q1⟩) hf) fun _ _ x => x) hs
end

section
variable {X : Cx} {c : Code} {e : Expr} {te : TE}
/-- e[::-1] -/
theorem pec_rev {k : Nat} {p1 p2 p3 pos : Pos} (he : PEc X c e te) : PEc X c (.Subscript e (.Slice none none (some (.UnaryOp .USub (.Constant (.int 1) k p1) p2)) p3) pos) (tRevL X.K te) := fun pins s σ H Q I h => by
  rw [eval_Subscript]
  refine _root_.PySem.wpAt_bind (_root_.PySem.wpAt_mono (he pins s σ H _ I h) (fun v s1 hv => _root_.PySem.wpAt_of_wpAny ?_) fun _ _ x => x)
  obtain ⟨x, H1, I1, r1, a, xs, rfl, hx, q⟩ := hv
  obtain rfl : v = Value.ref a := r1
  refine wpAny_bind (wpAny_holding ?_)
  have hst : PO X (some (.UnaryOp .USub (.Constant (.int 1) k p1) p2)) (tPart (tUn (rU fun i => .int (-i)) (tC (.int 1)))) := po_some (pe_un un_neg pe_int)
  refine PySem.wpAny_Slice (thn (po_none.run pins s1 σ H1 (fun o H2 => o = none ∧ H2 = H1) I1 ⟨rfl, rfl⟩) fun vl s2 ⟨l, H2, I2, pl, el, e2⟩ => ?_)
  subst el e2
  refine thn (po_none.run pins s2 σ H2 (fun o H3 => o = none ∧ H3 = H2) I2 ⟨rfl, rfl⟩) fun vu s3 ⟨u, H3, I3, pu, eu, e3⟩ => ?_
  subst eu e3
  refine thn (hst.run pins s3 σ H3 (fun o H4 => o = some (-1) ∧ H4 = H3) I3 ⟨1, rfl, -1, rfl, rfl, rfl⟩) fun vs s4 ⟨o, H4, I4, ps, eo, e4⟩ => ?_
  subst eo e4
  refine wpAny_bind (wpAny_standAt ?_)
  have I5 : Inv X pins σ H4 { s4 with heap := s4.heap.push { cls := .type "slice", data := .fields #[vl, vu, vs] } } := I4.kept (t' := s4.toks) fun b ob q => Heap.get?_push_of_some _ q
  obtain ⟨its, r, ht, hz⟩ := I5.list hx
  have hlen := r.length
  refine PyProof.Rows.tail_any (ops := [.ref a, .ref s4.heap.objs.size]) ht.isList.typeIs (PySem.slot_list_getitem.lookup) ?_ (by with_unfolding_all rfl)
  refine wpAny_getItem_list_slice ht.isList (Heap.IsSliceOf.new _ vl vu vs) pl pu ps (by decide) ?_ (by rw [List.size_toArray]; omega)
  rw [PySem.W.krv_pick]
  exact ⟨.ref _, _, I5.laid (t' := s4.toks) (o := .lst xs.reverse) (fun b ob q => Heap.get?_push_of_some _ q) (Nat.le_refl _) ⟨by rw [List.length_reverse]; exact hz, _, 0, r.reverse, Heap.get?_push_size _ rfl⟩, rfl, q _ (I5.hok.fresh (Nat.le_refl _))⟩
end
section
variable {X : Cx} {c : Code}
def PIc (X : Cx) (c : Code) (tg iter : Expr) (wi : TI) : Prop := ∀ (pins : List (Addr × Obj)) (s : Shared) (σ : St) (H : Hp) (R : It → Hp → Prop), Inv X pins σ H s → wi σ H R →
  AtC (model X.prog X.w) X.A c (eval iter X.env) (fun v s1 => wpAny (model X.prog X.w) X.A (pyIter v) (PIE X pins σ tg R) X.xe s1) X.xe s
theorem pic_list {tg l : Expr} {tl : TE} (hl : PEc X c l tl) : PIc X c tg l (iList X.K tl) := fun pins s σ H R I h => by
  refine _root_.PySem.wpAt_mono (hl pins s σ H _ I h) (fun v s1 hv => ?_) fun _ _ x => x
  obtain ⟨x, H1, I1, r1, a, rfl, ⟨xs, hq⟩, q⟩ := hv
  obtain rfl : v = Value.ref a := r1
  obtain ⟨its, rv, p, hz⟩ := I1.list hq
  refine wpAny_pyIter_list p.isList ⟨s1.heap.objs.size, [s1.heap.objs.size], _, _, H1, rfl, I1.kept (t' := s1.toks) fun b o e => Heap.get?_push_of_some _ e, turn_list a _, ⟨_, Heap.get?_push_size _ rfl, rfl, rfl⟩, fun b hb => ?_, q⟩
  obtain rfl : b = s1.heap.objs.size := by simpa using hb
  exact I1.fpOk (Nat.le_refl _) (I1.hok.fresh (Nat.le_refl _))
/-- the loop, from the iterator on -/
theorem for_run {tg : Expr} {body : List Stmt} {g : TG} {tb : TS} (hp : PassesOwn (model X.prog X.w) X.A X.env X.xe) (hc : X.calm = true) (hg : PG X tg g) (hb : PSs X body tb) {pins : List (Addr × Obj)} {σ : St} {D : Ends} {itv : Value} {s : Shared}
    (h : PIE X pins σ tg (fun J H1 => ∃ W : Nat → Nat → St → Hp → Prop, (∃ m, W 0 m σ H1) ∧ ∀ i m σ H, W i m σ H →
      (J.stop i H ∧ D.nx σ H) ∨ (J.go i H ∧ ∃ N : St → Hp → Prop, (∀ σ' H', N σ' H' → ∃ m', m' < m ∧ W (i + 1) m' σ' H') ∧ ∀ x H', J.yld i H x H' → g x σ H' fun σ2 H2 => tb { D with nx := N, ct := N, bk := D.nx } σ2 H2)) itv s) :
    codeAny (model X.prog X.w) X.A (.forLoop tg itv body [] X.env) (fun r s' => match r with | .ok f => SP X pins D f s' | .error e => cameBackBy (model X.prog X.w) X.A X.env X.xe e s') s := by
  obtain ⟨it, fp, tn, J, H0, rfl, I0, T, t0, f0, W, ⟨m0, w0⟩, turn⟩ := h
  refine codeAny_forLoop_any (fun n s' => ∃ i σ1 H1, (Inv X pins σ1 H1 s' ∧ tn i s'.heap) ∧ (∀ b ∈ fp, H1 b = none) ∧ W i n σ1 H1) (fun n s1 hI => ?_) m0 ⟨0, σ, H0, ⟨I0, t0⟩, fun b hb => (f0 b hb).1, w0⟩
  obtain ⟨i, σ1, H1, ⟨I1, t1⟩, fr1, w1⟩ := hI
  have own1 : ∀ b ∈ fp, FpOk X pins H1 b := fun b hb => ⟨fr1 b hb, (f0 b hb).2⟩
  cases turn i n σ1 H1 w1 with
  | inl z =>
    refine wpAny_passesOwn hp (thn (T.done X rfl rfl rfl hc i pins s1 σ1 H1 X.xe I1 own1 t1 z.1) fun r s2 hr => ?_)
    obtain ⟨rfl, I2⟩ := hr
    exact wpAny_execs_nil ⟨σ1, H1, I2, z.2⟩
  | inr z =>
    obtain ⟨go, N, hN, step⟩ := z
    refine wpAny_passesOwn hp (thn (T.item X rfl rfl rfl hc i pins s1 σ1 H1 X.xe I1 own1 t1 go) fun r s2 hr => ?_)
    obtain ⟨u, rfl, h4⟩ := hr
    refine wpAny_passesOwn hp (thn h4 fun _ s3 h5 => ?_)
    obtain ⟨x, H3, I3, r3, y3, t3, own3⟩ := h5
    refine wpAny_passesOwn hp (thn (hg.run _ s3 σ1 H3 x u _ (I3.pinned (fun b hb => ⟨own3 b hb, (f0 b hb).2⟩) (T.obj _ _ t3)) r3 (step x H3 y3)) fun _ s4 h6 => ?_)
    obtain ⟨σ4, H4, I4, q4⟩ := h6
    refine wpAny_passesOwn hp (thn (hb.run _ s4 σ4 H4 _ I4 q4) fun f s5 h7 => ?_)
    have next : ∀ {σ6 : St} {H6 : Hp}, Inv X (pins ++ pinsAt fp s3.heap) σ6 H6 s5 → N σ6 H6 → ∃ m, m < n ∧ ∃ i σ1 H1, (Inv X pins σ1 H1 s5 ∧ tn i s5.heap) ∧ (∀ b ∈ fp, H1 b = none) ∧ W i m σ1 H1 := fun {σ6 H6} I6 n6 => by
      have pin6 : ∀ {b : Addr} {o : Obj}, b ∈ fp → s3.heap.get? b = some o → s5.heap.get? b = some o ∧ H6 b = none := fun {b o} hb e =>
        have z := I6.pin (b, o) (List.mem_append_right _ (List.mem_append_right _ (mem_pinsAt hb e)))
        ⟨z.1, z.2.1⟩
      obtain ⟨m, hm, w6⟩ := hN σ6 H6 n6
      exact ⟨m, hm, i + 1, σ6, H6, ⟨I6.unpinned, T.keep _ _ _ t3 fun b hb o e => (pin6 hb e).1⟩, fun b hb => by
        obtain ⟨o, e, _⟩ := T.obj _ _ t3 b hb
        exact (pin6 hb e).2, w6⟩
    cases f with
    | next => obtain ⟨σ6, H6, I6, n6⟩ := h7; exact next I6 n6
    | cont => obtain ⟨σ6, H6, I6, n6⟩ := h7; exact next I6 n6
    | brk => obtain ⟨σ6, H6, I6, q6⟩ := h7; exact ⟨σ6, H6, I6.unpinned, q6⟩
    | ret v => obtain ⟨y, σ6, H6, I6, r6, q6⟩ := h7; exact ⟨y, σ6, H6, I6.unpinned, r6, q6⟩
theorem psc_for {tg iter : Expr} {body : List Stmt} {wi : TI} {g : TG} {tb : TS} {pos : Pos} (hp : PassesOwn (model X.prog X.w) X.A X.env X.xe) (hc : X.calm = true) (hi : PIc X c tg iter wi) (hg : PG X tg g) (hb : PSs X body tb) (hs : ∀ x, foldedSetIterable iter X.env x = pure x) :
    PSc X c (.For tg iter body [] pos) (tFor wi g tb) := fun pins s σ H D I h => by
  rw [exec_For]
  refine _root_.PySem.wpAt_bind (_root_.PySem.wpAt_of_wpAny (wpAny_standAt ?_))
  refine _root_.PySem.wpAt_bind (_root_.PySem.wpAt_mono (hi pins s σ H _ I h) (fun v s1 hv => ?_) fun _ _ x => x)
  refine _root_.PySem.wpAt_of_wpAny (wpAny_bind (wpAny_of_eq (hs v) (wpAny_bind (wpAny_standAt (wpAny_bind (wpAny_holding (thn hv fun itv s2 h2 => ?_)))))))
  exact wpAny_runOwn (for_run hp hc hg hb h2)
end

/-! ### super().m(..) within a method of the class c, the receiver an instance of c itself -/
structure SupF (K : PySem.W.Frag) (P : Program) (mg : Str → Option Value) (f cda cc : Addr) (fd : FuncData) (slf c m : Str) (f2 : Addr) : Prop where
  fn : ∃ oc od osl, K.lookup f = some ⟨oc, od, .func fd, osl⟩
  ar : ∃ ar, (fd.params.posonlyargs ++ fd.params.args).head? = some ar ∧ ar.arg = slf
  code : ∃ ccl cdd vs ccs file tf, K.lookup cda = some ⟨ccl, cdd, .fields vs, ccs⟩ ∧ vs[2]? = some (.str file tf) ∧ ((P.main.file : Str) == file) = true
  cell : ∃ cl cld csl, K.lookup cc = some ⟨cl, cld, .cell (some (.ref (He.ga K c))), csl⟩
  cls : ∃ cd, PySem.W.clsIn K (He.ga K c) = some cd
  own : PySem.W.mroIn K (He.ga K c) (.ref (He.ga K c)) = some true
  noS : mg "super" = none
  stat : PySem.W.nsIn K cStatics "thirdparty.any" = some none
  sup : PySem.W.ks_superIn K (He.ga K c) (He.ga K c) m = some (some (.ref f2))
  fnT : PySem.W.typeIn K (.ref f2) = some (.type "function")
  fi : PySem.W.fnIn K f2 = true
  top : (P.main.scope.names.lookup ("super" : Str)).isSome = false
def tSup (K : PySem.W.Frag) (c : Str) (n : Nat) (mf : List Slot → Option CO) (E : St → XK) (t : TA) : TE := fun σ H Q => ∃ a dx fs, σ[0]? = some (some (.ref a)) ∧ H a = some (.ins (He.ga K c) dx fs) ∧ t σ H fun vs H2 => spM K n mf (.ref a :: vs) H2 Q (E σ)
section
variable {X : Cx} {W : WX} {f cda cc f2 : Addr} {fd : FuncData} {slf c m : Str} {n k : Nat} {mf : List Slot → Option CO} {t : TA} {e : Expr} {es : List Expr} {body : List Stmt} {pos apos p0 p1 : Pos} {pl : Sem Bool}
theorem pec_sup (S : SupF X.K X.prog X.mg f cda cc fd slf c m f2) (F : FnR X.prog X.w X.K X.mg X.base (L2.CX X.prog X.w) k f2 (spM X.K n mf)) (hr : Room k X.A) (tk : Takes X W) (ha : PA X (e :: es) t)
    (hN : X.N[0]? = some slf) (hself : X.env.scope.names.lookup slf = some .local) (hks : X.env.kindOf "super" = some .globalImplicit) (hkc : X.env.kindOf "__class__" = some .free) (hcl : X.env.cells.lookup ("__class__" : Str) = some cc)
    (hfu : X.env.func = some f) (hco : X.env.code = .ref cda) (hm : (m == ("__class__" : Str)) = false)
    (hst : starEach (e :: es) X.env = (false, eval e X.env) :: starEach es X.env) (hpl : (backTo pos (starEach es X.env)).any (·.1) = false)
    (he : eval (.Call (.Attribute (.Call (.Name "super" p0) [] [] p1) m apos) (e :: es) [] pos) X.env = (do
      let ov ← attributeBase (.Call (.Name "super" p0) [] [] p1) m X.env (eval (.Call (.Name "super" p0) [] [] p1) X.env)
      standAt apos.atName
      let (f, first) ← holding [ov] (getMethod ov m pl)
      callWith pos f first (backTo pos (starEach (e :: es) X.env)) [])) :
    PEc X (.func body X.env) (.Call (.Attribute (.Call (.Name "super" p0) [] [] p1) m apos) (e :: es) [] pos) (tSup X.K c n mf (WE W) t) := fun pins s σ H Q I h => by
  obtain ⟨a, dx, fs, hσ, hH, h⟩ := h
  obtain ⟨oc, od, osl, hf⟩ := S.fn
  obtain ⟨ar, har, harg⟩ := S.ar
  obtain ⟨ccl, cdd, vs, ccs, file, tf, hcode, hvs, hfile⟩ := S.code
  obtain ⟨cl, cld, csl, hcell⟩ := S.cell
  obtain ⟨cd, hcd⟩ := S.cls
  have KX := I.kIn
  obtain ⟨mA, O, _, _, _, _⟩ := ins_get I.hok hH
  obtain ⟨od2, J, _⟩ := O.look
  obtain ⟨oD, hD1, hD2⟩ : ∃ oD, s.heap.get? (He.ga X.K c) = some oD ∧ oD.data = .cls cd := by
    unfold PySem.W.clsIn at hcd
    split at hcd
    · rename_i c d cd' sl ho
      cases hcd
      exact ⟨_, KX _ _ ho, rfl⟩
    · cases hcd
  refine ks_wpAt_MethodCall (pl := pl) ?_ he
  refine ks_wpAt_super_base hks hkc hm hfu (KX _ _ hf) rfl har hco (KX _ _ hcode) rfl hvs hfile S.top ?_
  have hglob : wpAny (model X.prog X.w) X.A (loadGlobal X.env "super") (fun g s₁ => g = .type "super" ∧ s₁ = s) X.xe s := by
    obtain ⟨mb, h1, h2⟩ := I.mod.blt
    exact PySem.Calls.loadGlobal_builtin (by rw [I.ok.glob]; exact I.mod.glob.keeps I.bk) S.noS (by rw [I.ok.blt]; exact h1.keeps I.bk) ((h2 "super" (by decide)).trans (by decide +kernel)) ⟨rfl, rfl⟩
  refine PySem.W.ks_loadName_global I.ok.kind hks (thn hglob fun g s1 ⟨eg, es1⟩ => ⟨eg, ?_⟩)
  subst es1
  refine wpAny_loadName_free I.ok.kind hkc hcl ⟨_, KX _ _ hcell, rfl⟩ ?_
  obtain ⟨mL, hn, hl⟩ := id I.loc
  obtain ⟨u, ru, lk⟩ := hl 0 slf (.ref a) hN hσ (.inl hself)
  obtain rfl : u = Value.ref a := ru
  have hml : mL slf = some (.ref a) := by
    rcases lk with ⟨_, z⟩ | ⟨z, _⟩
    · exact z
    · have z1 : X.env.scope.names.lookup slf = some .cell ∨ X.env.scope.names.lookup slf = some .free := z
      rw [hself] at z1
      rcases z1 with z1 | z1 <;> cases z1
  rw [harg]
  refine wpAny_loadName_local I.ok.kind hself hn hml ?_
  refine ks_wpAny_isType_cls hD1 hD2 ⟨rfl, ?_⟩
  refine ks_wpAny_call_super hD1 hD2 J.at_ J.cls (fun c e => ?_) (PySem.W.looks_mroIn KX S.own) (fun h' e1 k1 => ?_)
  · have := J.no
    unfold PySem.W.notCls at this
    rw [e] at this
    exact Bool.noConfusion this
  have I1 : Inv X ((s1.heap.objs.size, PySem.W.ks_superObj (He.ga X.K c) a (He.ga X.K c)) :: pins) σ H { s1 with heap := h' } := ClX.pin_new (t' := s1.toks) I k1 (Nat.le_refl _) e1 (fun v z => nomatch z)
  obtain ⟨of, hof, hofc⟩ : ∃ of, h'.get? f2 = some of ∧ of.cls = .type "function" := by
    have ht' : (X.K.lookup f2).map (·.cls) = some (.type "function") := S.fnT
    cases z : X.K.lookup f2 with
    | none => rw [z] at ht'; cases ht'
    | some of => rw [z] at ht'; exact ⟨of, I1.kIn _ _ z, Option.some.inj ht'⟩
  have hsup := S.sup
  unfold PySem.W.ks_superIn at hsup
  rw [hcd] at hsup
  obtain ⟨hh, g, d, tk0, os⟩ := s1
  refine ks_wpAny_getMethod_super e1 (PySem.W.looks_opaque I1.kIn S.stat) (l₀ := cd.mro) ?_ rfl I1.kIn hsup hof hofc (PySem.W.ks_ne KX J hcd) hm ?_
  · exact fun A Q E s k q => wpAny_bind ((PySem.W.looks_clsIn I1.kIn hcd) A _ E s k (wpAny_pure q))
  have I2 := ClX.met_new (g := f2) (C := a) I1
  refine ClX.callwith_cm I2 (ClX.base_none I1 (Nat.le_refl _)) S.fi (thn (ha.run pos _ _ σ H _ I2 h) fun us s3 ⟨vs, H2, I3, rv, q2⟩ => ⟨⟨ClX.pin_at I3, I3.kIn⟩, ?_⟩) hst hpl
  exact thn (run_cmS F hr tk I3 rv q2) fun _ _ y => ClX.unpinE y
end

/-- a def of a class' body that uses super(): where it stands -/
structure FunS (K : PySem.W.Frag) (x qual : Str) (st : Stmt) (f cc cda : Addr) (fd : FuncData) : Prop where
  ex : ∃ (oc : Value) (od : Option Addr) (kV doc pm : Value) (an : Option Addr) (ct : Value) (osl : Array (Option Value)),
    fd = PySem.W.fnX x qual (defArgs st) (defBody st) (defScope st) [("__class__", cc)] .none kV doc pm an (.ref cda) ct ∧ K.lookup f = some ⟨oc, od, .func fd, osl⟩ ∧ PySem.W.codeIn K (.ref cda) qual = true
  cell : ∃ cl cld csl v, K.lookup cc = some ⟨cl, cld, .cell v, csl⟩
abbrev nfS (x qual : Str) (st : Stmt) (cc cda : Addr) : NdefX.NF := ⟨x, qual, defArgs st, defBody st, defScope st, [("__class__", cc)], cda⟩
section
variable {P : Program} {w : World} {K : PySem.W.Frag} {mg : Str → Option Value} {base : Heap}
theorem fn_sup {x qual : Str} {st : Stmt} {f cc cda : Addr} {fd : FuncData} {N ps : List Str} {k n : Nat} (Fn : FunS K x qual st f cc cda fd) (S : NdefX.NScope N ps ["__class__"] (defScope st)) (b : MS K) (hn : ps.length = n)
    (hb : ∀ (kV doc pm : Value) (an : Option Addr) (ct : Value) (us : List Value), us.length = ps.length → bindArgs (PySem.W.fnX x qual (defArgs st) (defBody st) (defScope st) [("__class__", cc)] .none kV doc pm an (.ref cda) ct) ⟨us, []⟩ = pure (ps.zip us))
    (d : ∀ (A : Around) (outer : List PySem.Env) (s : Shared) (H : Hp) (E : XK), Room k (A.deeper (NdefX.envF (nfS x qual st cc cda) f s.heap.objs.size)) →
      PSsc (NdefX.ncx (L2.CX P w) P w K mg base N (nfS x qual st cc cda) f A outer s H E) (.func (defBody st) (NdefX.envF (nfS x qual st cc cda) f s.heap.objs.size)) (defBody st) (b.t fun cls d _ H => E cls d H)) :
    FnR P w K mg base (L2.CX P w) (k + 1) f (spM K n (mfOf N.length b.m)) := by
  intro A outer s H us vs Q E hr e0 r h
  obtain ⟨oc, od, kV, doc, pm, an, ct, osl, rfl, lk, hcd⟩ := Fn.ex
  obtain ⟨cl, cld, csl, v, hcell⟩ := Fn.cell
  have KX : K.In s.heap := e0.mod.kin.keeps fun b o e => (e0.bs b o e).1
  have lim : s.heap.NoLimit := e0.mod.nolimit.keeps fun b o e => (e0.bs b o e).1
  have hlv : vs.length = ps.length := by rw [hn]; exact spM_len vs H Q E h
  have hlu : us.length = ps.length := by rw [← r.length]; exact hlv
  have hN : ps.length + 1 ≤ N.length := by
    have q := congrArg List.length S.pre
    rw [List.length_take, List.length_append] at q
    simp only [List.length_cons, List.length_nil] at q
    omega
  have C : NdefX.CellsAt [("__class__", cc)] ["__class__"] [none] s.heap H := by
    have hone : ∀ y c, List.lookup y [(("__class__" : Str), cc)] = some c → y = "__class__" ∧ c = cc := fun y c e => by
      rw [List.lookup_cons] at e
      cases z : y == ("__class__" : Str) with
      | true => rw [z] at e; cases e; exact ⟨beq_iff_eq.mp z, rfl⟩
      | false => rw [z] at e; cases e
    refine ⟨rfl, fun y c e => ?_, fun a b c e1 e2 => by rw [(hone a c e1).1, (hone b c e2).1], fun i y e => ?_⟩
    · rw [(hone y c e).2]
      have kk := e0.mod.kin _ _ hcell
      exact ⟨(e0.bs _ _ kk).2, v, _, KX _ _ hcell, rfl⟩
    · cases i with
      | zero =>
        cases e
        exact ⟨cc, by rw [List.lookup_cons]; simp, fun v z => by simp at z⟩
      | succ i => simp at e
  obtain ⟨B, as, o, x1, e1, a1, n1, m1, f1⟩ := h
  have hst : NdefX.startF N vs [none] = L2.start N vs := by
    unfold NdefX.startF L2.start
    congr 1
    have e : N.length - vs.length = (N.length - vs.length - 1) + 1 := by omega
    rw [e, List.replicate_succ]
    simp
  refine ks_codeAny_call_defAt (fd := PySem.W.fnX x qual (defArgs st) (defBody st) (defScope st) [("__class__", cc)] .none kV doc pm an (.ref cda) ct) (body := defBody st) (binds := ps.zip us) hr.depth (KX _ _ lk) rfl lim
    (PySem.W.codeRec_of KX hcd) rfl (.of_eq (hb kV doc pm an ct us hlu)) S.nocell (fun ⟨y, u⟩ hy => S.par y (List.of_mem_zip hy).1) (fun h₁ hns kp => ?_) S.co S.gen S.kind
  have I : Inv (NdefX.ncx (L2.CX P w) P w K mg base N (nfS x qual st cc cda) f A outer s H E) [] (NdefX.startF N vs [none]) H { s with heap := h₁, toks := s.toks + (ps.zip us).length } := NdefX.inv_startN S hr.hd e0 hlv r C hns kp
  have hq := body_fin (K := K) (n := n) (N := N) (b := b) (Q := Q) (E := E) x1 (by omega) a1 n1 m1 f1
  rw [← hst] at hq
  refine _root_.PySem.wpAt_mono (d A outer s H E (hr.deeper _) [] _ (NdefX.startF N vs [none]) H { nx := fun _ H' => Q .non H', rt := Q } I hq) (fun fl s' hs => ?_) fun e s' hs => hs
  have fin : ∀ {σ' : L2.St} {H' : Hp} {v : V} {u : Value}, Inv (NdefX.ncx (L2.CX P w) P w K mg base N (nfS x qual st cc cda) f A outer s H E) [] σ' H' s' → RelV v u → Q v H' → CE outer P w H s Q u s' :=
    fun {σ' H' v u} J rv q => ⟨v, H', J.os, J.bare, J.base, J.hok, rv, q⟩
  cases fl with
  | ret u =>
    obtain ⟨v, σ', H', J, rv, q⟩ := hs
    exact fin J rv q
  | next =>
    obtain ⟨σ', H', J, q⟩ := hs
    exact fin (v := V.non) (u := Value.none) J rfl q
  | brk =>
    obtain ⟨_, _, _, q⟩ := hs
    exact False.elim q
  | cont =>
    obtain ⟨_, _, _, q⟩ := hs
    exact False.elim q
end
/-! bundles -/
section
variable {K : PySem.W.Frag}
def mSup (c : Str) (n : Nat) (mf : List Slot → Option CO) (b : MC K) (hk : b.k = true := by exact id rfl) : ME K where
  t := fun W => tSup K c n mf (WE W) (b.t W)
  m := fun ρ => match ρ[(0 : Nat)]? with
    | some (.val (.ins c' fs)) => if c' = c then (b.m ρ).bind fun o => match o with
        | .ok is ρ2 => if is.length + 1 = n then callM mf (some (.ok (.inl (.ins c fs) :: is) ρ2)) else none
        | .ex e ρ2 => some (.ex e ρ2)
      else none
    | _ => none
  p := false
  k := true
  ok := fun F W ρ σ B H Q out e R f => by
    split at e
    · rename_i c' fs hs
      split at e
      · rename_i hc
        subst hc
        obtain ⟨v, hv, a, dx, ws, rfl, hb, hf⟩ := R.sl 0 _ hs
        have hσ : σ[0]? = some (some (.ref a)) := by
          rw [List.getD_eq_getElem?_getD] at hv
          cases z : σ[0]? with
          | none => rw [z] at hv; cases hv
          | some y => rw [z] at hv; exact congrArg some hv
        refine ⟨a, dx, ws, hσ, R.ex _ _ hb, ?_⟩
        obtain ⟨o, e2, e⟩ := Option.bind_eq_some_iff.mp e
        cases o with
        | ex x ρ2 => cases e; exact b.ok F W ρ σ B H _ _ e2 R fun cls d B2 H2 x2 R2 xr => f cls d B2 H2 x2 R2 xr
        | ok is ρ2 =>
          refine b.ok F W ρ σ B H _ _ e2 R fun vs B2 H2 x2 p2 R2 r2 => ?_
          rw [hk, if_pos rfl] at r2
          dsimp only at e
          split at e
          · rename_i hn
            exact call_fin (H := H) (ρ := ρ) (is := .inl (.ins c' fs) :: is) x2 R2 ⟨_, vs, rfl, ⟨a, dx, ws, rfl, x2 _ _ hb, RepF.mono x2 _ _ hf⟩, r2⟩ hn e f
          · cases e
      · cases e
    · cases e
end
end Sg

set_option Elab.async false
set_option linter.all false
set_option maxRecDepth 100000
set_option maxHeartbeats 4000000
namespace Sg
open PySem L2
/-! ### super(): derivations -/
section
variable {X : Cx} {W : WX} {c : Code} {st : Stmt} {sts : List Stmt} {S S' : MS X.K} {A : ME X.K} {e iter tg : Expr} {G : MG X.K} {x : Str} {p2 pos : Pos}
theorem uof (h : PS X st (S.t W)) : PSc X c st (S.t W) := psc_of h
theorem urest (h : PSs X sts (S.t W)) : PSsc X c sts (S.t W) := pssc_of h
theorem ucons (h1 : PSc X c st (S.t W)) (h2 : PSsc X c sts (S'.t W)) : PSsc X c (st :: sts) ((msSeq S S').t W) := show PSsc X c (st :: sts) (tSeq (S.t W) (S'.t W)) from pssc_cons h1 h2
theorem uset {i : Nat} {h} (hN : X.N.Nodup) (he : PEc X c e (A.t W)) (hi : X.N[i]? = some x := by rfl) (hx : Loc X.env.scope x := by first | exact Or.inl rfl | exact Or.inr rfl) (hs : swapsWith e (some (.Name x p2)) pos.line X.env = pure false := by rfl)
    (hf : X.fn x = true ∨ X.env.scope.names.lookup x = some .local := by first | exact .inr rfl | exact .inl rfl) : PSc X c (.Assign [.Name x p2] e pos) ((msAsg A (mgName i) h).t W) := psc_set hN he hi hx hs hf
theorem urev {k : Nat} {h} {p1 p3 : Pos} (he : PEc X c e (A.t W)) : PEc X c (.Subscript e (.Slice none none (some (.UnaryOp .USub (.Constant (.int 1) k p1) p2)) p3) pos) ((mFr (mRev A h)).t W) := pec_rev he
theorem ufor {body : List Stmt} {kl : List Nat} {h} (hp : PassesOwn (model X.prog X.w) X.A X.env X.xe) (hi : PEc X c iter (A.t W)) (hg : PG X tg G.t) (hb : PSs X body (S.t W)) (hc : X.calm = true := by rfl) (hs : ∀ x, foldedSetIterable iter X.env x = pure x := by intro _; rfl) :
    PSc X c (.For tg iter body [] pos) ((msFor (miList A h) G S kl).t W) := psc_for hp hc (pic_list hi) hg hb hs
theorem usup {f cda cc f2 : Addr} {fd : FuncData} {slf cl m : Str} {n k : Nat} {mf : List Slot → Option CO} {L : MC X.K} {h} {a0 : Expr} {es : List Expr} {body : List Stmt} {apos p0 p1 : Pos} {pl : Sem Bool} (s : SupF X.K X.prog X.mg f cda cc fd slf cl m f2)
    (F : FnR X.prog X.w X.K X.mg X.base (L2.CX X.prog X.w) k f2 (spM X.K n mf)) (hr : Room k X.A) (tk : Takes X W) (ha : PA X (a0 :: es) (L.t W))
    (hN : X.N[0]? = some slf := by rfl) (hself : X.env.scope.names.lookup slf = some .local := by rfl) (hks : X.env.kindOf "super" = some .globalImplicit := by rfl) (hkc : X.env.kindOf "__class__" = some .free := by rfl) (hcl : X.env.cells.lookup ("__class__" : Str) = some cc := by rfl)
    (hfu : X.env.func = some f := by rfl) (hco : X.env.code = .ref cda := by rfl) (hm : (m == ("__class__" : Str)) = false := by decide)
    (hst : starEach (a0 :: es) X.env = (false, eval a0 X.env) :: starEach es X.env := by rfl) (hpl : (backTo pos (starEach es X.env)).any (·.1) = false := by rfl)
    (he : eval (.Call (.Attribute (.Call (.Name "super" p0) [] [] p1) m apos) (a0 :: es) [] pos) X.env = (do
      let ov ← attributeBase (.Call (.Name "super" p0) [] [] p1) m X.env (eval (.Call (.Name "super" p0) [] [] p1) X.env)
      standAt apos.atName
      let (f, first) ← holding [ov] (getMethod ov m pl)
      callWith pos f first (backTo pos (starEach (a0 :: es) X.env)) []) := by rfl) :
    PEc X (.func body X.env) (.Call (.Attribute (.Call (.Name "super" p0) [] [] p1) m apos) (a0 :: es) [] pos) ((mSup cl n mf L h).t W) := pec_sup s F hr tk ha hN hself hks hkc hcl hfu hco hm hst hpl he
end
theorem tkNo {X : Cx} : Takes X WNo := fun _ _ ⟨_, _, _, _, _, _, _, _, _, _, _, _, _, _, _, _, w⟩ => False.elim w
/-! ### tables of methods -/
section
variable {P : Program} {w : World} {K : PySem.W.Frag} {mg : Str → Option Value} {base : Heap} {k j n : Nat} {c m : Str} {mf : List Slot → Option CO} {tab : MTab} {CX : CXT}
theorem CalM.mono (h : CalM P w K mg base CX j c m n mf) (l : j ≤ k) : CalM P w K mg base CX k c m n mf := by
  obtain ⟨a, f, b, d⟩ := h
  exact ⟨a, f, b, d.mono l⟩
theorem calT_nil : CalT P w K mg base k m n [] := fun c mf h => by cases h
theorem calT_cons (h1 : CalM P w K mg base (L2.CX P w) k c m n mf) (h2 : CalT P w K mg base k m n tab) : CalT P w K mg base k m n ((c, mf) :: tab) := fun c' mf' h => by
  rw [List.lookup_cons] at h
  cases z : c' == c with
  | true => rw [z] at h; cases h; rw [beq_iff_eq.mp z]; exact h1
  | false => rw [z] at h; exact h2 c' mf' h
theorem xt_nil {c : Str} : ∀ cx b, List.lookup cx ([] : XTab) = some b → PySem.W.exmOne K (.ref (He.ga K cx)) (.ref (He.ga K c)) = some b := fun cx b h => by cases h
theorem xt_cons {c d : Str} {b0 : Bool} {tab : XTab} (h1 : PySem.W.exmOne K (.ref (He.ga K d)) (.ref (He.ga K c)) = some b0) (h2 : ∀ cx b, tab.lookup cx = some b → PySem.W.exmOne K (.ref (He.ga K cx)) (.ref (He.ga K c)) = some b) :
    ∀ cx b, List.lookup cx ((d, b0) :: tab) = some b → PySem.W.exmOne K (.ref (He.ga K cx)) (.ref (He.ga K c)) = some b := fun cx b h => by
  rw [List.lookup_cons] at h
  cases z : cx == d with
  | true => rw [z] at h; cases h; rw [beq_iff_eq.mp z]; exact h1
  | false => rw [z] at h; exact h2 cx b h
end
/-! ### facts of the heap, as Booleans -/
open He (ga ma ba eqO eqO_ok)
/-- where a def stands: a global; a method; a classmethod -/
inductive Pl where
  | g (x : Str)
  | m (c x : Str)
  | k (c x : Str)
def cmg (K : PySem.W.Frag) (p : Addr) : Addr := match PySem.W.recIn K p "classmethod" with
  | some (.ref g :: _) => g
  | _ => 0
def Pl.ad (K : PySem.W.Frag) : Pl → Addr
  | .g x => ga K x
  | .m c x => ma K (ga K c) x
  | .k c x => cmg K (ma K (ga K c) x)
abbrev FnY : Type := Option (Str × Str × Arguments × FuncBody × Scope × Addr × List Str × Value × Addr)
def fnY (K : PySem.W.Frag) (p : Pl) : FnY := match K.lookup (p.ad K) with
  | some ⟨_, _, .func fd, _⟩ => some (fd.name, fd.qualname, fd.params, fd.body, fd.scope, fd.globals, fd.closure.map (·.1), fd.defaults, fd.builtins)
  | _ => none
structure DefY where
  at_ : Pl
  name : Str
  qual : Str
  st : Stmt
  cl : List Str
def DefY.val (d : DefY) : FnY := some (d.name, d.qual, defArgs d.st, .stmts (defBody d.st), defScope d.st, mainGlobals, d.cl, .none, builtinsNs)
def DefY.ok (K : PySem.W.Frag) (d : DefY) : Bool := PySem.W.keepIn K (.ref (d.at_.ad K)) && (match K.lookup (d.at_.ad K) with
  | some ⟨_, _, .func fd, _⟩ => PySem.W.codeIn K fd.code d.qual
  | _ => false)
theorem fun_of {K : PySem.W.Frag} {d : DefY} (e : fnY K d.at_ = d.val) (c : d.ok K = true) (hcl : d.cl = []) : ∃ fd, Fun K d.name d.qual d.st (d.at_.ad K) fd := by
  obtain ⟨kp, c2⟩ := ba c
  unfold fnY at e
  cases q : K.lookup (d.at_.ad K) with
  | none => rw [q] at c2; cases c2
  | some o =>
    obtain ⟨oc, od, dt, osl⟩ := o
    rw [q] at c2 e
    cases dt with
    | func fd =>
      obtain ⟨n1, n2, n3, n4, n5, n6, n7, n8, n9, n10, n11, n12, n13, n14, n15⟩ := fd
      have e2 : (some (n1, n2, n3, n4, n5, n6, n7.map (·.1), n8, n15) : FnY) = some (d.name, d.qual, defArgs d.st, .stmts (defBody d.st), defScope d.st, mainGlobals, d.cl, .none, builtinsNs) := e
      simp only [Option.some.injEq, Prod.mk.injEq] at e2
      obtain ⟨h1, h2, h3, h4, h5, h6, h7, h8, h9⟩ := e2
      rw [hcl] at h7
      have h7' : n7 = [] := List.map_eq_nil_iff.mp h7
      subst h1 h2 h3 h4 h5 h6 h7' h8 h9
      exact ⟨_, ⟨oc, od, n9, n10, n11, n12, n13, n14, osl, rfl, q, c2⟩, kp⟩
    | _ => cases c2
/-- the cell of __class__, the code object -/
def ccOf (K : PySem.W.Frag) (f : Addr) : Addr := match K.lookup f with
  | some ⟨_, _, .func fd, _⟩ => (match fd.closure with
    | [(_, c)] => c
    | _ => 0)
  | _ => 0
def cdOf (K : PySem.W.Frag) (f : Addr) : Addr := match K.lookup f with
  | some ⟨_, _, .func fd, _⟩ => (match fd.code with
    | .ref c => c
    | _ => 0)
  | _ => 0
def cellB (K : PySem.W.Frag) (a : Addr) (v : Addr) : Bool := match K.lookup a with
  | some ⟨_, _, .cell (some (.ref b)), _⟩ => decide (b = v)
  | _ => false
theorem cellB_ok {K : PySem.W.Frag} {a v : Addr} (h : cellB K a v = true) : ∃ cl cld csl, K.lookup a = some ⟨cl, cld, .cell (some (.ref v)), csl⟩ := by
  unfold cellB at h
  split at h
  · rename_i cl cld b csl e
    rw [of_decide_eq_true h] at e
    exact ⟨_, _, _, e⟩
  · cases h
theorem funS_of {K : PySem.W.Frag} {d : DefY} {v : Addr} (e : fnY K d.at_ = d.val) (c : d.ok K = true) (hcl : d.cl = (["__class__"] : List Str)) (hc : cellB K (ccOf K (d.at_.ad K)) v = true) :
    ∃ fd, FunS K d.name d.qual d.st (d.at_.ad K) (ccOf K (d.at_.ad K)) (cdOf K (d.at_.ad K)) fd := by
  obtain ⟨kp, c2⟩ := ba c
  obtain ⟨cl, cld, csl, hcell⟩ := cellB_ok hc
  unfold fnY at e
  cases q : K.lookup (d.at_.ad K) with
  | none => rw [q] at c2; cases c2
  | some o =>
    obtain ⟨oc, od, dt, osl⟩ := o
    rw [q] at c2 e
    cases dt with
    | func fd =>
      obtain ⟨n1, n2, n3, n4, n5, n6, n7, n8, n9, n10, n11, n12, n13, n14, n15⟩ := fd
      have e2 : (some (n1, n2, n3, n4, n5, n6, n7.map (·.1), n8, n15) : FnY) = some (d.name, d.qual, defArgs d.st, .stmts (defBody d.st), defScope d.st, mainGlobals, d.cl, .none, builtinsNs) := e
      simp only [Option.some.injEq, Prod.mk.injEq] at e2
      obtain ⟨h1, h2, h3, h4, h5, h6, h7, h8, h9⟩ := e2
      rw [hcl] at h7
      match n7, h7 with
      | [(z, cc)], h7 =>
        simp only [List.map_cons, List.map_nil, List.cons.injEq, and_true] at h7
        subst h1 h2 h3 h4 h5 h6 h7 h8 h9
        have ec : ccOf K (d.at_.ad K) = cc := by unfold ccOf; rw [q]
        have c3 : PySem.W.codeIn K n13 d.qual = true := c2
        cases n13 with
        | ref cda =>
          have ed : cdOf K (d.at_.ad K) = cda := by unfold cdOf; rw [q]
          rw [ec] at hcell
          rw [ec, ed]
          exact ⟨_, ⟨oc, od, n9, n10, n11, n12, n14, osl, rfl, q, c3⟩, ⟨cl, cld, csl, _, hcell⟩⟩
        | _ => cases c3
    | _ => cases c2

def fileB (K : PySem.W.Frag) (a : Addr) (file : Str) : Bool := match K.lookup a with
  | some ⟨_, _, .fields vs, _⟩ => (match (vs[(2 : Nat)]? : Option Value) with
    | some (.str g _) => file == g
    | _ => false)
  | _ => false
def supB (K : PySem.W.Frag) (file : Str) (f : Addr) (c m b : Str) : Bool := fileB K (cdOf K f) file && (cellB K (ccOf K f) (ga K c) && (PySem.W.isClsIn K (ga K c) && (decide (PySem.W.mroIn K (ga K c) (.ref (ga K c)) = some true) &&
  (eqO (PySem.W.nsIn K cStatics "thirdparty.any") (some none) && (eqO (PySem.W.ks_superIn K (ga K c) (ga K c) m) (some (some (.ref (ma K (ga K b) m)))) && (decide (PySem.W.typeIn K (.ref (ma K (ga K b) m)) = some (.type "function")) && PySem.W.fnIn K (ma K (ga K b) m)))))))
theorem supF_of {K : PySem.W.Frag} {P : Program} {mg : Str → Option Value} {x qual slf c m b : Str} {st : Stmt} {f : Addr} {fd : FuncData} (F : FunS K x qual st f (ccOf K f) (cdOf K f) fd) (h : supB K P.main.file f c m b = true)
    (har : ∃ ar, ((defArgs st).posonlyargs ++ (defArgs st).args).head? = some ar ∧ ar.arg = slf) (noS : mg "super" = none) (top : (P.main.scope.names.lookup ("super" : Str)).isSome = false) :
    SupF K P mg f (cdOf K f) (ccOf K f) fd slf c m (ma K (ga K b) m) := by
  obtain ⟨h1, h⟩ := ba h
  obtain ⟨h2, h⟩ := ba h
  obtain ⟨h3, h⟩ := ba h
  obtain ⟨h4, h⟩ := ba h
  obtain ⟨h5, h⟩ := ba h
  obtain ⟨h6, h⟩ := ba h
  obtain ⟨h7, h8⟩ := ba h
  obtain ⟨oc, od, kV, doc, pm, an, ct, osl, rfl, lk, hcd⟩ := F.ex
  refine ⟨⟨oc, od, osl, lk⟩, har, ?_, cellB_ok h2, Option.isSome_iff_exists.mp h3, of_decide_eq_true h4, noS, eqO_ok h5, eqO_ok h6, of_decide_eq_true h7, h8, top⟩
  unfold fileB at h1
  split at h1
  · rename_i ccl cdd vs ccs e
    split at h1
    · rename_i g tf e2
      exact ⟨ccl, cdd, vs, ccs, g, tf, e, e2, h1⟩
    · cases h1
  · cases h1
/-- C() without __init__ -/
def mk0B (K : PySem.W.Frag) (c : Str) : Bool := PySem.W.makesIn K (ga K c) && (eqO (PySem.W.findIn K (.ref (ga K c)) "__init__") (some (some (.builtin "object.__init__"))) && PySem.W.keepIn K (.ref (ga K c)))
theorem mk0_ok {K : PySem.W.Frag} {c : Str} (h : mk0B K c = true) : Mk0 K (ga K c) := by
  obtain ⟨h1, h⟩ := ba h
  obtain ⟨h2, h3⟩ := ba h
  exact ⟨h1, eqO_ok h2, h3⟩
/-- c.m is the def of the class b -/
def methB (K : PySem.W.Frag) (c m b : Str) : Bool := eqO (PySem.W.findIn K (.ref (ga K c)) m) (some (some (.ref (ma K (ga K b) m)))) && (PySem.W.isFn K (.ref (ma K (ga K b) m)) && PySem.W.keepIn K (.ref (ma K (ga K b) m)))
theorem methB_ok {K : PySem.W.Frag} {c m b : Str} (h : methB K c m b = true) : Meth K (ga K c) m (ma K (ga K b) m) := by
  obtain ⟨h1, h⟩ := ba h
  obtain ⟨h2, h3⟩ := ba h
  exact ⟨eqO_ok h1, h2, h3⟩
/-- attributes of a class, read off the class -/
def creadB (K : PySem.W.Frag) (c : Str) : Bool := PySem.W.readsIn K (ga K c) (.type "type") && eqO (PySem.W.specialIn K (.ref (ga K c)) "__getattribute__") (some (some (.builtin "type.__getattribute__")))
theorem cread_ok {K : PySem.W.Frag} {c : Str} (h : creadB K c = true) : ClX.CRead K (ga K c) (.type "type") := by
  obtain ⟨h1, h2⟩ := ba h
  exact ⟨h1, eqO_ok h2⟩
def cmetB (K : PySem.W.Frag) (c m : Str) : Bool := (match PySem.W.findCls K (.ref (ga K c)) (.type "type") m with
    | some (.get (.builtin g) (.ref p) .none (.ref c')) => decide (g = "classmethod.__get__") && (decide (p = ma K (ga K c) m) && decide (c' = ga K c))
    | _ => false) && ((match PySem.W.recIn K (ma K (ga K c) m) "classmethod" with
    | some (.ref _ :: _) => true
    | _ => false) && PySem.W.fnIn K (cmg K (ma K (ga K c) m)))
theorem cmet_ok {K : PySem.W.Frag} {c m : Str} (h : cmetB K c m = true) : ClX.CMet K (ga K c) (.type "type") m (ma K (ga K c) m) (cmg K (ma K (ga K c) m)) := by
  obtain ⟨h1, h⟩ := ba h
  obtain ⟨h2, h3⟩ := ba h
  refine ⟨?_, ?_, h3⟩
  · split at h1
    · rename_i g p c' e
      obtain ⟨e1, h1⟩ := ba h1
      obtain ⟨e2, e3⟩ := ba h1
      rw [of_decide_eq_true e1, of_decide_eq_true e2, of_decide_eq_true e3] at e
      exact e
    · cases h1
  · unfold cmg
    split at h2
    · rename_i g r e
      rw [e]
      exact ⟨r, rfl⟩
    · cases h2
/-- a class constant: a tuple of texts -/
def strsV (xs : List Str) : List V := xs.map V.str
def conB (K : PySem.W.Frag) (c f : Str) (xs : List Str) : Bool := match PySem.W.findCls K (.ref (ga K c)) (.type "type") f with
  | some (.val (.ref p)) => (match K.lookup p with
    | some ⟨.type t, _, .seq its _, _⟩ => decide (t = "tuple") && (decide (its.size ≤ sizeLine) && He.relAll (strsV xs) its.toList)
    | _ => false)
  | _ => false
theorem repL_strs {K : PySem.W.Frag} {B : Hp} : ∀ xs : List Str, RepL K B (xs.map U.str) (strsV xs)
  | [] => rfl
  | x :: xs => ⟨.str x, strsV xs, rfl, rfl, repL_strs xs⟩
theorem con_ok {K : PySem.W.Frag} {c f : Str} {xs : List Str} (r : creadB K c = true) (h : conB K c f xs = true) : ConC K c f (.tup (xs.map U.str)) := by
  unfold conB at h
  split at h
  · rename_i p e
    split at h
    · rename_i t od its n sl e2
      obtain ⟨h1, h⟩ := ba h
      obtain ⟨h2, h3⟩ := ba h
      refine ⟨.type "type", .ref p, .ref p, cread_ok r, ⟨e, rfl⟩, fun B => ⟨p, strsV xs, rfl, .inr ⟨_, its, n, e2, congrArg Value.type (of_decide_eq_true h1), rfl, of_decide_eq_true h2, He.relAll_ok h3⟩, repL_strs xs⟩⟩
    · cases h
  · cases h
theorem xf_ok {K : PySem.W.Frag} {mg : Str → Option Value} {c : Str} (g : mg c = some (.ref (ga K c))) (h : (He.Fa.exc c).ok K = true) : XF K mg c := ⟨g, He.exc_ok h⟩
def exmB (K : PySem.W.Frag) (x y : Str) (b : Bool) : Bool := decide (PySem.W.exmOne K (.ref (ga K x)) (.ref (ga K y)) = some b)
theorem exm_ok {K : PySem.W.Frag} {x y : Str} {b : Bool} (h : exmB K x y b = true) : PySem.W.exmOne K (.ref (ga K x)) (.ref (ga K y)) = some b := of_decide_eq_true h

/-! ### the Hook -/
abbrev FaY : Type := PySem.W.Frag → Bool
abbrev AlY : Type := Bool × List FnY
def obsY (fa : List FaY) (fn : List DefY) (K : PySem.W.Frag) : AlY := ((fa.all fun f => f K) && fn.all fun d => d.ok K, fn.map fun d => fnY K d.at_)
def valY (fn : List DefY) : AlY := (true, fn.map DefY.val)
def SaysY (fa : List FaY) (fn : List DefY) (K : PySem.W.Frag) : Prop := obsY fa fn K = valY fn
def asY (g : Addr → Option Obj) (n : Nat) : List Addr := (He.asD g n ++ [cStatics]).eraseDups
def obsYG (n : Nat) (fa : List FaY) (fn : List DefY) (g : Addr → Option Obj) : AlY := obsY fa fn (He.frG g (asY g n))
def hookY (n : Nat) (fa : List FaY) (fn : List DefY) : PySem.W.Hook where
  α := AlY
  obs := fun s => obsYG n fa fn s.heap.get?
  val := fun _ => valY fn
  says := fun _ h => ∃ K : PySem.W.Frag, K.In h ∧ SaysY fa fn K
  of := fun _ _ e => ⟨_, He.frG_in, e⟩
  keeps := fun _ _ _ ⟨K, hK, c⟩ k => ⟨K, PySem.W.Frag.In.keeps hK k, c⟩
theorem obsYG_eq {n : Nat} {fa : List FaY} {fn : List DefY} {g : Addr → Option Obj} {s : Shared} (h : ∀ a, g a = s.heap.get? a) : obsYG n fa fn g = (hookY n fa fn).obs s := by
  have e : g = s.heap.get? := funext h
  rw [e] <;> rfl
section
variable {fa : List FaY} {fn : List DefY} {K : PySem.W.Frag}
theorem SaysY.fact (c : SaysY fa fn K) (i : Nat) {f : FaY} (h : fa[i]? = some f) : f K = true := by
  have c1 := (ba (show ((fa.all fun f => f K) && fn.all fun d => d.ok K) = true from congrArg (fun z : AlY => z.1) c)).1
  exact List.all_eq_true.mp c1 f (List.mem_of_getElem? h)
theorem SaysY.def_ (c : SaysY fa fn K) (i : Nat) {d : DefY} (h : fn[i]? = some d) : fnY K d.at_ = d.val ∧ d.ok K = true := by
  have c2 := (ba (show ((fa.all fun f => f K) && fn.all fun d => d.ok K) = true from congrArg (fun z : AlY => z.1) c)).2
  have e : fn.map (fun d => fnY K d.at_) = fn.map DefY.val := congrArg (fun z : AlY => z.2) c
  have e2 : (fn.map fun d => fnY K d.at_)[i]? = (fn.map DefY.val)[i]? := by rw [e]
  rw [List.getElem?_map, List.getElem?_map, h] at e2
  exact ⟨Option.some.inj e2, List.all_eq_true.mp c2 d (List.mem_of_getElem? h)⟩
end

/-! ### the law's own def -/
theorem repL_ints {K : PySem.W.Frag} {B : Hp} : ∀ ns : List Int, RepL K B (ns.map U.int) (ns.map V.int)
  | [] => rfl
  | x :: xs => ⟨.int x, xs.map V.int, rfl, rfl, repL_ints xs⟩
def spL (K : PySem.W.Frag) (mf : List Slot → Option CO) : Sp := fun vs H Q _ => spM K 1 mf vs H Q fun _ _ _ => False
theorem spM_law {K : PySem.W.Frag} {mf : List Slot → Option CO} {ns : List Int} (h : mf [.val (.frl (ns.map U.int))] = some (.val (.bl true) none)) {a : Addr} {H : Hp} (hS : SqL K H a (ns.map V.int)) : spL K mf [.ref a] H (fun v _ => v = .bl true) (fun _ _ _ => False) :=
  ⟨H, [.val (.frl (ns.map U.int))], _, Ex.refl, rfl, ⟨.ref a, [], rfl, ⟨a, _, rfl, hS, repL_ints ns⟩, rfl⟩, Nat.zero_le 1, h, fun v B' H' _ _ r => r⟩
theorem law0 {P : Program} {w : World} {K : PySem.W.Frag} {mg : Str → Option Value} {base : Heap} {k : Nat} {f : Addr} {fd : FuncData} {ps : List Str} {mf : List Slot → Option CO} (F : FnOk P w K mg base (L2.CX P w) k f fd ps (spM K 1 mf)) : FnOk P w K mg base CX0 k f fd ps (spL K mf) :=
  ⟨fun vs H Q E h => F.len vs H Q _ h, fun A outer s H args us vs Q E hr e0 hb r h => codeAny_mono (F.run A outer s H args us vs Q _ hr e0 hb r h) fun r s' hq => by
    cases r with
    | error e =>
      obtain ⟨_, _, _, _, _, _, _, _, _, _, _, _, z⟩ := hq
      exact z.elim
    | ok fl => cases fl <;> exact hq⟩
theorem lawN {P : Program} {w : World} {K : PySem.W.Frag} {mg : Str → Option Value} {base : Heap} {k : Nat} {f : Addr} {fd : FuncData} {ps : List Str} {mf : List Slot → Option CO} (F : FnOk P w K mg base CX0 k f fd ps (spM K 1 mf)) : FnOk P w K mg base CX0 k f fd ps (spL K mf) :=
  F.imp fun vs H Q E ⟨B, as, o, x, e, a, n, m, f⟩ => ⟨B, as, o, x, e, a, n, m, by
    cases o with
    | val u c => exact f
    | cel u c => exact f
    | ex e c => exact fun cls d B' H' g cc xr => (f cls d B' H' g cc xr).elim⟩
end Sg

set_option Elab.async false
set_option linter.all false
set_option maxRecDepth 100000
set_option maxHeartbeats 4000000
namespace Sg
open PySem L2
variable {K : PySem.W.Frag}
/-! ### what is never reached -/
def mDead : ME K where
  t := fun _ _ _ _ => False
  m := fun _ => none
  p := true
  k := true
  ok := fun _ _ _ _ _ _ _ _ e => nomatch e
def msDead : MS K where
  t := fun _ _ _ _ => False
  m := fun _ => none
  ok := fun _ _ _ _ _ _ _ _ e => nomatch e
section
variable {X : Cx} {W : WX}
theorem ddead {e : Expr} : PE X e ((mDead (K := X.K)).t W) := ⟨fun _ _ _ _ _ _ h => h.elim⟩
theorem sdead {st : Stmt} : PS X st ((msDead (K := X.K)).t W) := ⟨fun _ _ _ _ _ _ h => h.elim⟩
end
/-! ### repr of lists, tuples -/
def rRepr (K : PySem.W.Frag) : List V → Hp → VK → Prop := fun xs H Q => ∃ a d, xs = [.ref a] ∧ Dp K H (.ref a) d ∧ d.showable = true ∧ d.hasDict = false ∧ d.depth ≤ 60 ∧ d.shown.length ≤ sizeLine ∧ Q (.str d.shown) H
theorem call_reprD {X : Cx} (hu : X.A.units + 64 < cLine) (hg : X.A.guards = some []) : CallR X (.builtin "repr") (rRepr X.K) := by
  intro pins s σ H xs us Q I r h
  obtain ⟨a, d, rfl, hd, hs, hn, hk, hz, q⟩ := h
  rw [Vals.ref1 r]
  obtain ⟨as, rr⟩ := Dp.reads I d (.ref a) (.ref a) hd rfl
  exact repr_of_reads' rr hs (PyData.noDict_hsm hn) hg (by omega) (fun _ _ e => e) (fun h' u tk hk => ⟨.str _, H, I.kept hk, ⟨u, rfl⟩, q⟩) hz
/-- the text of repr, where it is known to be laid -/
def reprU (u : U) : Option Str := (pd u).bind fun d => if d.showable = true ∧ d.hasDict = false ∧ d.depth ≤ 60 ∧ d.shown.length ≤ 16777216 then some d.shown else none
def isRef : U → Bool
  | .lst _ => true
  | .frl _ => true
  | .tup _ => true
  | _ => false
theorem isRef_ok {H : Hp} {u : U} {v : V} (r : Rep K H u v) (h : isRef u = true) : ∃ a, v = .ref a := by
  cases u with
  | lst _ => obtain ⟨a, _, e, _⟩ := r; exact ⟨a, e⟩
  | frl _ => obtain ⟨a, _, e, _⟩ := r; exact ⟨a, e⟩
  | tup _ => obtain ⟨a, _, e, _⟩ := r; exact ⟨a, e⟩
  | _ => cases h
def oRepr : OpC K where
  r := rRepr K
  f := fun us => match us with
    | [u] => if isRef u = true then (reprU u).map .str else none
    | _ => none
  ok := fun H xs us w r e => by
    split at e
    · obtain ⟨v, rfl, r1⟩ := repL1 r
      split at e
      · rename_i hi
        obtain ⟨x, e1, rfl⟩ := Option.map_eq_some_iff.mp e
        obtain ⟨d, e2, e1⟩ := Option.bind_eq_some_iff.mp e1
        split at e1
        · rename_i h
          cases e1
          obtain ⟨h1, h2, h3, h4⟩ := h
          obtain ⟨a, rfl⟩ := isRef_ok r1 hi
          exact ⟨_, rfl, fun Q q => ⟨a, d, rfl, pd_ok _ _ _ r1 e2, h1, h2, h3, by rw [PySem.sizeLine_eq]; exact h4, q⟩⟩
        · cases e1
      · cases e
    · cases e
/-! ### isinstance(x, (t1, t2, ..)) of built-in types -/
def tTypes : List String → TA
  | [] => tNil
  | n :: r => tCons (tC (.ty n)) (tTypes r)
theorem tTypes_run : ∀ (ns : List String) {σ : St} {H : Hp} {Q : List V → Hp → Prop}, Q (ns.map V.ty) H → tTypes ns σ H Q
  | [], _, _, _, h => h
  | n :: r, _, _, Q, h => tTypes_run r (Q := fun vs H2 => Q (.ty n :: vs) H2) h
def isiAny (s : String) : List String → Option Bool
  | [] => some false
  | n :: r => match isiB s n with
    | some true => some true
    | some false => isiAny s r
    | none => none
theorem isiAny_ok {s : String} : ∀ {ns : List String} {b : Bool}, isiAny s ns = some b → PySem.W.kitAny K (.type s) (ns.map Value.type) = some b
  | [], _, h => by cases h; rfl
  | n :: r, b, h => by
    unfold isiAny at h
    split at h
    · rename_i e
      cases h
      exact kitAny_cons (kit_ty (isiB_ok e)) (fun z => nomatch z) fun _ => rfl
    · rename_i e
      exact kitAny_cons (kit_ty (isiB_ok e)) (fun _ => isiAny_ok h) fun z => nomatch z
    · cases h
theorem tys_paired : ∀ ns : List String, Paired ClsV (ns.map V.ty) (ns.map Value.type)
  | [] => .nil
  | n :: r => .cons (.ty n) (tys_paired r)
def mIsiT (ns : List String) (a : ME K) (h : ns.length ≤ 16777216 := by exact of_decide_eq_true rfl) : ME K where
  t := fun W => tCB (rIsiT K) (tCons (a.t W) (tCons (tTup (tTypes ns)) tNil))
  m := fun ρ => bindE (a.m ρ) fun u ρ1 => (tyU u).bind fun s => (isiAny s ns).map fun b => .ok (.bl b) ρ1
  p := a.p
  k := true
  ok := fun F W ρ σ B H Q out e R f => by
    rcases bindE_some e with ⟨u, ρ1, e1, e⟩ | ⟨x, ρ1, e1, rfl⟩
    · refine a.ok F W ρ σ B H _ _ e1 R fun v1 B1 H1 x1 p1 R1 r1 => ?_
      obtain ⟨s, es, e⟩ := Option.bind_eq_some_iff.mp e
      obtain ⟨b, eb, rfl⟩ := Option.map_eq_some_iff.mp e
      refine tTypes_run ns ⟨by rw [List.length_map, PySem.sizeLine_eq]; exact h, fun p hp => ?_⟩
      have g := Go.newB (o := .tup (ns.map V.ty)) R1.ex hp
      exact ⟨v1, p, ns.map V.ty, .type s, ns.map Value.type, b, rfl, upd_same, tys_paired ns, tyU_ok (Rep.mono g.ex _ _ (rep_up R1 r1)) es, isiAny_ok eb, f (.bl b) _ _ (x1.trans g.bb) (fun c => ⟨(p1 c).1.trans g.ex, (p1 c).2⟩) (R1.grow g) rfl⟩
    · exact a.ok F W ρ σ B H _ _ e1 R fun cls d B1 H1 x1 R1 xr => f cls d B1 H1 x1 R1 xr
/-! ### a cell lent as a value, for an answer without lists -/
def resolveL (ρ : Env) : List (U ⊕ Nat) → Option (List Slot)
  | [] => some []
  | .inl u :: r => (resolveL ρ r).map fun as => .val u :: as
  | .inr j :: r => match ρ[j]? with
    | some (.cel _ us) => (resolveL ρ r).map fun as => .val (.lst us) :: as
    | _ => none
theorem resolveL_ok {F : Fc} {ρ : Env} {σ : St} {B H : Hp} (R : Rel K F ρ σ B H) : ∀ {is : List (U ⊕ Nat)} {vs : List V} {as : List Slot}, ItemsOk K B σ is vs → resolveL ρ is = some as →
    ∃ L : List Addr, (∀ a ∈ L, B a = none ∧ ∃ o, H a = some o) ∧ ∀ Bl : Hp, Ex B Bl → (∀ a ∈ L, Bl a = H a) → ArgsOk K Bl H as vs ∧ as.length = is.length ∧ nCel as = 0 ∧ cellsOf as vs = []
  | [], _, as, h, e => by cases h; cases e; exact ⟨[], by simp, fun Bl _ _ => ⟨rfl, rfl, rfl, rfl⟩⟩
  | .inl u :: r, _, as, h, e => by
    obtain ⟨v, vr, rfl, h1, h2⟩ := h
    obtain ⟨bs, eb, rfl⟩ := Option.map_eq_some_iff.mp e
    obtain ⟨L, q0, q1⟩ := resolveL_ok R h2 eb
    refine ⟨L, q0, fun Bl xb hl => ?_⟩
    obtain ⟨z1, z2, z3, z4⟩ := q1 Bl xb hl
    exact ⟨⟨v, vr, rfl, Rep.mono xb _ _ h1, z1⟩, by simp [z2], by simpa [nCel, List.filter_cons, Slot.isC] using z3, by simpa [cellsOf] using z4⟩
  | .inr j :: r, _, as, h, e => by
    obtain ⟨v, vr, rfl, h1, h2⟩ := h
    unfold resolveL at e
    split at e
    · rename_i own us hu
      obtain ⟨bs, eb, rfl⟩ := Option.map_eq_some_iff.mp e
      obtain ⟨L, q0, q1⟩ := resolveL_ok R h2 eb
      obtain ⟨p, ws, hv, z1, z2, z3, _⟩ := R.sl j _ hu
      have ev : v = .ref p := by rw [h1] at hv; exact Option.some.inj hv
      subst ev
      refine ⟨p :: L, fun a ha => ?_, fun Bl xb hl => ?_⟩
      · rcases List.mem_cons.mp ha with rfl | ha
        · exact ⟨z2, _, z1⟩
        · exact q0 a ha
      · obtain ⟨y1, y2, y3, y4⟩ := q1 Bl xb fun a ha => hl a (List.mem_cons_of_mem _ ha)
        have hb : Bl p = some (.lst ws) := by rw [hl p List.mem_cons_self]; exact z1
        exact ⟨⟨.ref p, vr, rfl, ⟨p, ws, rfl, hb, RepL.mono xb _ _ z3⟩, y1⟩, by simp [y2], by simpa [nCel, List.filter_cons, Slot.isC] using y3, by simpa [cellsOf] using y4⟩
    · cases e
noncomputable def lendB (B H : Hp) (L : List Addr) : Hp := fun a => if a ∈ L then H a else B a
theorem lendB_ex {B H : Hp} {L : List Addr} (h : ∀ a ∈ L, B a = none ∧ ∃ o, H a = some o) : Ex B (lendB B H L) := fun a o e => by
  unfold lendB
  split
  · rename_i m
    rw [(h a m).1] at e; cases e
  · exact e
theorem lendB_up {B H : Hp} {L : List Addr} (x : Ex B H) : Ex (lendB B H L) H := fun a o e => by
  unfold lendB at e
  split at e
  · exact e
  · exact x a o e
/-- a cell handed on without being given away -/
def mcLend (j : Nat) (b : MC K) : MC K := mcCel j b
/-- f(..) with cells lent; the answer is a scalar -/
def lendM (n : Nat) (mf : List Slot → Option CO) (o : Option CA) : Option EO := o.bind fun o => match o with
  | .ex e ρ => some (.ex e ρ)
  | .ok is ρ => if is.length = n then (resolveL ρ is).bind fun as => match mf as with
      | some (.val u _) => if (scV u).isSome then some (.ok u ρ) else none
      | some (.ex e _) => some (.ex e ρ)
      | _ => none
    else none
def mCallL (n : Nat) (mf : List Slot → Option CO) (a : MC K) (hk : a.k = true := by exact id rfl) : ME K where
  t := fun W => tCallS (spM K n mf) (WE W) (a.t W)
  m := fun ρ => lendM n mf (a.m ρ)
  p := false
  k := true
  ok := fun F W ρ σ B H Q out e R f => by
    obtain ⟨o, e1, e⟩ := Option.bind_eq_some_iff.mp e
    cases o with
    | ex x ρ1 => cases e; exact a.ok F W ρ σ B H _ _ e1 R fun cls d B1 H1 x1 R1 xr => f cls d B1 H1 x1 R1 xr
    | ok is ρ1 =>
      refine a.ok F W ρ σ B H _ _ e1 R fun vs B1 H1 x1 p1 R1 r1 => ?_
      rw [hk] at r1
      dsimp only at e
      split at e
      · rename_i hn
        obtain ⟨as, ea, e⟩ := Option.bind_eq_some_iff.mp e
        obtain ⟨L, q0, q1⟩ := resolveL_ok R1 r1 ea
        have xl := lendB_ex q0
        have xu : Ex (lendB B1 H1 L) H1 := lendB_up R1.ex
        obtain ⟨z1, z2, z3, z4⟩ := q1 _ xl fun a m => if_pos m
        have go : ∀ {B' H' : Hp}, Go (cellsOf as vs) (lendB B1 H1 L) H1 B' H' → Go [] B1 H1 B1 H' := fun {B' H'} g => by
          rw [z4] at g
          exact ⟨Ex.refl, (xl.trans g.bb).trans g.bh, g.hh, g.th, fun _ _ h _ => h⟩
        split at e
        · rename_i u c em
          split at e
          · rename_i hs
            cases e
            obtain ⟨z, hz⟩ := Option.isSome_iff_exists.mp hs
            refine ⟨_, as, _, xu, z2.trans hn, z1, by omega, em, fun v B' H' g cc r => ?_⟩
            obtain ⟨rfl, r2⟩ := scV_rep (B' := B1) hz r
            exact f v B1 H' x1 (fun z => nomatch z) (R1.grow (go g)) r2
          · cases e
        · rename_i x c em
          cases e
          exact ⟨_, as, _, xu, z2.trans hn, z1, by omega, em, fun cls d B' H' g cc xr => f cls d B1 H' x1 (R1.grow (go g)) xr⟩
        · cases e
      · cases e
end Sg

set_option Elab.async false
set_option linter.all false
set_option maxRecDepth 100000
set_option maxHeartbeats 4000000
namespace Sg
open PySem L2 PySem.Spec PyProof.Rows
/-! ### defs that are called with no repr under way -/
def FnG (P : Program) (w : World) (K : PySem.W.Frag) (mg : Str → Option Value) (base : Heap) (CX : CXT) (k : Nat) (f : Addr) (sp : Sp) : Prop :=
  ∀ (A : Around) (outer : List PySem.Env) (s : Shared) (H : Hp) (us : List Value) (vs : List V) (Q : VK) (E : XK), Room k A → A.guards = some [] → Env0 P w K mg base A outer s H → Vals vs us → sp vs H Q E →
    codeAny (model P w) A (.call (.ref f) ⟨us, []⟩) (CR CX outer P w H s Q E) s
section
variable {P : Program} {w : World} {K : PySem.W.Frag} {mg : Str → Option Value} {base : Heap} {CX : CXT}
theorem fn_gd {k : Nat} {f : Addr} {fd : FuncData} {x qual : Str} {st : Stmt} {N ps : List Str} {sp : Sp} (F : Fun K x qual st f fd) (S : FnScope N ps (defScope st)) (hbd : Binds K fd ps []) (len : ∀ v1 H1 Q1 E1, sp v1 H1 Q1 E1 → v1.length = ps.length)
    (hbody : ∀ (cdv : Value) (A : Around) (outer : List PySem.Env) (s : Shared) (H : Hp) (vs : List V) (Q : VK) (E : XK), Room k (A.deeper (envOfC qual (defScope st) s.heap.objs.size f cdv)) → A.guards = some [] → sp vs H Q E →
      ∃ t, PSs (cxOf CX P w K mg base N qual (defScope st) f cdv A outer s H E) (defBody st) t ∧ t { nx := fun _ H2 => Q .non H2, rt := Q } (L2.start N vs) H) : FnG P w K mg base CX (k + 1) f sp := by
  obtain ⟨oc, od, kV, doc, pm, an, cdv, ct, osl, rfl, lk, hcd⟩ := F.ex
  intro A outer s H us vs Q E hroom hgu env0 rel hspec
  have hlen := len _ _ _ _ hspec
  have hlu : us.length = ps.length := by rw [← rel.length]; exact hlen
  have KH : K.In s.heap := env0.mod.kin.keeps fun b o e => (env0.bs b o e).1
  have nolim : s.heap.NoLimit := env0.mod.nolimit.keeps fun b o e => (env0.bs b o e).1
  have hb := hbd s us KH (by rw [List.append_nil]; exact hlu)
  rw [List.append_nil] at hb
  have hkd : ∀ y ∈ ps.zip us, (defScope st).names.lookup y.1 = some .local ∨ ((defScope st).names.lookup y.1 = some .cell ∧ ((cellsFrom (s.heap.objs.size + 1) (defScope st).names []).lookup y.1).isSome = true) := fun ⟨n, v⟩ hy => by
    rcases S.par n (List.of_mem_zip hy).1 with q1 | q1
    · exact Or.inl q1
    · exact Or.inr ⟨q1, PySem.W.cellsFrom_some _ _ _ (Or.inl q1)⟩
  refine codeAny_call_function hroom.depth (KH _ _ lk) rfl S.co S.gen rfl (PySem.W.codeRec_of KH hcd) (hb _ _ _ _ ?_)
  refine wpAny_newFunctionEnv_cells S.kind hkd fun env henv s1 x1 => ?_
  subst henv
  refine ⟨nolim.keeps x1.toInCall.keep, codeAny_func ?_⟩
  obtain ⟨t, ht, hq⟩ := hbody cdv A outer s H vs Q E (hroom.deeper _) hgu hspec
  have I : Inv (cxOf CX P w K mg base N qual (defScope st) f cdv A outer s H E) [] (L2.start N vs) H s1 := inv_start S hroom.hd env0 hlen rel x1
  refine wpAny_mono (ht.run [] s1 (L2.start N vs) H _ I hq) (fun fl s2 hs => ?_) fun e s2 hs => hs
  have done : ∀ {σ2 : L2.St} {H2 : Hp} {v : V} {u : Value}, Inv (cxOf CX P w K mg base N qual (defScope st) f cdv A outer s H E) [] σ2 H2 s2 → RelV v u → Q v H2 → CE outer P w H s Q u s2 :=
    fun {σ2 H2 v u} J rv q1 => ⟨v, H2, J.os, J.bare, J.base, J.hok, rv, q1⟩
  cases fl with
  | ret u =>
    obtain ⟨v, σ2, H2, J, rv, q1⟩ := hs
    exact done J rv q1
  | next =>
    obtain ⟨σ2, H2, J, q1⟩ := hs
    exact done (v := V.non) (u := Value.none) J rfl q1
  | brk =>
    obtain ⟨_, _, _, q1⟩ := hs
    exact q1.elim
  | cont =>
    obtain ⟨_, _, _, q1⟩ := hs
    exact q1.elim
theorem fn_g0 {x qual : Str} {st : Stmt} {f : Addr} {fd : FuncData} {N ps : List Str} {k n : Nat} (F : Fun K x qual st f fd) (S : FnScope N ps (defScope st)) (b : MS K) (hn : ps.length = n) (hN : n ≤ N.length) (hbd : Binds K fd ps [])
    (d : ∀ (cdv : Value) (A : Around) (outer : List PySem.Env) (s : Shared) (H : Hp) (E : XK), Room k (A.deeper (PyProof.Rows.envOfC qual (defScope st) s.heap.objs.size f cdv)) → A.guards = some [] → ∃ t, PSs (cxOf CX0 P w K mg base N qual (defScope st) f cdv A outer s H E).nox (defBody st) t ∧ t = b.t WNo) :
    FnG P w K mg base CX0 (k + 1) f (spM K n (mfOf0 N.length b.m)) := by
  refine fn_gd F S hbd (fun vs H Q E h => by rw [hn]; exact spM_len vs H Q E h) fun cdv A outer s H vs Q E hr hg h => ⟨b.t WNo, (by obtain ⟨t, h1, h2⟩ := d cdv A outer s H E hr hg; rw [← h2]; exact h1.nox), ?_⟩
  obtain ⟨B, as, o, x, e, a, n1, m, f⟩ := h
  unfold mfOf0 at m
  cases em : mfOf N.length b.m as with
  | none => rw [em] at m; cases m
  | some o' =>
    rw [em] at m
    cases o' with
    | ex ee c => cases m
    | val u c => cases m; exact body_fin (E := fun _ _ _ => False) (n := n) x (by omega) a n1 em f
    | cel u c => cases m; exact body_fin (E := fun _ _ _ => False) (n := n) x (by omega) a n1 em f
theorem fn_gX {x qual : Str} {st : Stmt} {f : Addr} {fd : FuncData} {N ps : List Str} {k n : Nat} (F : Fun K x qual st f fd) (S : FnScope N ps (defScope st)) (b : MS K) (hn : ps.length = n) (hN : n ≤ N.length) (hbd : Binds K fd ps [])
    (d : ∀ (cdv : Value) (A : Around) (outer : List PySem.Env) (s : Shared) (H : Hp) (E : XK), Room k (A.deeper (PyProof.Rows.envOfC qual (defScope st) s.heap.objs.size f cdv)) → A.guards = some [] → ∃ t, PSs (cxOf (L2.CX P w) P w K mg base N qual (defScope st) f cdv A outer s H E) (defBody st) t ∧ t = b.t fun cls d _ H => E cls d H) :
    FnG P w K mg base (L2.CX P w) (k + 1) f (spM K n (mfOf N.length b.m)) := by
  refine fn_gd F S hbd (fun vs H Q E h => by rw [hn]; exact spM_len vs H Q E h) fun cdv A outer s H vs Q E hr hg h => ⟨b.t fun cls d _ H => E cls d H, (by obtain ⟨t, h1, h2⟩ := d cdv A outer s H E hr hg; rw [← h2]; exact h1), ?_⟩
  obtain ⟨B, as, o, x, e, a, n1, m, f⟩ := h
  exact body_fin (n := n) x (by omega) a n1 m f
end
/-! a def of the module, called by its name -/
structure CalG (P : Program) (w : World) (K : PySem.W.Frag) (mg : Str → Option Value) (base : Heap) (CX : CXT) (k : Nat) (x : Str) (n : Nat) (mf : List Slot → Option CO) : Prop where
  mg_ : mg x = some (.ref (He.ga K x))
  kp : PySem.W.keepIn K (.ref (He.ga K x)) = true
  ok : FnG P w K mg base CX k (He.ga K x) (spM K n mf)
section
variable {X : Cx} {pos p : Pos} {x : Str} {e : Expr} {es : List Expr} {t : TA} {k n : Nat} {mf : List Slot → Option CO} {W : WX} {CX : CXT}
theorem run_fnG {f : Addr} {sp : Sp} {pins : List (Addr × Obj)} {σ : L2.St} {H : Hp} {s : Shared} {E : L2.St → XK} {Q : VK} {us : List Value} {vs : List V} (F : FnG X.prog X.w X.K X.mg X.base CX k f sp) (hr : Room k X.A) (hgu : X.A.guards = some []) (hx : PassesAt CX X σ (E σ)) (I : Inv X pins σ H s)
    (r : Vals vs us) (h : sp vs H Q (E σ)) : wpAny (model X.prog X.w) X.A (call (.ref f) us) (EP X pins σ Q) X.xe s := by
  refine wpAny_call (codeAny_mono (F X.A X.stack s H us vs Q (E σ) hr hgu I.env0 r h) fun r1 s1 hq => ?_)
  cases r1 with
  | error e => exact hx pins H s e s1 I hq
  | ok fl =>
    cases fl with
    | ret u => exact I.after hq
    | next => exact hq.elim
    | brk => exact hq.elim
    | cont => exact hq.elim
theorem pcalG (c : CalG X.prog X.w X.K X.mg X.base CX k x n mf) (hr : Room k X.A) (hgu : X.A.guards = some []) (hx : ∀ σ, PassesAt CX X σ (WE W σ)) (ha : PA X (e :: es) t) (hg : Gl X x := by rfl) (hdb : (x == ("__debug__" : Str)) = false := by decide)
    (he : starEach (e :: es) X.env = (false, eval e X.env) :: starEach es X.env := by rfl) (hpl : (backTo pos (starEach es X.env)).any (·.1) = false := by rfl) :
    PE X (.Call (.Name x p) (e :: es) [] pos) (tCallS (spM X.K n mf) (WE W) t) := by
  refine ⟨fun pins s σ H Q I h => ?_⟩
  refine wpAny_Call_Name_kw (ld_glob I hg c.mg_ ?_ hdb)
  refine PySem.W.callWith_K (h₀ := X.base) I.ok.mod.kin c.kp (thn (ha.run pos pins s σ H _ I h) fun us s1 ⟨vs, H1, I1, r, q⟩ => ⟨I1.kIn, ?_⟩) he hpl
  exact run_fnG c.ok hr hgu (hx σ) I1 r q
theorem pcalG0 (c : CalG X.prog X.w X.K X.mg X.base CX0 k x n mf) (hr : Room k X.A) (hgu : X.A.guards = some []) (ha : PA X (e :: es) t) (hg : Gl X x := by rfl) (hdb : (x == ("__debug__" : Str)) = false := by decide)
    (he : starEach (e :: es) X.env = (false, eval e X.env) :: starEach es X.env := by rfl) (hpl : (backTo pos (starEach es X.env)).any (·.1) = false := by rfl) :
    PE X (.Call (.Name x p) (e :: es) [] pos) (tCallS (spM X.K n mf) (WE W) t) := pcalG c hr hgu (fun _ _ _ _ _ _ _ h => h.elim) ha hg hdb he hpl
theorem pcalGX (c : CalG X.prog X.w X.K X.mg X.base (L2.CX X.prog X.w) k x n mf) (hr : Room k X.A) (hgu : X.A.guards = some []) (tk : Takes X W) (ha : PA X (e :: es) t) (hg : Gl X x := by rfl) (hdb : (x == ("__debug__" : Str)) = false := by decide)
    (he : starEach (e :: es) X.env = (false, eval e X.env) :: starEach es X.env := by rfl) (hpl : (backTo pos (starEach es X.env)).any (·.1) = false := by rfl) :
    PE X (.Call (.Name x p) (e :: es) [] pos) (tCallS (spM X.K n mf) (WE W) t) := pcalG c hr hgu (fun σ => passAt tk σ) ha hg hdb he hpl
end
/-! ### the head, for such a law -/
theorem law_callG {P : Program} {w : World} {K : PySem.W.Frag} {mg mb : Str → Option Value} {k : Nat} {fa a : Addr} {sp : Sp} {s1 : Shared} {vs : List Value} {ns : List Int}
    (kin : K.In s1.heap) (hns : s1.heap.Ns mainGlobals mg) (hbn : s1.heap.Ns builtinsNs mb) (hbb : ∀ y : Str, y ≠ "__name__" → mb y = bootBuiltins y) (hlim : s1.heap.NoLimit) (hgens : s1.gens = #[])
    (hobj : s1.heap.get? a = some { cls := .type "list", data := .seq vs.toArray }) (hint : IntsAre vs ns) (hsz : ns.length ≤ sizeLine) (hroom : Room k callerA)
    (F : ∀ base : Heap, K.In base → base.Ns mainGlobals mg → FnG P w K mg base CX0 k fa sp)
    (hsp : ∀ H : Hp, Only H → SqL K H a (ns.map V.int) → sp [.ref a] H (fun v _ => v = .bl true) fun _ _ _ => False) :
    codeAny (model P w) callerA (.call (.ref fa) ⟨[.ref a], []⟩) (fun res s2 => res = .ok (.ret (.bool true)) ∧ OldK s1.heap s2.heap ∧ s2.os = s1.os ∧ AllBare s2.gens) s1 := by
  have relv := vals_ints hint
  have hlv := hint.length
  have core : ∀ H : Hp, Only H → SqL K H a (ns.map V.int) → HOk P w H s1.heap → (∀ b, H b ≠ none → b = a) → (H a ≠ none → K.lookup a = none) →
      codeAny (model P w) callerA (.call (.ref fa) ⟨[.ref a], []⟩) (fun res s2 => res = .ok (.ret (.bool true)) ∧ OldK s1.heap s2.heap ∧ s2.os = s1.os ∧ AllBare s2.gens) s1 := by
    intro H hOnly hSq hHok hAt hNot
    have toB : ∀ {b : Addr} {o : Obj}, s1.heap.get? b = some o → H b = none → (hidT s1.heap H).get? b = some o := fun g1 n1 => hidT_get g1 n1
    have noD : ∀ {b : Addr} {o : Obj} {es : Array DictEntry} {ep : Nat}, s1.heap.get? b = some o → o.data = .dict es ep → H b = none := fun {b o es ep} g1 d1 => by
      cases hb1 : H b with
      | none => rfl
      | some u =>
        have hba : b = a := hAt b (by rw [hb1]; simp)
        subst hba
        rw [hobj] at g1; cases g1
        have d2 : Data.seq vs.toArray _ = Data.dict es ep := d1
        cases d2
    have nsB : ∀ {b : Addr} {m : Str → Option Value}, s1.heap.Ns b m → (hidT s1.heap H).Ns b m := fun {b m} ⟨o, es, ep, g1, d1, r1⟩ => ⟨o, es, ep, toB g1 (noD g1 d1), d1, r1⟩
    have kinB : K.In (hidT s1.heap H) := fun b o g1 => toB (kin b o g1) (by
      cases hb1 : H b with
      | none => rfl
      | some u =>
        have hba : b = a := hAt b (by rw [hb1]; simp)
        subst hba
        rw [hNot (by rw [hb1]; simp)] at g1; cases g1)
    have modB : Mod K mg (hidT s1.heap H) := ⟨kinB, nsB hns, ⟨mb, nsB hbn, hbb⟩, let ⟨mc, z1, z2⟩ := hlim; ⟨mc, nsB z1, z2⟩⟩
    have envB : Env0 P w K mg (hidT s1.heap H) callerA [] s1 H := ⟨rfl, modB, fun b o g1 => of_hidT g1, Nat.le_of_eq (hidT_size _ _), trivial, fun b hb1 => absurd (show b ∈ ([] : List Addr) from hb1) (by simp), hHok, .of_eq hgens⟩
    refine codeAny_mono (F _ kinB (nsB hns) callerA [] s1 H [.ref a] [.ref a] _ _ hroom rfl envB (.cons rfl .nil) (hsp H hOnly hSq)) fun res s2 hres => ?_
    cases res with
    | error e => exact (show False from hres).elim
    | ok fl =>
      cases fl with
      | next => exact (show False from hres).elim
      | brk => exact (show False from hres).elim
      | cont => exact (show False from hres).elim
      | ret u =>
        obtain ⟨v, H2, os2, bare2, un2, hok2, rv2, q2⟩ := hres
        have q3 : v = .bl true := q2
        subst q3
        obtain rfl : u = Value.bool true := rv2
        refine ⟨rfl, OldK.of_keep fun b o g1 => ?_, os2, bare2⟩
        cases hb1 : H b with
        | none => exact un2.keep b o g1 hb1 (by intro z; exact absurd (show b ∈ ([] : List Addr) from z) (by simp)) (by simp)
        | some u =>
          rcases hOnly b with z | ⟨ob, xs, z⟩
          · rw [hb1] at z; cases z
          · have z2 := un2.frzs b ob _ z
            obtain ⟨y1, _⟩ := hHok b _ z
            obtain ⟨y2, _⟩ := hok2 b _ z2
            rw [g1] at y1; cases y1
            exact y2
  cases hka : K.lookup a with
  | some o =>
    have g1 := kin a o hka
    rw [hobj] at g1
    cases g1
    refine core (fun _ => none) (fun _ => .inl rfl) (.inr ⟨_, vs.toArray, _, hka, rfl, rfl, rfl, by rw [List.size_toArray, hlv]; exact hsz, by simpa using relv⟩) (fun b u z => by have z2 : (none : Option HO) = some u := z; cases z2) (fun b z => absurd rfl z) fun z => absurd rfl z
  | none =>
    refine core (fun b => if b = a then some (.frz { cls := .type "list", data := .seq vs.toArray } (.lst (ns.map V.int))) else none) (fun b => ?_) (.inl (.inr ⟨{ cls := .type "list", data := .seq vs.toArray }, if_pos rfl⟩)) (fun b u z => ?_) (fun b z => ?_) fun _ => hka
    · by_cases hba : b = a
      · exact .inr ⟨_, _, if_pos hba⟩
      · exact .inl (if_neg hba)
    · by_cases hba : b = a
      · have z2 := (if_pos hba).symm.trans z
        cases z2
        subst hba
        exact ⟨hobj, by rw [List.length_map]; exact hsz, vs, _, relv, hobj⟩
      · have z2 := (if_neg hba).symm.trans z
        cases z2
    · by_cases hba : b = a
      · exact hba
      · exact absurd (if_neg hba) z
theorem walk_G {l : PySem.W.OpenLaw} {n k : Nat} {q : Program} {loose : List Str} {XP : (Str → Option Value) → Heap → Prop} {YP : World → Heap → Prop} {d : DefRec}
    (hm : l.most = some n) (hz : n ≤ sizeLine) (hdf : d.params.defaults = []) (hroom : Room k callerA)
    (F : ∀ (w : World) (mg : Str → Option Value) (fa : Addr) (h : Heap), YP w h → h.Ns mainGlobals mg → mg d.name = some (.ref fa) →
      ∃ (K : PySem.W.Frag) (sp : Sp), K.In h ∧
        (∀ (H : Hp) (a : Addr) (ns : List Int), ns.length ≤ n → Only H → SqL K H a (ns.map V.int) → sp [.ref a] H (fun v _ => v = .bl true) fun _ _ _ => False) ∧
        ∀ base : Heap, K.In base → base.Ns mainGlobals mg → FnG l.prog w K mg base CX0 k fa sp) :
    PySem.W.WalkO q loose XP YP l.row.toRowW d [] (fun f vs => PySem.call f vs) := by
  refine Att.attach_call hm hdf fun w s0 s1 mg mb fa o pm cd doc a vs ns G Y ho hd hcd hmg hobj hint hlen hgens => ?_
  obtain ⟨K, sp, kin, hsp, hF⟩ := F w mg fa _ Y G.T.g hmg
  exact law_callG kin G.T.g G.T.b G.T.builtins G.T.nolimit hgens hobj hint (Nat.le_trans hlen hz) hroom hF fun H hO hS => hsp H a ns hlen hO hS
end Sg

set_option Elab.async false
set_option linter.all false
set_option maxRecDepth 100000
set_option maxHeartbeats 4000000
namespace Sg
open PySem L2 PySem.Spec PyProof.Rows
/-! set(xs) of a list of ints (the list's counterpart of HandS.SetFor's rule for a tuple) -/
section
variable {P : Program} {w : World} {A : Around} {E : Value → Shared → Prop} {s : Shared}
theorem call_set_lstI {l : Addr} {itz : Array Value} (nz : List Int) {Q : Value → Shared → Prop} (hnd : A.handled = none) (hl : s.heap.IsList l itz) (hints : IntsAre itz.toList nz) (hbound : nz.length + 1 < scanBound)
    (h : ∀ (hh : Heap) (tz c : Nat), SetR w hh s.heap.objs.size (fun j => decide (j ∈ nz)) c → c ≤ nz.length → (∀ b o, s.heap.get? b = some o → hh.get? b = some o) → Q (.ref s.heap.objs.size) { s with heap := hh, toks := tz }) :
    wpAny (model P w) A (call (.type "set") [.ref l]) Q E s := by
  have hcnt : itz.size = nz.length := by
    have q := IntsAre.length hints
    rw [Array.length_toList] at q
    exact q
  obtain ⟨c, tl, hmr⟩ := F.called_set.mro
  have hmd := F.called_set.made
  have hsb := F.called_set.sub
  refine wpAny_call (codeAny_of_tree ?_)
  show wpAny _ _ (callAny (.type "set") _) _ _ _
  refine wpAny_pure ⟨Code.quiet_builtin _ (by decide +kernel), codeAny_builtin F.entry_type_call ?_⟩
  rw [Around.under_plain (weight_type_call_type "set" [.ref l] []) rfl]
  have hx1 := F.called_set.notType
  have hx2 := F.called_set.canCreate
  have htc := F.typeCall_set_1 (.ref l)
  repeat (any_goals (first | assumption | wp_step))

  refine codeAny_mono (code_set_led1 (.ref l) (E := E) (Q₁ := fun ob sa => ob = .ref s.heap.objs.size ∧ sa = { s with heap := s.heap.push { cls := .type "set", dict := none, data := .set #[] 0 (.fresh 0 0 (!w.params.followText "set-order")) } }) ⟨rfl, rfl⟩) fun r sa hra => ?_
  cases r with
  | error eq => exact hra
  | ok fz =>
    cases fz with
    | ret ob =>
      obtain ⟨rfl, rfl⟩ := hra
      have hput : (s.heap.push { cls := .type "set", dict := none, data := .set #[] 0 (.fresh 0 0 (!w.params.followText "set-order")) }).get? s.heap.objs.size = some { cls := .type "set", dict := none, data := .set #[] 0 (.fresh 0 0 (!w.params.followText "set-order")) } := Heap.get?_push_size _ rfl
      have htp : Shared.TypeIs { s with heap := s.heap.push { cls := .type "set", dict := none, data := .set #[] 0 (.fresh 0 0 (!w.params.followText "set-order")) } } (.ref s.heap.objs.size) "set" := ⟨_, hput, rfl⟩
      have hlk := F.called_set.init.lookup
      have hbd := F.called_set.init.bind (.ref s.heap.objs.size)
      repeat (any_goals (first | assumption | wp_step))

      refine codeAny_mono (codeAny_call_builtin (R := wants (fun r sb => r = .none ∧ ∃ hh tz c, sb = { s with heap := hh, toks := tz } ∧ SetR w hh s.heap.objs.size (fun j => decide (j ∈ nz)) c ∧ c ≤ nz.length ∧
          (∀ b o, s.heap.get? b = some o → hh.get? b = some o)) E) F.called_set.init.plain F.entry_set_init (check_set_init_1 htp ?_)) fun rb sb hrb => ?_
      · obtain ⟨ob0, hoz, hkc, n0, hkd⟩ := hl
        obtain ⟨kcls, kdict, kdata, kslots⟩ := ob0
        simp only at hkc hkd
        subst hkc; subst hkd
        have hoz' : (s.heap.push { cls := .type "set", dict := none, data := .set #[] 0 (.fresh 0 0 (!w.params.followText "set-order")) }).get? l = some { cls := .type "list", dict := kdict, data := .seq itz n0, slots := kslots } := Heap.get?_push_of_some _ hoz
        have hs1 := F.sub_list_set
        have hs2 := F.sub_list_frozenset
        have hdn : (Value.type "list" == Value.type "dict") = false := by decide
        have hlz1 : (s.heap.push { cls := .type "set", dict := none, data := .set #[] 0 (.fresh 0 0 (!w.params.followText "set-order")) }).IsList l itz := ⟨_, hoz', rfl, n0, rfl⟩
        unfold Builtin.«set.__init__» noKeywords Builtin.Frozenset.updateFrom
        generalize hgp : pyIter = gp
        wp_walk
        subst hgp

        refine wpAny_pyIter_list hlz1 ?_
        refine wpAny_bind (wpAny_runValue ?_)
        have hbel : l < s.heap.objs.size := Heap.lt_size hoz
        have hq3 : A.in1.in1.in1.handled = none := by simp [hnd]
        have hsz1 : (s.heap.push { cls := .type "set", dict := none, data := .set #[] 0 (.fresh 0 0 (!w.params.followText "set-order")) }).objs.size = s.heap.objs.size + 1 := Heap.size_push ..
        have hnI : l ≠ (s.heap.push { cls := .type "set", dict := none, data := .set #[] 0 (.fresh 0 0 (!w.params.followText "set-order")) }).objs.size := by
          rw [Heap.size_push]; exact Nat.ne_of_lt (Nat.lt_succ_of_lt hbel)
        have hnf : s.heap.objs.size ∉ [(s.heap.push { cls := .type "set", dict := none, data := .set #[] 0 (.fresh 0 0 (!w.params.followText "set-order")) }).objs.size, l] := by
          rw [Heap.size_push]; simp only [List.mem_cons, List.mem_singleton, List.not_mem_nil, or_false, not_or]
          exact ⟨Nat.ne_of_lt (Nat.lt_succ_self _), Nat.ne_of_gt hbel⟩
        have hvz : ∀ (i : Nat) (v : Value), itz[i]? = some v → ∃ k t, nz[i]? = some k ∧ v = .int k t := fun i v hvv => by
          have hii : i < nz.length := by rw [← hcnt]; exact (Array.getElem?_eq_some_iff.mp hvv).1
          obtain ⟨t, eq⟩ := PyProof.Rows.IntsAre.int_at hints i v (by rw [Array.getElem?_toList]; exact hvv)
          refine ⟨nz[i], t, List.getElem?_eq_getElem hii, ?_⟩
          rw [eq, List.getD_eq_getElem?_getD, List.getElem?_eq_getElem hii] <;> rfl
        refine set_update_ints ((Walks.list hq3 _ l hnI itz).toS) s.heap.objs.size
          hnf nz hcnt hbound hvz (itz.size - 0) 0 _ (by omega) (Nat.zero_le _)
          ⟨⟨_, Heap.get?_push_size _ rfl, rfl, rfl⟩, (hlz1.push _)⟩ ?hst0 ?hend
        case hst0 =>
          have hgt : ((s.heap.push { cls := .type "set", dict := none, data := .set #[] 0 (.fresh 0 0 (!w.params.followText "set-order")) }).push { cls := .type "list_iterator", data := .fields #[.ref l, .int 0 0] }).get? s.heap.objs.size
              = some { cls := .type "set", dict := none, data := .set #[] 0 (.fresh 0 0 (!w.params.followText "set-order")) } := Heap.get?_push_of_some _ hput
          exact ⟨0, Nat.le_refl 0, setR_new_at hgt⟩
        case hend =>
          intro ss cc hmv hcc hS'
          obtain ⟨hh, gg, dd, tkk, oss⟩ := ss
          have eg1 : gg = s.gens := hmv.gens
          have ed1 : dd = s.drawn := hmv.drawn
          have eo1 : oss = s.os := hmv.os
          subst eg1; subst ed1; subst eo1
          show wpAny _ _ _ _ _ _
          refine wpAny_pure ?_
          show wpAny _ _ (ret Value.none) _ _ _
          rw [hcnt] at hcc
          refine wpAny_pure ⟨rfl, hh, tkk, cc, rfl, hS', hcc, fun b o eq => ?_⟩
          have hlt0 : b < s.heap.objs.size := Heap.lt_size eq
          have hnb1 : b ≠ s.heap.objs.size := Nat.ne_of_lt hlt0
          have hnb2 : b ≠ (s.heap.push { cls := .type "set", dict := none, data := .set #[] 0 (.fresh 0 0 (!w.params.followText "set-order")) }).objs.size := by
            rw [Heap.size_push]; exact Nat.ne_of_lt (Nat.lt_succ_of_lt hlt0)
          exact hmv.heap b o (by simp only [List.mem_cons, List.mem_singleton, List.not_mem_nil, or_false, not_or]; exact ⟨hnb1, hnb2⟩) (Heap.get?_push_of_some _ (Heap.get?_push_of_some _ eq))

      · cases rb with
        | error eq => exact hrb
        | ok fb =>
          cases fb with
          | ret r =>
            obtain ⟨rfl, hh, tz, cc, rfl, hS', hcc, hkk⟩ := hrb
            repeat (any_goals (first | assumption | wp_step))
            exact h _ _ _ hS' hcc hkk
          | _ => exact hrb.elim
    | _ => exact hra.elim

end
end Sg

set_option Elab.async false
set_option linter.all false
set_option maxRecDepth 100000
set_option maxHeartbeats 4000000
namespace Sg
open PySem L2 PySem.Spec PyProof.Rows
/-! sorted of a set of ints, of any size -/
section
variable {P : Program} {w : World} {A : Around} {E : Value → Shared → Prop} {s : Shared} {a : Addr}
theorem sorted_setAny {S : Int → Bool} {n : Nat} {Q : Value → Shared → Prop} (R : SetR w s.heap a S n) (hnd : A.handled = none) (hbig : n ≤ 1000)
    (hQ : ∀ s' p (out : Array Value) (c : Nat) (zs : List Int), (∀ b o, s.heap.get? b = some o → s'.heap.get? b = some o) → s'.gens = s.gens → s'.os = s.os → s.heap.objs.size ≤ p →
      s'.heap.get? p = some (seqObj "list" out c) → IntsAre out.toList zs → zs.Pairwise (· < ·) → (∀ k, k ∈ zs ↔ S k = true) → Q (.ref p) s') : wpAny (model P w) A (call (.builtin "sorted") [.ref a]) Q E s := by
  obtain ⟨o, es, ep, t, ho, hex, hd, g, nd, hmem, hb, hf, hn, hr, hl⟩ := R
  refine Calls.call_function_entry kind_sorted plain_sorted entry_sorted (args_sorted1 _) ?_
  unfold Builtin.«sorted»
  refine wpAny_bind (m := checkCount "sorted" 1 1 _) (wpAny_pure ?_)
  refine wpAny_bind (collect_set (A := A.in1) hnd ⟨o, ho, hex.1, hd⟩ hf hb hr hl fun sc vs hkeep hsz hgen hos hperm => ?_)
  have hcnt : vs.length = n := by rw [hperm.length_eq, List.length_map, Array.length_toList]; exact hn
  have hfit : vs.length ≤ sizeLine := by rw [hcnt, sizeLine_eq]; omega
  have hI : IntsAre vs (vs.map Builtin.Re.reRawOf) := ints_of vs fun v hv => by
    obtain ⟨e, he, q⟩ := List.mem_map.mp (hperm.mem_iff.mp hv)
    obtain ⟨k, tk, z1, _⟩ := g e he
    exact ⟨k, tk, by rw [← q]; exact z1⟩
  have hkeys : (vs.map Builtin.Re.reRawOf).Perm (es.toList.map keyOf) := by
    have q := hperm.map Builtin.Re.reRawOf
    rw [List.map_map] at q
    exact q
  refine wpAny_bind (wpAny_newList ?_ hfit)
  have hoL : (sc.heap.push (seqObj "list" vs.toArray 0)).get? sc.heap.objs.size = some (seqObj "list" vs.toArray 0) := Heap.get?_push_size _ rfl
  refine wpAny_bind (wpAny_holding (wpAny_call_entry slot_list_sort ⟨_, hoL, rfl⟩ entry_list_sort (SrtO.list_sort_ord SrtO.swo_int hoL hfit (fun h2 => SrtO.ints_sortable hI h2) fun out o1 o2 => ⟨_, rfl, ?_⟩) (args_list_sort _)))
  obtain ⟨k1, k2, k3⟩ := SrtO.ints_out hI o1 o2
  obtain ⟨c, hc⟩ := sortedHeap_at (vs := vs) (out := out.toArray) hoL
  have pn : (out.map SrtO.iv).Perm (es.toList.map keyOf) := k2.trans hkeys
  refine wpAny_pure ⟨_, rfl, hQ _ sc.heap.objs.size out.toArray c _ (fun b u e => ?_) hgen hos hsz hc (by simpa using k1) (lt_of_le_nodup _ k3 (pn.nodup_iff.mpr nd)) fun k => by rw [pn.mem_iff, ← hmem k]⟩
  have q := hkeep b u e
  have hlt := Heap.lt_size q
  show (sortedHeap (sc.heap.push (seqObj "list" vs.toArray 0)) sc.heap.objs.size vs out.toArray).get? b = some u
  rw [sortedHeap_old (Nat.ne_of_lt hlt) (by rw [size_push']; exact Nat.lt_succ_of_lt hlt)]
  exact Heap.get?_push_of_some _ q
end
def rSetL (K : PySem.W.Frag) (w : World) : List V → Hp → VK → Prop := fun xs H Q => ∃ (a : Addr) (ns : List Int), xs = [V.ref a] ∧ SqL K H a (ns.map V.int) ∧ ns.length ≤ 1000 ∧
  ∀ p c, c ≤ ns.length → H p = none → Q (.ref p) (upd H p (SetO w p (fun j => decide (j ∈ ns)) c))
theorem cr_setL {X : Cx} (hc : X.calm = true) : CallR X (.type "set") (rSetL X.K X.w) := by
  intro pins s σ H xs us Q I r h
  obtain ⟨a, ns, rfl, hs, hl, q⟩ := h
  obtain ⟨its, rv, pl, hz⟩ := I.list hs
  rw [Vals.ref1 r]
  refine call_set_lstI ns (I.ok.hd hc) pl.isList (by simpa using rv.ints) (by unfold scanBound; omega) fun h' tk c R1 hcn k => ?_
  have hn : H s.heap.objs.size = none := I.hok.fresh (Nat.le_refl _)
  exact ⟨.ref _, upd H s.heap.objs.size (SetO X.w s.heap.objs.size (fun j => decide (j ∈ ns)) c), I.laid (t' := tk) k (Nat.le_refl _) (setO_new R1), rfl, q _ c hcn hn⟩
def rSortSet (w : World) : List V → Hp → VK → Prop := fun vs H Q => ∃ (a : Addr) (S : Int → Bool) (n : Nat), vs = [V.ref a] ∧ H a = some (SetO w a S n) ∧ n ≤ 1000 ∧
  ∀ (zs : List Int) (p : Addr), zs.Pairwise (· < ·) → (∀ k : Int, k ∈ zs ↔ S k = true) → zs.length ≤ sizeLine → H p = none → Q (.ref p) (upd H p (.lst (zs.map V.int)))
theorem cr_sortSet {X : Cx} (hc : X.calm = true) : CallR X (.builtin "sorted") (rSortSet X.w) := by
  intro pins s σ H vs us Q I r h
  obtain ⟨a, S, n, rfl, ha, hz, q⟩ := h
  have R := setO_get I ha
  rw [Vals.ref1 r]
  refine sorted_setAny R (I.ok.hd hc) hz fun s' p out c zs k g o hp hg hi hs hm => ?_
  have hlen : zs.length ≤ sizeLine := by
    obtain ⟨ob, es, ep, t, ho, hex, hd, gg, nd, hmem, hb, hf, hn, hr, hl⟩ := R
    have : zs.Perm (es.toList.map keyOf) := by
      refine (List.perm_ext_iff_of_nodup (hs.imp fun h => Int.ne_of_lt h) nd).mpr fun k => ?_
      rw [hm k, ← hmem k]
    rw [this.length_eq, List.length_map, Array.length_toList, hn, sizeLine_eq]
    omega
  have hlen2 : (zs.map V.int).length ≤ sizeLine := by rw [List.length_map]; exact hlen
  have hn : H p = none := I.hok.fresh hp
  have J : Inv X pins σ (upd H p (.lst (zs.map V.int))) { s with heap := s'.heap, gens := s'.gens, drawn := s'.drawn, toks := s'.toks } :=
    I.call (ch := []) (Un.laid k hp hn) (I.hok.laid k hp ⟨hlen2, out.toList, c, vals_of_ints hi, hg⟩) (by rw [g]; exact I.bare) (fun _ z => nomatch z)
  have es : s' = { s with heap := s'.heap, gens := s'.gens, drawn := s'.drawn, toks := s'.toks } := by
    cases s'; cases s; cases o; rfl
  rw [es]
  exact ⟨.ref p, _, J, rfl, q zs p hs hm hlen hn⟩
/-- sorted(set(e)), e a list of ints -/
def tSortSet (K : PySem.W.Frag) (te : TE) : TE := fun σ H Q => te σ H fun x H1 => ∃ (a : Addr) (ns : List Int), x = V.ref a ∧ SqL K H1 a (ns.map V.int) ∧ ns.length ≤ 1000 ∧
  ∀ (zs : List Int) (p q : Addr) (o : HO), zs.Pairwise (· < ·) → (∀ k : Int, k ∈ zs ↔ k ∈ ns) → zs.length ≤ sizeLine → H1 q = none → upd H1 q o p = none → Q (.ref p) (upd (upd H1 q o) p (.lst (zs.map V.int)))
theorem pe_imp {X : Cx} {e : Expr} {t t2 : TE} (h : PE X e t) (f : ∀ (σ : L2.St) H Q, t2 σ H Q → t σ H Q) : PE X e t2 := ⟨fun pins s σ H Q I q => h.run pins s σ H Q I (f σ H Q q)⟩

def dedI : List Int → List Int
  | [] => []
  | x :: r => if x ∈ r then dedI r else x :: dedI r
theorem mem_dedI (k : Int) : ∀ l, k ∈ dedI l ↔ k ∈ l
  | [] => Iff.rfl
  | x :: r => by
    unfold dedI
    split
    · rename_i h
      rw [mem_dedI k r, List.mem_cons]
      exact ⟨.inr, fun z => z.elim (fun z => z ▸ h) id⟩
    · rw [List.mem_cons, List.mem_cons, mem_dedI k r]
theorem nodup_dedI : ∀ l, (dedI l).Nodup
  | [] => List.nodup_nil
  | x :: r => by
    unfold dedI
    split
    · exact nodup_dedI r
    · rename_i h
      exact List.nodup_cons.mpr ⟨fun z => h ((mem_dedI x r).mp z), nodup_dedI r⟩
def sortSetU (us : List U) : Option (List Int) := (intsU us).bind fun is => if is.length ≤ 1000 then some (sortI (dedI is)) else none
theorem strict_uniq : ∀ {l m : List Int}, l.Pairwise (· < ·) → m.Pairwise (· < ·) → (∀ k, k ∈ l ↔ k ∈ m) → l = m
  | l, m, h1, h2, h => by
    have p : l.Perm m := (List.perm_ext_iff_of_nodup (h1.imp fun h => Int.ne_of_lt h) (h2.imp fun h => Int.ne_of_lt h)).mpr h
    exact sortI_uniq p (h1.imp fun h => Int.le_of_lt h) (h2.imp fun h => Int.le_of_lt h)
theorem ints_rep {K : PySem.W.Frag} {B : Hp} : ∀ l : List Int, RepL K B (l.map U.int) (l.map V.int)
  | [] => rfl
  | x :: l => ⟨_, _, rfl, rfl, ints_rep l⟩
theorem nodup_lt : ∀ {l : List Int}, l.Nodup → (sortI l).Pairwise (· < ·) := fun {l} h => by
  have h2 : (sortI l).Nodup := (sortI_perm l).nodup_iff.mpr h
  have h3 := sortI_sorted l
  exact h3.imp₂ (fun a b => by omega) h2
def mSortSet {K : PySem.W.Frag} (a : ME K) (ha : a.k = true := by exact id rfl) : MF K where
  t := fun W => tSortSet K (a.t W)
  m := fun ρ => match a.m ρ with
    | some (.ok u ρ1) => (lstU u).bind fun us => (sortSetU us).map fun l => .ok (l.map U.int) ρ1
    | some (.ex e ρ1) => some (.ex e ρ1)
    | none => none
  p := a.p
  ok := fun F W ρ σ B H Q out e R f => by
    split at e
    · rename_i u ρ1 e1
      obtain ⟨us, e2, e⟩ := Option.bind_eq_some_iff.mp e
      obtain ⟨l, e3, rfl⟩ := Option.map_eq_some_iff.mp e
      obtain ⟨is, e4, e3⟩ := Option.bind_eq_some_iff.mp e3
      split at e3
      · rename_i hl
        cases e3
        refine a.ok F W ρ σ B H _ _ e1 R fun v1 B1 H1 x1 p1 R1 r1 => ?_
        rw [ha] at r1
        obtain ⟨q, vs, rfl, h1, h2⟩ := lstU_ok r1 e2
        refine ⟨q, is, rfl, by rw [← intsU_ok h2 e4]; exact Ex.l R1.ex h1, hl, fun zs p q2 o hs hm hz hq hp => ?_⟩
        have ez : zs = sortI (dedI is) := strict_uniq hs (nodup_lt (nodup_dedI is)) fun k => by
          rw [hm k, (sortI_perm (dedI is)).mem_iff, mem_dedI]
        subst ez
        have g := Go.newC (o := o) R1.ex hq
        exact newF f x1 (fun c => ⟨(p1 c).1.trans g.ex, (p1 c).2⟩) (R1.grow g) (ints_rep _) hp
      · cases e3
    · rename_i x ρ1 e1
      cases e
      exact a.ok F W ρ σ B H _ _ e1 R f
    · cases e
/-- a reading, and what follows from what it hands on -/
def tUp (te : TE) : TE := fun σ H Q => ∃ Q0 : VK, te σ H Q0 ∧ ∀ x H1, Q0 x H1 → Q x H1
theorem pe_up {X : Cx} {e : Expr} {te : TE} (h : PE X e te) : PE X e (tUp te) := ⟨fun pins s σ H Q I ⟨Q0, q, f⟩ => thn (h.run pins s σ H Q0 I q) fun _ _ ⟨x, H1, I1, r, z⟩ => ⟨x, H1, I1, r, f x H1 z⟩⟩
section
variable {X : Cx} {W : WX} {pos p2 p3 p4 : Pos} {e : Expr} {A : ME X.K}
theorem dsset {h} (hm : X.mg "sorted" = none) (hm2 : X.mg "set" = none) (ha : PE X e (A.t W)) (hc : X.calm = true := by rfl) (hg : Gl X "sorted" := by rfl) (hg2 : Gl X "set" := by rfl)
    (h1 : starEach [e] X.env = (false, eval e X.env) :: starEach [] X.env := by rfl)
    (h2 : starEach [.Call (.Name "set" p3) [e] [] p2] X.env = (false, eval (.Call (.Name "set" p3) [e] [] p2) X.env) :: starEach [] X.env := by rfl) :
    PE X (.Call (.Name "sorted" p4) [.Call (.Name "set" p3) [e] [] p2] [] pos) ((mSortSet A h).t W) := by
  refine pe_imp (pe_callB (cr_sortSet hc) hg hm (by decide +kernel) (pa_cons (pe_callTy (cr_setL hc) hg2 hm2 (by decide +kernel) (pa_cons (pe_up ha) pa_nil h1) (by decide) (by decide) h1 rfl) pa_nil h2) (by decide) (by decide) h2 rfl) fun σ H Q q => ?_
  refine ⟨_, q, fun x H1 ⟨a, ns, ex, hs, hl, k⟩ => ?_⟩
  refine ⟨a, ns, by rw [ex], hs, hl, fun p c hc hp => ?_⟩
  exact ⟨p, fun j => decide (j ∈ ns), c, rfl, upd_same, by omega, fun zs p2 hs2 hm hz hp2 => k zs p2 p _ hs2 (fun k => by rw [hm k, decide_eq_true_eq]) hz hp hp2⟩
end
end Sg

set_option Elab.async false
set_option linter.all false
set_option maxRecDepth 100000
set_option maxHeartbeats 4000000
namespace Sg
open PySem L2
variable {K : PySem.W.Frag}
/-! ### an own object becomes known -/
theorem Rel.know {F : Fc} {ρ : Env} {σ : St} {B H : Hp} {q : Addr} {o : HO} (R : Rel K F ρ σ B H) (h1 : H q = some o) (h2 : B q = none) (h3 : F.H0 q = none) (h4 : ∀ (j : Nat) s, ρ[j]? = some s → s.isC = true → σ.getD j none ≠ some (.ref q)) (h5 : ∀ u, (q, u) ∉ F.X) :
    Rel K F ρ σ (upd B q o) H := by
  have xb : Ex B (upd B q o) := Ex.new h2
  refine ⟨R.len, fun b u e => ?_, fun i s e => ?_, R.ds, R.bb.trans xb, R.hh, R.th, fun b u n e => ?_, fun b u e => ?_, R.xs, R.xd⟩
  · by_cases c : b = q
    · subst c; rw [upd_same] at e; cases e; exact h1
    · rw [upd_ne c] at e; exact R.ex b u e
  · have z := R.sl i s e
    cases s with
    | non => trivial
    | val u => obtain ⟨v, e1, r⟩ := z; exact ⟨v, e1, Rep.mono xb _ _ r⟩
    | cel own us2 =>
      obtain ⟨p, ws2, e1, z1, z2, z3, z4⟩ := z
      have np : p ≠ q := fun c => h4 i _ e rfl (by rw [e1, c])
      exact ⟨p, ws2, e1, z1, by rw [upd_ne np]; exact z2, RepL.mono xb _ _ z3, z4⟩
    | celD own us2 =>
      obtain ⟨p, ws2, e1, z1, z2, z3, z4⟩ := z
      have np : p ≠ q := fun c => h4 i _ e rfl (by rw [e1, c])
      exact ⟨p, ws2, e1, z1, by rw [upd_ne np]; exact z2, RepD.mono xb _ _ z3, z4⟩
  · have np : b ≠ q := fun c => by rw [c, h3] at e; cases e
    rw [upd_ne np]; exact R.nw b u n e
  · obtain ⟨z1, z2, z3⟩ := R.xx b u e
    have np : b ≠ q := fun c => by rw [c] at e; exact h5 u e
    exact ⟨z1, by rw [upd_ne np]; exact z2, z3⟩
/-! ### {k: e, ..} with constant keys -/
def FinP (K : PySem.W.Frag) (F : Fc) (W : WX) (ks : List Key) (σ : St) (B H : Hp) (Q : List (V × V) → Hp → Prop) : AO → Prop
  | .ok us ρ' => ∀ vs B' H', Ex B B' → Rel K F ρ' σ B' H' → RepL K B' us vs → vs.length = ks.length → Q ((ks.map kV).zip vs) H'
  | .ex e ρ' => ∀ cls d B' H', Ex B B' → Rel K F ρ' σ B' H' → XRel K e cls d H' → W cls d σ H'
structure MP (K : PySem.W.Frag) where
  ks : List Key
  t : WX → List (TE × TE)
  m : Env → Option AO
  ok : ∀ (F : Fc) (W : WX) (ρ : Env) (σ : St) (B H : Hp) (Q : List (V × V) → Hp → Prop) (o : AO), m ρ = some o → Rel K F ρ σ B H → FinP K F W ks σ B H Q o → tPairs (t W) σ H Q
def mpNil : MP K where
  ks := []
  t := fun _ => []
  m := fun ρ => some (.ok [] ρ)
  ok := fun F W ρ σ B H Q o e R f => by cases e; exact f [] B H Ex.refl R rfl rfl
def mpCons (k : Key) (a : ME K) (b : MP K) (ha : a.k = true := by exact id rfl) : MP K where
  ks := k :: b.ks
  t := fun W => (tC (kV k), a.t W) :: b.t W
  m := fun ρ => match a.m ρ with
    | none => none
    | some (.ex e ρ1) => some (.ex e ρ1)
    | some (.ok u ρ1) => match b.m ρ1 with
      | none => none
      | some (.ex e ρ2) => some (.ex e ρ2)
      | some (.ok us ρ2) => some (.ok (u :: us) ρ2)
  ok := fun F W ρ σ B H Q out e R f => by
    show a.t W σ H _
    split at e
    · cases e
    · rename_i x ρ1 e1
      cases e
      exact a.ok F W ρ σ B H _ _ e1 R fun cls d B1 H1 x1 R1 xr => f cls d B1 H1 x1 R1 xr
    · rename_i u ρ1 e1
      refine a.ok F W ρ σ B H _ _ e1 R fun v1 B1 H1 x1 p1 R1 r1 => ?_
      rw [ha] at r1
      split at e
      · cases e
      · rename_i x ρ2 e2
        cases e
        exact b.ok F W ρ1 σ B1 H1 _ _ e2 R1 fun cls d B2 H2 x2 R2 xr => f cls d B2 H2 (x1.trans x2) R2 xr
      · rename_i us ρ2 e2
        cases e
        refine b.ok F W ρ1 σ B1 H1 _ _ e2 R1 fun vs B2 H2 x2 R2 r2 hl => ?_
        exact f (v1 :: vs) B2 H2 (x1.trans x2) R2 ⟨v1, vs, rfl, Rep.mono x2 _ _ r1, r2⟩ (by simp [hl])
theorem valV_app (k : Key) : ∀ (a : List (Key × V)), k ∉ a.map (·.1) → valV a k = none
  | [], _ => rfl
  | p :: a, h => by
    rw [valV_neg (fun z => h (by simp [z])), valV_app k a (fun z => h (by simp; exact .inr (by simpa using z)))]
theorem mergeK_nodup : ∀ (more acc : List (Key × V)), ((acc ++ more).map (·.1)).Nodup → mergeK acc more = acc ++ more
  | [], acc, _ => by simp [mergeK]
  | p :: r, acc, h => by
    have hn : p.1 ∉ acc.map (·.1) := by
      rw [List.map_append, List.map_cons] at h
      have := (List.nodup_append.mp h).2.2
      exact fun z => this _ z _ (List.mem_cons_self) rfl
    have e1 : putK acc p.1 p.2 = acc ++ [(p.1, p.2)] := putK_new p.2 (valV_app p.1 acc hn)
    show mergeK (putK acc p.1 p.2) r = _
    rw [e1, mergeK_nodup r (acc ++ [(p.1, p.2)]) (by rw [List.append_assoc]; exact h), List.append_assoc]
    rfl
theorem repD_zip {B : Hp} : ∀ {us : List U} {vs : List V} (ks : List Key), RepL K B us vs → RepD K B (ks.zip us) (ks.zip vs)
  | [], _, ks, h => by cases h; simp [RepD]
  | u :: us, _, [], h => by simp [RepD]
  | u :: us, _, k :: ks, h => by
    obtain ⟨v, vr, rfl, h1, h2⟩ := h
    exact ⟨v, _, rfl, h1, repD_zip ks h2⟩
def mDict (ks0 : List Key) (P : MP K) (hk : P.ks = ks0 := by exact id rfl) (h15' : ks0.length ≤ 15 := by decide) (hn' : ks0.Nodup := by decide +kernel) : ME K where
  t := fun W => tDisp (P.t W)
  m := fun ρ => match P.m ρ with
    | none => none
    | some (.ex e ρ1) => some (.ex e ρ1)
    | some (.ok us ρ1) => some (.ok (.dic (P.ks.zip us)) ρ1)
  p := false
  k := true
  ok := fun F W ρ σ B H Q out e R f => by
    intro p hp
    have h15 : P.ks.length ≤ 15 := by rw [hk]; exact h15'
    have hn : P.ks.Nodup := by rw [hk]; exact hn'
    have R' := R.addX (o := .dK []) hp
    split at e
    · cases e
    · rename_i x ρ1 e1
      cases e
      exact P.ok _ W ρ σ B _ _ _ e1 R' fun cls d B1 H1 x1 R1 xr => f cls d B1 H1 x1 R1.popX xr
    · rename_i us ρ1 e1
      cases e
      refine P.ok _ W ρ σ B _ _ _ e1 R' fun vs B2 H2 x2 R2 r2 hl => ?_
      obtain ⟨y1, y2, y3⟩ := R2.getX
      have ek : (P.ks.zip vs).map (·.1) = P.ks := by rw [List.map_fst_zip]; omega
      refine ⟨y1, P.ks.zip vs, ?_, by rw [List.length_zip]; omega, ?_⟩
      · have : ∀ (ks : List Key) (vs : List V), (ks.map kV).zip vs = (ks.zip vs).map fun kv => (kV kv.1, kv.2) := by
          intro ks
          induction ks with
          | nil => intro vs; rfl
          | cons k ks ih => intro vs; cases vs with
            | nil => rfl
            | cons v vs => simp [ih]
        exact this P.ks vs
      · rw [mergeK_nodup _ [] (by rw [List.nil_append, ek]; exact hn), List.nil_append]
        have R3 := R2.updX (o' := .dK (P.ks.zip vs))
        have y4 := R3.xs p _ List.mem_cons_self
        have y5 := R3.notX
        have R4 := R3.popX.know upd_same y2 y3 y4 y5
        have xb : Ex B2 (upd B2 p (.dK (P.ks.zip vs))) := Ex.new y2
        exact f (.ref p) _ _ (x2.trans xb) (fun z => nomatch z) R4 ⟨p, _, rfl, upd_same, RepD.mono xb _ _ (repD_zip P.ks r2)⟩
/-! d.get(k, x) -/
def keyU : U → Option Key
  | .int i => some (.inl i)
  | .str s => some (.inr s)
  | _ => none
theorem keyU_ok {H : Hp} {u : U} {v : V} {k : Key} (r : Rep K H u v) (e : keyU u = some k) : v = kV k := by
  cases u <;> first | (cases e; cases r; rfl) | cases e
def valU : List (Key × U) → Key → Option U
  | [], _ => none
  | p :: r, k => if p.1 = k then some p.2 else valU r k
theorem valU_ok {B : Hp} {k : Key} : ∀ {kvs : List (Key × U)} {ws : List (Key × V)}, RepD K B kvs ws → (valU kvs k = none → valV ws k = none) ∧ ∀ u, valU kvs k = some u → ∃ v, valV ws k = some v ∧ Rep K B u v
  | [], _, h => by cases h; exact ⟨fun _ => rfl, fun u e => by cases e⟩
  | (j, u) :: r, _, h => by
    obtain ⟨v, vr, rfl, h1, h2⟩ := h
    obtain ⟨z1, z2⟩ := valU_ok (k := k) h2
    unfold valU
    by_cases c : j = k
    · rw [if_pos c]
      refine ⟨fun z => (by cases z), fun w e => ?_⟩
      cases e
      exact ⟨v, valV_pos c, h1⟩
    · rw [if_neg c, valV_neg (p := (j, v)) c]
      exact ⟨z1, z2⟩
def mGet2 (d k x : ME K) (hd : d.k = true := by exact id rfl) (hx : x.k = true := by exact id rfl) : ME K where
  t := fun W => tDGet2 (d.t W) (k.t W) (x.t W)
  m := fun ρ => bindE (d.m ρ) fun u ρ1 => match u with
    | .dic kvs => bindE (k.m ρ1) fun y ρ2 => bindE (x.m ρ2) fun z ρ3 => (keyU y).map fun k => .ok ((valU kvs k).getD z) ρ3
    | _ => none
  p := false
  k := true
  ok := fun F W ρ σ B H Q out e R f => by
    rcases bindE_some e with ⟨u, ρ1, e1, e⟩ | ⟨x, ρ1, e1, rfl⟩
    · refine d.ok F W ρ σ B H _ _ e1 R fun v1 B1 H1 x1 p1 R1 r1 => ?_
      rw [hd] at r1
      cases u with
      | dic kvs =>
        obtain ⟨a, ws, rfl, h1, h2⟩ := r1
        refine ⟨a, rfl, .inl ⟨ws, .inl (R1.ex _ _ h1)⟩, ?_⟩
        rcases bindE_some e with ⟨y, ρ2, e2, e⟩ | ⟨xn, ρ2, e2, rfl⟩
        · refine k.ok F W ρ1 σ B1 H1 _ _ e2 R1 fun v2 B2 H2 x2 p2 R2 r2 => ?_
          rcases bindE_some e with ⟨z, ρ3, e3, e⟩ | ⟨xn, ρ3, e3, rfl⟩
          · refine x.ok F W ρ2 σ B2 H2 _ _ e3 R2 fun v3 B3 H3 x3 p3 R3 r3 => ?_
            rw [hx] at r3
            obtain ⟨key, ek, rfl⟩ := Option.map_eq_some_iff.mp e
            have e4 := keyU_ok (rep_up R2 r2) ek
            have h3 := RepD.mono (x2.trans x3) _ _ h2
            obtain ⟨q1, q2⟩ := valU_ok (k := key) h3
            have hB := (x2.trans x3) _ _ h1
            refine ⟨valV ws key, .inl ⟨ws, key, .inl (R3.ex _ _ hB), e4, rfl⟩, f _ B3 H3 ((x1.trans x2).trans x3) (fun z => nomatch z) R3 ?_⟩
            cases c : valU kvs key with
            | none => rw [q1 c]; exact r3
            | some w =>
              obtain ⟨v, z1, z2⟩ := q2 w c
              rw [z1]
              exact z2
          · exact x.ok F W ρ2 σ B2 H2 _ _ e3 R2 fun cls d B3 H3 x3 R3 xr => f cls d B3 H3 ((x1.trans x2).trans x3) R3 xr
        · exact k.ok F W ρ1 σ B1 H1 _ _ e2 R1 fun cls d B2 H2 x2 R2 xr => f cls d B2 H2 (x1.trans x2) R2 xr
      | _ => cases e
    · exact d.ok F W ρ σ B H _ _ e1 R fun cls d B1 H1 x1 R1 xr => f cls d B1 H1 x1 R1 xr
section
variable {X : Cx} {W : WX} {pos p2 p3 p4 apos : Pos} {e a b c : Expr} {es : List Expr} {A B C : ME X.K} {j : Nat} {x : Str} {D : MP X.K} {ks : List (Option Expr)} {vs : List Expr}
theorem ppnil : PPs X pos [] [] ((mpNil (K := X.K)).t W) := pps_nil
theorem ppconsS {i : Str} {h} (ha : PE X a (A.t W)) (hr : PPs X pos ks vs (D.t W)) : PPs X pos (some (.Constant (.str i) j p2) :: ks) (a :: vs) ((mpCons (.inr i) A D h).t W) := pps_cons pe_str ha hr
theorem ppconsI {i : Int} {h} (ha : PE X a (A.t W)) (hr : PPs X pos ks vs (D.t W)) : PPs X pos (some (.Constant (.int i) j p2) :: ks) (a :: vs) ((mpCons (.inl i) A D h).t W) := pps_cons pe_int ha hr
theorem ddict {ks0 : List Key} {h0' h1 h2} (hp : PPs X pos ks vs (D.t W)) (hall : ks.all (·.isSome) = true := by rfl) (hl : ks.length = vs.length := by rfl) (h0 : ks ≠ [] := by intro z; cases z) (h15 : ks.length ≤ 15 := by decide) : PE X (.Dict ks vs pos) ((mDict ks0 D h0' h1 h2).t W) := pe_disp hp hall hl h0 h15
theorem dget2 {k : Nat} {h1 h2} (hr : Room k X.A) (ho : PE X a (A.t W)) (he : PE X b (B.t W)) (hf : PE X c (C.t W)) (m : M2 X a "get" apos b c pos := by exact ⟨rfl, rfl, rfl, rfl⟩) : PE X (.Call (.Attribute a "get" apos) [b, c] [] pos) ((mGet2 A B C h1 h2).t W) := pe_dget2 (L2.hu_of hr) ho he hf m
theorem drepr {k : Nat} {L : MA X.K} (hr : Room k X.A) (hg : X.A.guards = some []) (hm : X.mg "repr" = none) (ha : PA X (e :: es) (L.t W)) (hgl : Gl X "repr" := by rfl)
    (he : starEach (e :: es) X.env = (false, eval e X.env) :: starEach es X.env := by rfl) (hpl : (backTo pos (starEach es X.env)).any (·.1) = false := by rfl) : PE X (.Call (.Name "repr" p2) (e :: es) [] pos) ((mBi oRepr L).t W) :=
  dbiB (call_reprD hr.units hg) hm ha (by decide +kernel) hgl (by decide) (by decide) he hpl
/-- the names of a tuple of built-in types -/
theorem patnil : PA X [] (tTypes []) := pa_nil
theorem patcons {n : String} {y : Str} {r : List String} (hr : PA X es (tTypes r)) (ht : X.mg y = none) (hv : bootBuiltins y = some (.type n) := by decide +kernel) (hg : Gl X y := by rfl) (hdb : (y == ("__debug__" : Str)) = false := by decide) (hn : y ≠ "__name__" := by decide)
    (he : starEach (.Name y p2 :: es) X.env = (false, eval (.Name y p2) X.env) :: starEach es X.env := by rfl) : PA X (.Name y p2 :: es) (tTypes (n :: r)) := pa_cons (pe_bltn (v := .ty n) hg ht hv rfl hn hdb) hr he
theorem disiT {ns : List String} {h} {k : Nat} (hi : X.mg "isinstance" = none) (ha : PE X a (A.t W)) (ht : PA X es (tTypes ns)) (hg : Gl X "isinstance" := by rfl)
    (he : starEach [a, .Tuple es k p2] X.env = (false, eval a X.env) :: starEach [.Tuple es k p2] X.env := by rfl) (he2 : starEach [.Tuple es k p2] X.env = (false, eval (.Tuple es k p2) X.env) :: starEach [] X.env := by rfl) (hpl : (backTo pos (starEach [.Tuple es k p2] X.env)).any (·.1) = false := by rfl) :
    PE X (.Call (.Name "isinstance" p3) [a, .Tuple es k p2] [] pos) ((mIsiT ns A h).t W) :=
  pe_callB call_isiT hg hi (by decide +kernel) (pa_cons ha (pa_cons (pe_tup ht) pa_nil he2) he) (by decide) (by decide) he hpl
end
/-! the law's own def, called with no repr under way -/
theorem lawG0 {P : Program} {w : World} {K : PySem.W.Frag} {mg : Str → Option Value} {base : Heap} {k : Nat} {f : Addr} {mf : List Slot → Option CO} (F : FnG P w K mg base (L2.CX P w) k f (spM K 1 mf)) : FnG P w K mg base CX0 k f (spL K mf) :=
  fun A outer s H us vs Q E hr hg e0 r h => codeAny_mono (F A outer s H us vs Q _ hr hg e0 r h) fun r s' hq => by
    cases r with
    | error e =>
      obtain ⟨_, _, _, _, _, _, _, _, _, _, _, _, z⟩ := hq
      exact z.elim
    | ok fl => cases fl <;> exact hq
theorem lawGN {P : Program} {w : World} {K : PySem.W.Frag} {mg : Str → Option Value} {base : Heap} {k : Nat} {f : Addr} {mf : List Slot → Option CO} (F : FnG P w K mg base CX0 k f (spM K 1 mf)) : FnG P w K mg base CX0 k f (spL K mf) :=
  fun A outer s H us vs Q E hr hg e0 r h => F A outer s H us vs Q E hr hg e0 r (by
    obtain ⟨B, as, o, x, e, a, n, m, f⟩ := h
    refine ⟨B, as, o, x, e, a, n, m, ?_⟩
    cases o with
    | val u c => exact f
    | cel u c => exact f
    | ex e c => exact fun cls d B' H' g cc xr => (f cls d B' H' g cc xr).elim)
end Sg

set_option Elab.async false
set_option linter.all false
set_option maxRecDepth 100000
set_option maxHeartbeats 4000000
namespace Sg
open PySem L2
variable {K : PySem.W.Frag}
theorem mC_m (u : U) (z : V) (h : scV u = some z) (ρ : Env) : (@mC K u z h).m ρ = (some (.ok u ρ)) := rfl
theorem mVar_m (i : Nat) (ρ : Env) : (@mVar K i).m ρ = (match ρ[i]? with
    | some (.val u) => some (.ok u ρ)
    | _ => none) := rfl
theorem mLook_m (i : Nat) (ρ : Env) : (@mLook K i).m ρ = (match ρ[i]? with
    | some (.val u) => some (.ok u ρ)
    | some (.cel _ us) => some (.ok (.lst us) ρ)
    | some (.celD _ us) => some (.ok (.dic us) ρ)
    | _ => none) := rfl
theorem mLet_m (i : Nat) (ρ : Env) : (@mLet K i).m ρ = (match ρ[i]? with
    | some (.val u) => some (.ok u ρ)
    | some (.cel true us) => some (.ok (.lst us) (ρ.set i (.val (.lst us))))
    | _ => none) := rfl
theorem mOp_m (o : Op2 K) (a b : ME K) (h : (a.k || b.p) = true) (ρ : Env) : (@mOp K o a b h).m ρ = (bindE (a.m ρ) fun u ρ1 => bindE (b.m ρ1) fun v ρ2 => (o.f u v).map fun w => .ok w ρ2) := rfl
theorem mOpK_m (o : Op2K K) (a b : ME K) (h : (a.k && b.k) = true) (ρ : Env) : (@mOpK K o a b h).m ρ = (bindE (a.m ρ) fun u ρ1 => bindE (b.m ρ1) fun v ρ2 => (o.f u v).map fun w => .ok w ρ2) := rfl
theorem mUn_m (o : Op1 K) (a : ME K) (ρ : Env) : (@mUn K o a).m ρ = (bindE (a.m ρ) fun u ρ1 => (o.f u).map fun w => .ok w ρ1) := rfl
theorem mIx_m (o : OpI K) (a b : ME K) (h : (a.k || b.p) = true) (ρ : Env) : (@mIx K o a b h).m ρ = (bindE (a.m ρ) fun u ρ1 => bindE (b.m ρ1) fun v ρ2 => (o.f u v).map fun w => .ok w ρ2) := rfl
theorem mSc_m (a : ME K) (ρ : Env) : (@mSc K a).m ρ = (bindE (a.m ρ) fun u ρ1 => if (scV u).isSome then some (.ok u ρ1) else none) := rfl
theorem mNil_m (ρ : Env) : (@mNil K).m ρ = (some (.ok [] ρ)) := rfl
theorem mCons_m (a : ME K) (b : MA K) (h : (a.k || b.p) = true) (ρ : Env) : (@mCons K a b h).m ρ = (bindEA (a.m ρ) fun u ρ1 => match b.m ρ1 with
    | none => none
    | some (.ex e ρ2) => some (.ex e ρ2)
    | some (.ok us ρ2) => some (.ok (u :: us) ρ2)) := rfl
theorem mTup_m (a : MA K) (h : a.k = true) (ρ : Env) : (@mTup K a h).m ρ = (bindAE (a.m ρ) fun us ρ1 => if us.length ≤ 16777216 then some (.ok (.tup us) ρ1) else none) := rfl
theorem mFr_m (a : MF K) (ρ : Env) : (@mFr K a).m ρ = (bindAE (a.m ρ) fun us ρ1 => some (.ok (.lst us) ρ1)) := rfl
theorem mLst_m (a : MA K) (h : a.k = true) (ρ : Env) : (@mLst K a h).m ρ = (match a.m ρ with
    | some (.ok us ρ1) => if us.length ≤ 16777216 then some (.ok us ρ1) else none
    | o => o) := rfl
theorem mTest_m (a : ME K) (ρ : Env) : (@mTest K a).m ρ = (bindET (a.m ρ) fun u ρ1 => match u with
    | .bl b => some (.ok b ρ1)
    | _ => none) := rfl
theorem mTru_m (a : ME K) (ρ : Env) : (@mTru K a).m ρ = (bindET (a.m ρ) fun u ρ1 => (truU u).map fun b => .ok b ρ1) := rfl
theorem mAnd_m (a b : MT K) (ρ : Env) : (@mAnd K a b).m ρ = (bindTT (a.m ρ) fun c ρ1 => if c = true then b.m ρ1 else some (.ok false ρ1)) := rfl
theorem mOr_m (a b : MT K) (ρ : Env) : (@mOr K a b).m ρ = (bindTT (a.m ρ) fun c ρ1 => if c = true then some (.ok true ρ1) else b.m ρ1) := rfl
theorem mNot_m (a : MT K) (ρ : Env) : (@mNot K a).m ρ = (bindTT (a.m ρ) fun c ρ1 => some (.ok (!c) ρ1)) := rfl
theorem mAndV_m (a b : ME K) (ρ : Env) : (@mAndV K a b).m ρ = (bindE (a.m ρ) fun u ρ1 => match u with
    | .bl true => bindE (b.m ρ1) fun v ρ2 => match v with
      | .bl c => some (.ok (.bl c) ρ2)
      | _ => none
    | .bl false => some (.ok (.bl false) ρ1)
    | _ => none) := rfl
theorem mOrV_m (a b : ME K) (ρ : Env) : (@mOrV K a b).m ρ = (bindE (a.m ρ) fun u ρ1 => match u with
    | .bl false => bindE (b.m ρ1) fun v ρ2 => match v with
      | .bl c => some (.ok (.bl c) ρ2)
      | _ => none
    | .bl true => some (.ok (.bl true) ρ1)
    | _ => none) := rfl
theorem mNotV_m (a : ME K) (ρ : Env) : (@mNotV K a).m ρ = (bindE (a.m ρ) fun u ρ1 => match u with
    | .bl c => some (.ok (.bl (!c)) ρ1)
    | _ => none) := rfl
theorem mIf_m (c : MT K) (a b : ME K) (ρ : Env) : (@mIf K c a b).m ρ = (bindTE (c.m ρ) fun x ρ1 => if x = true then a.m ρ1 else b.m ρ1) := rfl
theorem mgName_m (i : Nat) (u : U) (ρ : Env) : (@mgName K i).m u ρ = (some (ρ.set i (.val u))) := rfl
theorem mgNil_m (us : List U) (ρ : Env) : (@mgNil K).m us ρ = (match us with
    | [] => some ρ
    | _ => none) := rfl
theorem mgCons_m (g : MG K) (gs : MGs K) (us : List U) (ρ : Env) : (@mgCons K g gs).m us ρ = (match us with
    | u :: us => (g.m u ρ).bind fun ρ1 => gs.m us ρ1
    | [] => none) := rfl
theorem mgTup_m (n : Nat) (gs : MGs K) (u : U) (ρ : Env) : (@mgTup K n gs).m u ρ = (match u with
    | .tup us => if us.length = n then gs.m us ρ else none
    | _ => none) := rfl
theorem msNil_m (ρ : Env) : (@msNil K).m ρ = (some (.nx ρ)) := rfl
theorem msSeq_m (a b : MS K) (ρ : Env) : (@msSeq K a b).m ρ = (thenS (a.m ρ) b.m) := rfl
theorem msIf_m (c : MT K) (a b : MS K) (ρ : Env) : (@msIf K c a b).m ρ = (bindTS (c.m ρ) fun x ρ1 => if x = true then a.m ρ1 else b.m ρ1) := rfl
theorem msAsg_m (e : ME K) (g : MG K) (h : e.k = true) (ρ : Env) : (@msAsg K e g h).m ρ = (bindES (e.m ρ) fun u ρ1 => (g.m u ρ1).map .nx) := rfl
theorem msAsgF_m (e : MF K) (i : Nat) (ρ : Env) : (@msAsgF K e i).m ρ = (bindAS (e.m ρ) fun us ρ1 => some (.nx (ρ1.set i (.cel true us)))) := rfl
theorem msDrop_m (e : ME K) (ρ : Env) : (@msDrop K e).m ρ = (bindES (e.m ρ) fun _ ρ1 => some (.nx ρ1)) := rfl
theorem msRet_m (e : ME K) (h : e.k = true) (ρ : Env) : (@msRet K e h).m ρ = (bindES (e.m ρ) fun u ρ1 => some (.rt (.val u) ρ1)) := rfl
theorem msRetF_m (e : MF K) (ρ : Env) : (@msRetF K e).m ρ = (bindAS (e.m ρ) fun us ρ1 => some (.rt (.cel us) ρ1)) := rfl
theorem msRetC_m (i : Nat) (ρ : Env) : (@msRetC K i).m ρ = (match ρ[i]? with
    | some (.cel true us) => some (.rt (.cel us) (ρ.set i .non))
    | _ => none) := rfl
theorem msRetN_m (ρ : Env) : (@msRetN K).m ρ = (some (.rt (.val .non) ρ)) := rfl
theorem msBrk_m (ρ : Env) : (@msBrk K).m ρ = (some (.bk ρ)) := rfl
theorem msCont_m (ρ : Env) : (@msCont K).m ρ = (some (.ct ρ)) := rfl
theorem msRaise_m (c : Str) (ρ : Env) : (@msRaise K c).m ρ = (some (.ex ⟨c, none⟩ ρ)) := rfl
theorem msFor_m (it : MI K) (g : MG K) (b : MS K) (kl : List Nat) (ρ : Env) : (@msFor K it g b kl).m ρ = (bindAS (it.m ρ) fun us ρ1 => loopM g.m b.m kl us ρ1) := rfl
theorem mtYes_m (ρ : Env) : (@mtYes K).m ρ = (some (.ok true ρ)) := rfl
theorem mtOne_m (a : MT K) (ρ : Env) : (@mtOne K a).m ρ = (a.m) ρ := rfl
theorem mLc_m (it : MI K) (g : MG K) (tt : MTs K) (e : ME K) (vs : List Nat) (hg : (g.is.all fun i => vs.contains i) = true) (hk : e.k = true) (ρ : Env) : (@mLc K it g tt e vs hg hk).m ρ = (match it.m ρ with
    | some (.ok us ρ1) => lcM g.m tt.m e.m vs us [] (kills ρ1 vs)
    | o => o) := rfl
theorem mcNil_m (ρ : Env) : (@mcNil K).m ρ = (some (.ok [] ρ)) := rfl
theorem mcVal_m (a : ME K) (b : MC K) (h : (a.k || b.p) = true) (ρ : Env) : (@mcVal K a b h).m ρ = (bindEC (a.m ρ) fun u ρ1 => consC (.inl u) (b.m ρ1)) := rfl
theorem mcCel_m (j : Nat) (b : MC K) (ρ : Env) : (@mcCel K j b).m ρ = (match ρ[j]? with
    | some (.cel _ _) => consC (.inr j) (b.m ρ)
    | _ => none) := rfl
theorem mCall_m (n : Nat) (mf : List Slot → Option CO) (a : MC K) (hk : a.k = true) (ρ : Env) : (@mCall K n mf a hk).m ρ = ((a.m ρ).bind fun o => match o with
    | .ok is _ => if is.length = n then callM mf (some o) else none
    | _ => callM mf (some o)) := rfl
theorem moNone_m (ρ : Env) : (@moNone K).m ρ = (some (.ok none ρ)) := rfl
theorem moSome_m (a : ME K) (ρ : Env) : (@moSome K a).m ρ = (match a.m ρ with
    | some (.ok (.int i) ρ1) => some (.ok (some i) ρ1)
    | some (.ex e ρ1) => some (.ex e ρ1)
    | _ => none) := rfl
theorem mSlL_m (a : ME K) (lo hi : MO K) (hk : a.k = true) (h1 : lo.p = true) (h2 : hi.p = true) (ρ : Env) : (@mSlL K a lo hi hk h1 h2).m ρ = (match a.m ρ with
    | none => none
    | some (.ex e ρ1) => some (.ex e ρ1)
    | some (.ok u ρ1) => match lo.m ρ1 with
      | none => none
      | some (.ex e ρ2) => some (.ex e ρ2)
      | some (.ok x ρ2) => match hi.m ρ2 with
        | none => none
        | some (.ex e ρ3) => some (.ex e ρ3)
        | some (.ok y ρ3) => (lstU u).map fun us => .ok (cutU us x y) ρ3) := rfl
theorem mBi_m (o : OpC K) (a : MA K) (ρ : Env) : (@mBi K o a).m ρ = (bindAE (a.m ρ) fun us ρ1 => (o.f us).map fun w => .ok w ρ1) := rfl
theorem mBiF_m (o : OpF K) (a : MA K) (hk : a.k = true) (ρ : Env) : (@mBiF K o a hk).m ρ = (match a.m ρ with
    | some (.ok us ρ1) => (o.f us).map fun ws => .ok ws ρ1
    | x => x) := rfl
theorem miList_m (a : ME K) (hk : a.k = true) (ρ : Env) : (@miList K a hk).m ρ = (match a.m ρ with
    | some (.ok u ρ1) => (lstU u).map fun us => .ok us ρ1
    | some (.ex e ρ1) => some (.ex e ρ1)
    | none => none) := rfl
theorem miTup_m (a : ME K) (hk : a.k = true) (ρ : Env) : (@miTup K a hk).m ρ = (match a.m ρ with
    | some (.ok (.tup us) ρ1) => some (.ok us ρ1)
    | some (.ex e ρ1) => some (.ex e ρ1)
    | _ => none) := rfl
theorem miRng1_m (a : ME K) (ρ : Env) : (@miRng1 K a).m ρ = (match a.m ρ with
    | some (.ok (.int j) ρ1) => if rngOk 0 j = true then some (.ok (rangeU 0 j.toNat) ρ1) else none
    | some (.ex e ρ1) => some (.ex e ρ1)
    | _ => none) := rfl
theorem miRng2_m (a b : ME K) (ρ : Env) : (@miRng2 K a b).m ρ = (match a.m ρ with
    | some (.ok (.int i) ρ1) => (match b.m ρ1 with
      | some (.ok (.int j) ρ2) => if rngOk i j = true then some (.ok (rangeU i (j - i).toNat) ρ2) else none
      | some (.ex e ρ2) => some (.ex e ρ2)
      | _ => none)
    | some (.ex e ρ1) => some (.ex e ρ1)
    | _ => none) := rfl
theorem miEnum_m (a : ME K) (hk : a.k = true) (ρ : Env) : (@miEnum K a hk).m ρ = (match a.m ρ with
    | some (.ok u ρ1) => (lstU u).map fun us => .ok (enumU 0 us) ρ1
    | some (.ex e ρ1) => some (.ex e ρ1)
    | none => none) := rfl
theorem miZip_m (a b : ME K) (hk : (a.k && b.k) = true) (ρ : Env) : (@miZip K a b hk).m ρ = (match a.m ρ with
    | some (.ok u ρ1) => (match b.m ρ1 with
      | some (.ok v ρ2) => (lstU u).bind fun us => (lstU v).map fun vs => .ok (zipU us vs) ρ2
      | some (.ex e ρ2) => some (.ex e ρ2)
      | none => none)
    | some (.ex e ρ1) => some (.ex e ρ1)
    | none => none) := rfl
theorem mMeth_m (j : Nat) (o : OpM K) (a : MA K) (hk : a.k = true) (ρ : Env) : (@mMeth K j o a hk).m ρ = (match ρ[j]? with
    | some (.cel _ _) => (match a.m ρ with
      | some (.ok xs ρ1) => (match ρ1[j]? with
        | some (.cel own us) => (o.f us xs).map fun q => .ok q.1 (ρ1.set j (.cel own q.2))
        | _ => none)
      | some (.ex e ρ1) => some (.ex e ρ1)
      | none => none)
    | _ => none) := rfl
theorem mMeth0_m (j : Nat) (o : OpM K) (ρ : Env) : (@mMeth0 K j o).m ρ = (match ρ[j]? with
    | some (.cel own us) => (o.f us []).map fun q => .ok q.1 (ρ.set j (.cel own q.2))
    | _ => none) := rfl
theorem msSet_m (j : Nat) (i e : ME K) (hk : e.k = true) (ρ : Env) : (@msSet K j i e hk).m ρ = (match e.m ρ with
    | none => none
    | some (.ex x ρ1) => some (.ex x ρ1)
    | some (.ok u ρ1) => match ρ1[j]? with
      | some (.cel _ _) => (match i.m ρ1 with
        | none => none
        | some (.ex x ρ2) => some (.ex x ρ2)
        | some (.ok (.int n) ρ2) => (match ρ2[j]? with
          | some (.cel own us) => (ixN us.length n).map fun k => .nx (ρ2.set j (.cel own (us.set k u)))
          | _ => none)
        | _ => none)
      | _ => none) := rfl
theorem mCat_m (a b : ME K) (hk : (a.k && b.k) = true) (ρ : Env) : (@mCat K a b hk).m ρ = (match a.m ρ with
    | some (.ok (.lst us) ρ1) => (match b.m ρ1 with
      | some (.ok (.lst vs) ρ2) => if us.length + vs.length ≤ 16777216 then some (.ok (us ++ vs) ρ2) else none
      | some (.ex e ρ2) => some (.ex e ρ2)
      | _ => none)
    | some (.ex e ρ1) => some (.ex e ρ1)
    | _ => none) := rfl
theorem mRepeat_m (a b : ME K) (hk : a.k = true) (ρ : Env) : (@mRepeat K a b hk).m ρ = (match a.m ρ with
    | some (.ok (.lst us) ρ1) => (match b.m ρ1 with
      | some (.ok (.int n) ρ2) => if -(2 ^ 63) ≤ n ∧ n < 2 ^ 63 ∧ us.length * n.toNat ≤ 16777216 then some (.ok (List.replicate n.toNat us).flatten ρ2) else none
      | some (.ex e ρ2) => some (.ex e ρ2)
      | _ => none)
    | some (.ex e ρ1) => some (.ex e ρ1)
    | _ => none) := rfl
theorem mChain_m (o o' : Op2 K) (a b c : ME K) (h1 : (a.k || b.p) = true) (h2 : (b.k || c.p) = true) (ρ : Env) : (@mChain K o o' a b c h1 h2).m ρ = (bindE (a.m ρ) fun u ρ1 => bindE (b.m ρ1) fun v ρ2 => match o.f u v with
    | some (.bl true) => bindE (c.m ρ2) fun w ρ3 => (o'.f v w).bind fun z => match z with
      | .bl d => some (.ok (.bl d) ρ3)
      | _ => none
    | some (.bl false) => some (.ok (.bl false) ρ2)
    | _ => none) := rfl
theorem mIsi_m (n : String) (a : ME K) (ρ : Env) : (@mIsi K n a).m ρ = (bindE (a.m ρ) fun u ρ1 => (tyU u).bind fun s => (isiB s n).map fun b => .ok (.bl b) ρ1) := rfl
theorem msAug_m (i : Nat) (o : OpIp K) (e : ME K) (ρ : Env) : (@msAug K i o e).m ρ = (match ρ[i]? with
    | some (.val u) => bindES (e.m ρ) fun v ρ1 => (o.f u v).map fun w => .nx (ρ1.set i (.val w))
    | _ => none) := rfl
theorem mRev_m (a : ME K) (hk : a.k = true) (ρ : Env) : (@mRev K a hk).m ρ = (match a.m ρ with
    | some (.ok u ρ1) => (lstU u).map fun us => .ok us.reverse ρ1
    | some (.ex e ρ1) => some (.ex e ρ1)
    | none => none) := rfl
theorem mListRng_m (a b : ME K) (ρ : Env) : (@mListRng K a b).m ρ = (match a.m ρ with
    | some (.ok (.int i) ρ1) => (match b.m ρ1 with
      | some (.ok (.int j) ρ2) => if rgLok i j = true then some (.ok (rangeU i (j - i).toNat) ρ2) else none
      | some (.ex e ρ2) => some (.ex e ρ2)
      | _ => none)
    | some (.ex e ρ1) => some (.ex e ρ1)
    | _ => none) := rfl
theorem mCallF_m (n : Nat) (mf : List Slot → Option CO) (a : MC K) (hk : a.k = true) (ρ : Env) : (@mCallF K n mf a hk).m ρ = ((a.m ρ).bind fun o => match o with
    | .ok is _ => if is.length = n then callMF mf (some o) else none
    | _ => callMF mf (some o)) := rfl
theorem msParVV_m (i j : Nat) (a b : ME K) (ha : a.k = true) (hb : b.k = true) (ρ : Env) : (@msParVV K i j a b ha hb).m ρ = (bindES (a.m ρ) fun u ρ1 => bindES (b.m ρ1) fun v ρ2 => some (.nx ((ρ2.set i (.val u)).set j (.val v)))) := rfl
theorem msParFV_m (i j : Nat) (a : MF K) (b : ME K) (hij : (i != j) = true) (hb : b.k = true) (ρ : Env) : (@msParFV K i j a b hij hb).m ρ = (bindAS (a.m ρ) fun us ρ1 => match b.m ρ1 with
    | some (.ok v ρ2) => some (.nx ((ρ2.set i (.cel true us)).set j (.val v)))
    | some (.ex e ρ2) => some (.ex e ρ2)
    | none => none) := rfl
theorem msParVF_m (i j : Nat) (a : ME K) (b : MF K) (ha : a.k = true) (ρ : Env) : (@msParVF K i j a b ha).m ρ = (bindES (a.m ρ) fun u ρ1 => bindAS (b.m ρ1) fun us ρ2 => some (.nx ((ρ2.set i (.val u)).set j (.cel true us)))) := rfl
theorem mMethD_m (m : Str) (n : Nat) (tab : MTab) (a : ME K) (b : MC K) (ha : a.k = true) (hk : b.k = true) (ρ : Env) : (@mMethD K m n tab a b ha hk).m ρ = (bindE (a.m ρ) fun u ρ1 => match u with
    | .ins c fs => match fs.lookup m, tab.lookup c with
      | none, some mf => (b.m ρ1).bind fun o => match o with
        | .ok is ρ2 => if is.length + 1 = n then callM mf (some (.ok (.inl (.ins c fs) :: is) ρ2)) else none
        | .ex e ρ2 => some (.ex e ρ2)
      | _, _ => none
    | _ => none) := rfl
theorem mNew_m (c : Str) (ρ : Env) : (@mNew K c).m ρ = (some (.ok (.ins c []) ρ)) := rfl
theorem mCMeth_m (c : Str) (n : Nat) (mf : List Slot → Option CO) (b : MC K) (hk : b.k = true) (ρ : Env) : (@mCMeth K c n mf b hk).m ρ = ((b.m ρ).bind fun o => match o with
    | .ok is ρ2 => if is.length + 1 = n then callM mf (some (.ok (.inl (.ref (He.ga K c)) :: is) ρ2)) else none
    | .ex e ρ2 => some (.ex e ρ2)) := rfl
theorem mConC_m (c : Str) (u : U) (a : ME K) (ρ : Env) : (@mConC K c u a).m ρ = (bindE (a.m ρ) fun x ρ1 => match x with
    | .ref p => if p = He.ga K c then some (.ok u ρ1) else none
    | _ => none) := rfl
theorem msTry_m (tab : XTab) (S S2 : MS K) (ρ : Env) : (@msTry K tab S S2).m ρ = (match S.m ρ with
    | some (.ex e ρ') => match tab.lookup e.c with
      | some true => match S2.m ρ' with
        | some (.ex _ _) => none
        | o => o
      | some false => some (.ex e ρ')
      | none => none
    | o => o) := rfl
theorem mSup_m (c : Str) (n : Nat) (mf : List Slot → Option CO) (b : MC K) (hk : b.k = true) (ρ : Env) : (@mSup K c n mf b hk).m ρ = (match ρ[(0 : Nat)]? with
    | some (.val (.ins c' fs)) => if c' = c then (b.m ρ).bind fun o => match o with
        | .ok is ρ2 => if is.length + 1 = n then callM mf (some (.ok (.inl (.ins c fs) :: is) ρ2)) else none
        | .ex e ρ2 => some (.ex e ρ2)
      else none
    | _ => none) := rfl

/-! ### evaluation: what simp follows, without looking into what is not yet reached -/
section
variable {α : Type}
def opE (x : Option EO) (b : ME K) (f : U → U → Option U) : Option EO := bindE x fun u ρ1 => bindE (b.m ρ1) fun v ρ2 => (f u v).map fun w => .ok w ρ2
def opF (x : Option EO) (u : U) (f : U → U → Option U) : Option EO := bindE x fun v ρ2 => (f u v).map fun w => .ok w ρ2
def okE (x : Option U) (ρ : Env) : Option EO := x.map fun w => .ok w ρ
theorem okE_some (u : U) (ρ : Env) : okE (some u) ρ = some (.ok u ρ) := rfl
theorem okE_none (ρ : Env) : okE none ρ = none := rfl
theorem opE_ok (u : U) (ρ : Env) (b : ME K) (f : U → U → Option U) : opE (some (.ok u ρ)) b f = opF (b.m ρ) u f := rfl
theorem opE_ex (e : Exn) (ρ : Env) (b : ME K) (f : U → U → Option U) : opE (some (.ex e ρ)) b f = some (.ex e ρ) := rfl
theorem opF_ok (u v : U) (ρ : Env) (f : U → U → Option U) : opF (some (.ok v ρ)) u f = okE (f u v) ρ := rfl
theorem opF_ex (u : U) (e : Exn) (ρ : Env) (f : U → U → Option U) : opF (some (.ex e ρ)) u f = some (.ex e ρ) := rfl
theorem mOp_e (o : Op2 K) (a b : ME K) (h : (a.k || b.p) = true) (ρ : Env) : (@mOp K o a b h).m ρ = opE (a.m ρ) b o.f := rfl
theorem mOpK_e (o : Op2K K) (a b : ME K) (h : (a.k && b.k) = true) (ρ : Env) : (@mOpK K o a b h).m ρ = opE (a.m ρ) b o.f := rfl
theorem mIx_e (o : OpI K) (a b : ME K) (h : (a.k || b.p) = true) (ρ : Env) : (@mIx K o a b h).m ρ = opE (a.m ρ) b o.f := rfl
def unE (x : Option EO) (f : U → Option U) : Option EO := bindE x fun u ρ1 => (f u).map fun w => .ok w ρ1
theorem unE_ok (u : U) (ρ : Env) (f : U → Option U) : unE (some (.ok u ρ)) f = okE (f u) ρ := rfl
theorem mUn_e (o : Op1 K) (a : ME K) (ρ : Env) : (@mUn K o a).m ρ = unE (a.m ρ) o.f := rfl
def coE (x : Option EO) (b : MA K) : Option AO := bindEA x fun u ρ1 => match b.m ρ1 with
    | none => none
    | some (.ex e ρ2) => some (.ex e ρ2)
    | some (.ok us ρ2) => some (.ok (u :: us) ρ2)
def coF (x : Option AO) (u : U) : Option AO := match x with
    | none => none
    | some (.ex e ρ2) => some (.ex e ρ2)
    | some (.ok us ρ2) => some (.ok (u :: us) ρ2)
theorem coE_ok (u : U) (ρ : Env) (b : MA K) : coE (some (.ok u ρ)) b = coF (b.m ρ) u := rfl
theorem coE_ex (e : Exn) (ρ : Env) (b : MA K) : coE (some (.ex e ρ)) b = some (.ex e ρ) := rfl
theorem coF_ok (u : U) (us : List U) (ρ : Env) : coF (some (.ok us ρ)) u = some (.ok (u :: us) ρ) := rfl
theorem coF_ex (u : U) (e : Exn) (ρ : Env) : coF (some (.ex e ρ)) u = some (.ex e ρ) := rfl
theorem mCons_e (a : ME K) (b : MA K) (h : (a.k || b.p) = true) (ρ : Env) : (@mCons K a b h).m ρ = coE (a.m ρ) b := rfl
def tyE (x : Option AO) (f : List U → Env → Option EO) : Option EO := bindAE x f
def tupF (us : List U) (ρ : Env) : Option EO := if us.length ≤ 16777216 then some (.ok (.tup us) ρ) else none
theorem bindAE_ok (us : List U) (ρ : Env) (f : List U → Env → Option EO) : bindAE (some (.ok us ρ)) f = f us ρ := rfl
theorem bindAE_ex (e : Exn) (ρ : Env) (f : List U → Env → Option EO) : bindAE (some (.ex e ρ)) f = some (.ex e ρ) := rfl
theorem mTup_e (a : MA K) (h : a.k = true) (ρ : Env) : (@mTup K a h).m ρ = bindAE (a.m ρ) tupF := rfl
theorem tupF_e (us : List U) (ρ : Env) (h : us.length ≤ 16777216) : tupF us ρ = some (.ok (.tup us) ρ) := if_pos h
def frF (us : List U) (ρ : Env) : Option EO := some (.ok (.lst us) ρ)
theorem mFr_e (a : MF K) (ρ : Env) : (@mFr K a).m ρ = bindAE (a.m ρ) frF := rfl
def lstF (x : Option AO) : Option AO := match x with
    | some (.ok us ρ1) => if us.length ≤ 16777216 then some (.ok us ρ1) else none
    | o => o
theorem lstF_ok (us : List U) (ρ : Env) (h : us.length ≤ 16777216) : lstF (some (.ok us ρ)) = some (.ok us ρ) := if_pos h
theorem mLst_e (a : MA K) (h : a.k = true) (ρ : Env) : (@mLst K a h).m ρ = lstF (a.m ρ) := rfl
def tsE (x : Option EO) : Option TOu := bindET x fun u ρ1 => match u with
    | .bl b => some (.ok b ρ1)
    | _ => none
theorem tsE_ok (b : Bool) (ρ : Env) : tsE (some (.ok (.bl b) ρ)) = some (.ok b ρ) := rfl
theorem tsE_ex (e : Exn) (ρ : Env) : tsE (some (.ex e ρ)) = some (.ex e ρ) := rfl
theorem mTest_e (a : ME K) (ρ : Env) : (@mTest K a).m ρ = tsE (a.m ρ) := rfl
def truE (x : Option EO) : Option TOu := bindET x fun u ρ1 => (truU u).map fun b => .ok b ρ1
def okT (x : Option Bool) (ρ : Env) : Option TOu := x.map fun b => .ok b ρ
theorem okT_some (b : Bool) (ρ : Env) : okT (some b) ρ = some (.ok b ρ) := rfl
theorem truE_ok (u : U) (ρ : Env) : truE (some (.ok u ρ)) = okT (truU u) ρ := rfl
theorem truE_ex (e : Exn) (ρ : Env) : truE (some (.ex e ρ)) = some (.ex e ρ) := rfl
theorem mTru_e (a : ME K) (ρ : Env) : (@mTru K a).m ρ = truE (a.m ρ) := rfl
def anE (x : Option TOu) (b : MT K) : Option TOu := bindTT x fun c ρ1 => if c = true then b.m ρ1 else some (.ok false ρ1)
def orE (x : Option TOu) (b : MT K) : Option TOu := bindTT x fun c ρ1 => if c = true then some (.ok true ρ1) else b.m ρ1
theorem anE_t (b : MT K) (ρ : Env) : anE (some (.ok true ρ)) b = b.m ρ := rfl
theorem anE_f (b : MT K) (ρ : Env) : anE (some (.ok false ρ)) b = some (.ok false ρ) := rfl
theorem anE_ok (c : Bool) (b : MT K) (ρ : Env) : anE (some (.ok c ρ)) b = if c = true then b.m ρ else some (.ok false ρ) := rfl
theorem orE_t (b : MT K) (ρ : Env) : orE (some (.ok true ρ)) b = some (.ok true ρ) := rfl
theorem orE_f (b : MT K) (ρ : Env) : orE (some (.ok false ρ)) b = b.m ρ := rfl
theorem orE_ok (c : Bool) (b : MT K) (ρ : Env) : orE (some (.ok c ρ)) b = if c = true then some (.ok true ρ) else b.m ρ := rfl
theorem mAnd_e (a b : MT K) (ρ : Env) : (@mAnd K a b).m ρ = anE (a.m ρ) b := rfl
theorem mOr_e (a b : MT K) (ρ : Env) : (@mOr K a b).m ρ = orE (a.m ρ) b := rfl
def noE (x : Option TOu) : Option TOu := bindTT x fun c ρ1 => some (.ok (!c) ρ1)
theorem noE_ok (c : Bool) (ρ : Env) : noE (some (.ok c ρ)) = some (.ok (!c) ρ) := rfl
theorem noE_ex (e : Exn) (ρ : Env) : noE (some (.ex e ρ)) = some (.ex e ρ) := rfl
theorem mNot_e (a : MT K) (ρ : Env) : (@mNot K a).m ρ = noE (a.m ρ) := rfl
def anV (x : Option EO) (b : ME K) : Option EO := bindE x fun u ρ1 => match u with
    | .bl true => bindE (b.m ρ1) fun v ρ2 => match v with
      | .bl c => some (.ok (.bl c) ρ2)
      | _ => none
    | .bl false => some (.ok (.bl false) ρ1)
    | _ => none
def orV (x : Option EO) (b : ME K) : Option EO := bindE x fun u ρ1 => match u with
    | .bl false => bindE (b.m ρ1) fun v ρ2 => match v with
      | .bl c => some (.ok (.bl c) ρ2)
      | _ => none
    | .bl true => some (.ok (.bl true) ρ1)
    | _ => none
def blV (x : Option EO) : Option EO := bindE x fun v ρ2 => match v with
      | .bl c => some (.ok (.bl c) ρ2)
      | _ => none
theorem blV_ok (c : Bool) (ρ : Env) : blV (some (.ok (.bl c) ρ)) = some (.ok (.bl c) ρ) := rfl
theorem blV_ex (e : Exn) (ρ : Env) : blV (some (.ex e ρ)) = some (.ex e ρ) := rfl
theorem anV_t (b : ME K) (ρ : Env) : anV (some (.ok (.bl true) ρ)) b = blV (b.m ρ) := rfl
theorem anV_f (b : ME K) (ρ : Env) : anV (some (.ok (.bl false) ρ)) b = some (.ok (.bl false) ρ) := rfl
theorem anV_ok (c : Bool) (b : ME K) (ρ : Env) : anV (some (.ok (.bl c) ρ)) b = if c = true then blV (b.m ρ) else some (.ok (.bl false) ρ) := by cases c <;> rfl
theorem orV_t (b : ME K) (ρ : Env) : orV (some (.ok (.bl true) ρ)) b = some (.ok (.bl true) ρ) := rfl
theorem orV_f (b : ME K) (ρ : Env) : orV (some (.ok (.bl false) ρ)) b = blV (b.m ρ) := rfl
theorem orV_ok (c : Bool) (b : ME K) (ρ : Env) : orV (some (.ok (.bl c) ρ)) b = if c = true then some (.ok (.bl true) ρ) else blV (b.m ρ) := by cases c <;> rfl
theorem mAndV_e (a b : ME K) (ρ : Env) : (@mAndV K a b).m ρ = anV (a.m ρ) b := rfl
theorem mOrV_e (a b : ME K) (ρ : Env) : (@mOrV K a b).m ρ = orV (a.m ρ) b := rfl
def noV (x : Option EO) : Option EO := bindE x fun u ρ1 => match u with
    | .bl c => some (.ok (.bl (!c)) ρ1)
    | _ => none
theorem noV_ok (c : Bool) (ρ : Env) : noV (some (.ok (.bl c) ρ)) = some (.ok (.bl (!c)) ρ) := rfl
theorem noV_ex (e : Exn) (ρ : Env) : noV (some (.ex e ρ)) = some (.ex e ρ) := rfl
theorem mNotV_e (a : ME K) (ρ : Env) : (@mNotV K a).m ρ = noV (a.m ρ) := rfl
def ifV (x : Option TOu) (a b : ME K) : Option EO := bindTE x fun c ρ1 => if c = true then a.m ρ1 else b.m ρ1
theorem ifV_t (a b : ME K) (ρ : Env) : ifV (some (.ok true ρ)) a b = a.m ρ := rfl
theorem ifV_f (a b : ME K) (ρ : Env) : ifV (some (.ok false ρ)) a b = b.m ρ := rfl
theorem ifV_ok (c : Bool) (a b : ME K) (ρ : Env) : ifV (some (.ok c ρ)) a b = if c = true then a.m ρ else b.m ρ := rfl
theorem mIf_e (c : MT K) (a b : ME K) (ρ : Env) : (@mIf K c a b).m ρ = ifV (c.m ρ) a b := rfl
def ifS (x : Option TOu) (a b : MS K) : Option SO := bindTS x fun c ρ1 => if c = true then a.m ρ1 else b.m ρ1
theorem ifS_t (a b : MS K) (ρ : Env) : ifS (some (.ok true ρ)) a b = a.m ρ := rfl
theorem ifS_f (a b : MS K) (ρ : Env) : ifS (some (.ok false ρ)) a b = b.m ρ := rfl
theorem ifS_ok (c : Bool) (a b : MS K) (ρ : Env) : ifS (some (.ok c ρ)) a b = if c = true then a.m ρ else b.m ρ := rfl
theorem ifS_ex (e : Exn) (a b : MS K) (ρ : Env) : ifS (some (.ex e ρ)) a b = some (.ex e ρ) := rfl
theorem msIf_e (c : MT K) (a b : MS K) (ρ : Env) : (@msIf K c a b).m ρ = ifS (c.m ρ) a b := rfl
def asE (x : Option EO) (g : MG K) : Option SO := bindES x fun u ρ1 => (g.m u ρ1).map .nx
def nxO (x : Option Env) : Option SO := x.map .nx
theorem nxO_some (ρ : Env) : nxO (some ρ) = some (.nx ρ) := rfl
theorem asE_ok (u : U) (ρ : Env) (g : MG K) : asE (some (.ok u ρ)) g = nxO (g.m u ρ) := rfl
theorem asE_ex (e : Exn) (ρ : Env) (g : MG K) : asE (some (.ex e ρ)) g = some (.ex e ρ) := rfl
theorem msAsg_e (e : ME K) (g : MG K) (h : e.k = true) (ρ : Env) : (@msAsg K e g h).m ρ = asE (e.m ρ) g := rfl
def gcE (x : Option Env) (gs : MGs K) (us : List U) : Option Env := x.bind fun ρ1 => gs.m us ρ1
theorem gcE_some (ρ : Env) (gs : MGs K) (us : List U) : gcE (some ρ) gs us = gs.m us ρ := rfl
theorem mgCons_e (g : MG K) (gs : MGs K) (u : U) (us : List U) (ρ : Env) : (@mgCons K g gs).m (u :: us) ρ = gcE (g.m u ρ) gs us := rfl
theorem mgNil_e (ρ : Env) : (@mgNil K).m [] ρ = some ρ := rfl
theorem mgTup_e (n : Nat) (gs : MGs K) (us : List U) (ρ : Env) (h : us.length = n) : (@mgTup K n gs).m (.tup us) ρ = gs.m us ρ := if_pos h
theorem mgName_e (i : Nat) (u : U) (ρ : Env) : (@mgName K i).m u ρ = some (ρ.set i (.val u)) := rfl
def cvE (x : Option EO) (b : MC K) : Option CA := bindEC x fun u ρ1 => consC (.inl u) (b.m ρ1)
theorem cvE_ok (u : U) (ρ : Env) (b : MC K) : cvE (some (.ok u ρ)) b = consC (.inl u) (b.m ρ) := rfl
theorem cvE_ex (e : Exn) (ρ : Env) (b : MC K) : cvE (some (.ex e ρ)) b = some (.ex e ρ) := rfl
theorem consC_ok (i : U ⊕ Nat) (is : List (U ⊕ Nat)) (ρ : Env) : consC i (some (.ok is ρ)) = some (.ok (i :: is) ρ) := rfl
theorem mcVal_e (a : ME K) (b : MC K) (h : (a.k || b.p) = true) (ρ : Env) : (@mcVal K a b h).m ρ = cvE (a.m ρ) b := rfl
theorem thenS_nx (ρ : Env) (f : Env → Option SO) : thenS (some (.nx ρ)) f = f ρ := rfl
theorem thenS_bk (ρ : Env) (f : Env → Option SO) : thenS (some (.bk ρ)) f = some (.bk ρ) := rfl
theorem thenS_ct (ρ : Env) (f : Env → Option SO) : thenS (some (.ct ρ)) f = some (.ct ρ) := rfl
theorem thenS_rt (r : RV) (ρ : Env) (f : Env → Option SO) : thenS (some (.rt r ρ)) f = some (.rt r ρ) := rfl
theorem thenS_ex (e : Exn) (ρ : Env) (f : Env → Option SO) : thenS (some (.ex e ρ)) f = some (.ex e ρ) := rfl
theorem bindES_ok (u : U) (ρ : Env) (f : U → Env → Option SO) : bindES (some (.ok u ρ)) f = f u ρ := rfl
theorem bindES_ex (e : Exn) (ρ : Env) (f : U → Env → Option SO) : bindES (some (.ex e ρ)) f = some (.ex e ρ) := rfl
theorem bindAS_ok (u : List U) (ρ : Env) (f : List U → Env → Option SO) : bindAS (some (.ok u ρ)) f = f u ρ := rfl
theorem bindAS_ex (e : Exn) (ρ : Env) (f : List U → Env → Option SO) : bindAS (some (.ex e ρ)) f = some (.ex e ρ) := rfl
theorem bindE_ok' (u : U) (ρ : Env) (f : U → Env → Option EO) : bindE (some (.ok u ρ)) f = f u ρ := rfl
theorem bindE_ex' (e : Exn) (ρ : Env) (f : U → Env → Option EO) : bindE (some (.ex e ρ)) f = some (.ex e ρ) := rfl
def fin_ (as : List Slot) (x : Option SO) : Option CO := match x with
  | some (.nx ρ) => (cellAt as ρ).map fun c => .val .non c
  | some (.rt (.val u) ρ) => (cellAt as ρ).map fun c => .val u c
  | some (.rt (.cel us) ρ) => (cellAt as ρ).map fun c => .cel us c
  | some (.ex e ρ) => (cellAt as ρ).map fun c => .ex e c
  | _ => none
theorem mfOf_e (N : Nat) (b : MS K) (as : List Slot) : mfOf N b.m as = fin_ as (b.m (as.map unown ++ List.replicate (N - as.length) .non)) := rfl
def noX (x : Option CO) : Option CO := match x with
  | some (.ex _ _) => none
  | o => o
theorem mfOf0_e (N : Nat) (b : MS K) (as : List Slot) : mfOf0 N b.m as = noX (fin_ as (b.m (as.map unown ++ List.replicate (N - as.length) .non))) := rfl
theorem noX_val (u : U) (c : Option (List U)) : noX (some (.val u c)) = some (.val u c) := rfl
theorem noX_cel (u : List U) (c : Option (List U)) : noX (some (.cel u c)) = some (.cel u c) := rfl
def coM (x : Option (Option (List U))) (f : Option (List U) → CO) : Option CO := x.map f
theorem coM_some (c : Option (List U)) (f : Option (List U) → CO) : coM (some c) f = some (f c) := rfl
theorem fin_val (as : List Slot) (u : U) (ρ : Env) : fin_ as (some (.rt (.val u) ρ)) = coM (cellAt as ρ) (.val u) := rfl
theorem fin_cel (as : List Slot) (u : List U) (ρ : Env) : fin_ as (some (.rt (.cel u) ρ)) = coM (cellAt as ρ) (.cel u) := rfl
theorem fin_nx (as : List Slot) (ρ : Env) : fin_ as (some (.nx ρ)) = coM (cellAt as ρ) (.val .non) := rfl
theorem fin_ex (as : List Slot) (e : Exn) (ρ : Env) : fin_ as (some (.ex e ρ)) = coM (cellAt as ρ) (.ex e) := rfl
end
end Sg

set_option Elab.async false
set_option linter.all false
set_option maxRecDepth 100000
set_option maxHeartbeats 4000000
namespace Sg
open PySem L2
variable {K : PySem.W.Frag}
/-! ### operators on known kinds -/
theorem oAdd_i (i j : Int) : (oAdd (K := K)).f (.int i) (.int j) = some (.int (i + j)) := rfl
theorem oSub_i (i j : Int) : (oSub (K := K)).f (.int i) (.int j) = some (.int (i - j)) := rfl
theorem oMul_l (i j : Int) (h1 : -18446744073709551616 < i) (h2 : i < 18446744073709551616) : (oMul (K := K)).f (.int i) (.int j) = some (.int (i * j)) := if_pos (.inl (.inl ⟨by omega, by omega⟩))
theorem oMul_r (i j : Int) (h1 : -18446744073709551616 < j) (h2 : j < 18446744073709551616) : (oMul (K := K)).f (.int i) (.int j) = some (.int (i * j)) := if_pos (.inl (.inr ⟨by omega, by omega⟩))
theorem oMod_i (i j : Int) (h : 0 < j) : (oMod (K := K)).f (.int i) (.int j) = some (.int (i % j)) := by
  show (if j ≠ 0 then some (U.int (i.fmod j)) else none) = _
  rw [if_pos (by omega), Int.fmod_eq_emod_of_nonneg _ (by omega)]
theorem oDiv_i (i j : Int) (h : 0 < j) (h2 : j < 1000000000000000000000000000000000000000000000000000000000000000000000000) : (oDiv (K := K)).f (.int i) (.int j) = some (.int (i / j)) := by
  show (if j ≠ 0 ∧ j.natAbs < 1073741824 then some (U.int (i.fdiv j)) else if 0 < j ∧ j.natAbs.log2 < 9000 then some (U.int (i / j)) else none) = _
  rw [Int.fdiv_eq_ediv_of_nonneg _ (by omega)]
  split
  · rfl
  · have h3 : j.natAbs < 2 ^ 9000 := by
      have : j.natAbs < 1000000000000000000000000000000000000000000000000000000000000000000000000 := by omega
      refine Nat.lt_of_lt_of_le this (by decide +kernel)
    rw [if_pos ⟨h, (Nat.log2_lt (by omega)).mpr h3⟩]
theorem oPow_i (i j : Int) (h1 : -18446744073709551616 < i) (h2 : i < 18446744073709551616) (h3 : 0 ≤ j) (h4 : j ≤ 1000000) : (oPow (K := K)).f (.int i) (.int j) = some (.int (i ^ j.toNat)) := if_pos ⟨h3, h4, by omega⟩
theorem oLt_i (i j : Int) : (oLt (K := K)).f (.int i) (.int j) = some (.bl (decide (i < j))) := rfl
theorem oLe_i (i j : Int) : (oLe (K := K)).f (.int i) (.int j) = some (.bl (decide (i ≤ j))) := rfl
theorem oGt_i (i j : Int) : (oGt (K := K)).f (.int i) (.int j) = some (.bl (decide (j < i))) := rfl
theorem oGe_i (i j : Int) : (oGe (K := K)).f (.int i) (.int j) = some (.bl (decide (j ≤ i))) := rfl
theorem oEqI_i (i j : Int) : (oEqI (K := K)).f (.int i) (.int j) = some (.bl (decide (i = j))) := rfl
theorem oNeI_i (i j : Int) : (oNeI (K := K)).f (.int i) (.int j) = some (.bl (!decide (i = j))) := rfl
theorem oIx_l (us : List U) (i : Int) : (oIx (K := K)).f (.lst us) (.int i) = atI us i := rfl
theorem oIx_f (us : List U) (i : Int) : (oIx (K := K)).f (.frl us) (.int i) = atI us i := rfl
theorem oIx_t (us : List U) (i : Int) : (oIx (K := K)).f (.tup us) (.int i) = atI us i := rfl
theorem at1_0 (a : U) : atI [a] 0 = some a := rfl
theorem at2_0 (a b : U) : atI [a, b] 0 = some a := rfl
theorem at2_1 (a b : U) : atI [a, b] 1 = some b := rfl
theorem at3_0 (a b c : U) : atI [a, b, c] 0 = some a := rfl
theorem at3_1 (a b c : U) : atI [a, b, c] 1 = some b := rfl
theorem at3_2 (a b c : U) : atI [a, b, c] 2 = some c := rfl
theorem at4_0 (a b c d : U) : atI [a, b, c, d] 0 = some a := rfl
theorem at4_1 (a b c d : U) : atI [a, b, c, d] 1 = some b := rfl
theorem at4_2 (a b c d : U) : atI [a, b, c, d] 2 = some c := rfl
theorem at4_3 (a b c d : U) : atI [a, b, c, d] 3 = some d := rfl
theorem ix3_0 : ixN 3 0 = some 0 := rfl
theorem ix3_1 : ixN 3 1 = some 1 := rfl
theorem ix3_2 : ixN 3 2 = some 2 := rfl
theorem oIsN_non : (oIsN (K := K)).f .non .non = some (.bl true) := rfl
theorem oNotN_non : (oNotN (K := K)).f .non .non = some (.bl false) := rfl
theorem oNotN_lst (us : List U) : (oNotN (K := K)).f (.lst us) .non = some (.bl true) := rfl
theorem oIsN_lst (us : List U) : (oIsN (K := K)).f (.lst us) .non = some (.bl false) := rfl
theorem oMax2_i (i j : Int) : (oMax2 (K := K)).f [.int i, .int j] = some (.int (if j > i then j else i)) := rfl
theorem oMin2_i (i j : Int) : (oMin2 (K := K)).f [.int i, .int j] = some (.int (if j < i then j else i)) := rfl
theorem oAbs_i (i : Int) : (oAbs (K := K)).f [.int i] = some (.int (if i < 0 then -i else i)) := rfl
theorem oInt_b (b : Bool) : (oInt (K := K)).f [.bl b] = some (.int (if b then 1 else 0)) := rfl
theorem oLen_l (us : List U) : (oLen (K := K)).f [.lst us] = some (.int us.length) := rfl
theorem oLen_f (us : List U) : (oLen (K := K)).f [.frl us] = some (.int us.length) := rfl
theorem oLen_t (us : List U) : (oLen (K := K)).f [.tup us] = some (.int us.length) := rfl
theorem oNeg_i (i : Int) : (oNeg (K := K)).f (.int i) = some (.int (-i)) := rfl
theorem truU_i (i : Int) : truU (.int i) = some (i != 0) := rfl
theorem truU_l (us : List U) : truU (.lst us) = some (!us.isEmpty) := rfl
theorem truU_b (b : Bool) : truU (.bl b) = some b := rfl
theorem truU_n : truU .non = some false := rfl
theorem lstU_l (us : List U) : lstU (.lst us) = some us := rfl
theorem lstU_f (us : List U) : lstU (.frl us) = some us := rfl
theorem ipAdd_i (i j : Int) : (ipAdd (K := K)).f (.int i) (.int j) = some (.int (i + j)) := rfl
theorem ipSub_i (i j : Int) : (ipSub (K := K)).f (.int i) (.int j) = some (.int (i - j)) := rfl
theorem oAppend_u (us : List U) (u : U) (h : us.length < 16777216) : (oAppend (K := K)).f us [u] = some (.non, us ++ [u]) := if_pos h
theorem lstF_0 (ρ : Env) : lstF (some (.ok [] ρ)) = some (.ok [] ρ) := rfl
theorem tupF_0 (ρ : Env) : tupF [] ρ = some (.ok (.tup []) ρ) := rfl
theorem lstF_1 (a : U) (ρ : Env) : lstF (some (.ok [a] ρ)) = some (.ok [a] ρ) := rfl
theorem tupF_1 (a : U) (ρ : Env) : tupF [a] ρ = some (.ok (.tup [a]) ρ) := rfl
theorem lstF_2 (a b : U) (ρ : Env) : lstF (some (.ok [a, b] ρ)) = some (.ok [a, b] ρ) := rfl
theorem tupF_2 (a b : U) (ρ : Env) : tupF [a, b] ρ = some (.ok (.tup [a, b]) ρ) := rfl
theorem lstF_3 (a b c : U) (ρ : Env) : lstF (some (.ok [a, b, c] ρ)) = some (.ok [a, b, c] ρ) := rfl
theorem tupF_3 (a b c : U) (ρ : Env) : tupF [a, b, c] ρ = some (.ok (.tup [a, b, c]) ρ) := rfl
theorem lstF_4 (a b c d : U) (ρ : Env) : lstF (some (.ok [a, b, c, d] ρ)) = some (.ok [a, b, c, d] ρ) := rfl
theorem tupF_4 (a b c d : U) (ρ : Env) : tupF [a, b, c, d] ρ = some (.ok (.tup [a, b, c, d]) ρ) := rfl
theorem lstF_5 (a b c d e : U) (ρ : Env) : lstF (some (.ok [a, b, c, d, e] ρ)) = some (.ok [a, b, c, d, e] ρ) := rfl
theorem tupF_5 (a b c d e : U) (ρ : Env) : tupF [a, b, c, d, e] ρ = some (.ok (.tup [a, b, c, d, e]) ρ) := rfl
theorem lstF_6 (a b c d e f : U) (ρ : Env) : lstF (some (.ok [a, b, c, d, e, f] ρ)) = some (.ok [a, b, c, d, e, f] ρ) := rfl
theorem tupF_6 (a b c d e f : U) (ρ : Env) : tupF [a, b, c, d, e, f] ρ = some (.ok (.tup [a, b, c, d, e, f]) ρ) := rfl
/-! ### kinds -/
theorem isi_NoneType_bool : isiB "NoneType" "bool" = some false := by decide
theorem isi_NoneType_int : isiB "NoneType" "int" = some false := by decide
theorem isi_NoneType_str : isiB "NoneType" "str" = some false := by decide
theorem isi_NoneType_list : isiB "NoneType" "list" = some false := by decide
theorem isi_NoneType_tuple : isiB "NoneType" "tuple" = some false := by decide
theorem isi_NoneType_dict : isiB "NoneType" "dict" = some false := by decide
theorem isi_bool_bool : isiB "bool" "bool" = some true := by decide
theorem isi_bool_int : isiB "bool" "int" = some true := by decide
theorem isi_bool_str : isiB "bool" "str" = some false := by decide
theorem isi_bool_list : isiB "bool" "list" = some false := by decide
theorem isi_bool_tuple : isiB "bool" "tuple" = some false := by decide
theorem isi_bool_dict : isiB "bool" "dict" = some false := by decide
theorem isi_int_bool : isiB "int" "bool" = some false := by decide
theorem isi_int_int : isiB "int" "int" = some true := by decide
theorem isi_int_str : isiB "int" "str" = some false := by decide
theorem isi_int_list : isiB "int" "list" = some false := by decide
theorem isi_int_tuple : isiB "int" "tuple" = some false := by decide
theorem isi_int_dict : isiB "int" "dict" = some false := by decide
theorem isi_str_bool : isiB "str" "bool" = some false := by decide
theorem isi_str_int : isiB "str" "int" = some false := by decide
theorem isi_str_str : isiB "str" "str" = some true := by decide
theorem isi_str_list : isiB "str" "list" = some false := by decide
theorem isi_str_tuple : isiB "str" "tuple" = some false := by decide
theorem isi_str_dict : isiB "str" "dict" = some false := by decide
theorem isi_list_bool : isiB "list" "bool" = some false := by decide
theorem isi_list_int : isiB "list" "int" = some false := by decide
theorem isi_list_str : isiB "list" "str" = some false := by decide
theorem isi_list_list : isiB "list" "list" = some true := by decide
theorem isi_list_tuple : isiB "list" "tuple" = some false := by decide
theorem isi_list_dict : isiB "list" "dict" = some false := by decide
theorem isi_tuple_bool : isiB "tuple" "bool" = some false := by decide
theorem isi_tuple_int : isiB "tuple" "int" = some false := by decide
theorem isi_tuple_str : isiB "tuple" "str" = some false := by decide
theorem isi_tuple_list : isiB "tuple" "list" = some false := by decide
theorem isi_tuple_tuple : isiB "tuple" "tuple" = some true := by decide
theorem isi_tuple_dict : isiB "tuple" "dict" = some false := by decide
theorem isi_dict_bool : isiB "dict" "bool" = some false := by decide
theorem isi_dict_int : isiB "dict" "int" = some false := by decide
theorem isi_dict_str : isiB "dict" "str" = some false := by decide
theorem isi_dict_list : isiB "dict" "list" = some false := by decide
theorem isi_dict_tuple : isiB "dict" "tuple" = some false := by decide
theorem isi_dict_dict : isiB "dict" "dict" = some true := by decide
theorem tyU_n : tyU .non = some "NoneType" := rfl
theorem tyU_b (b : Bool) : tyU (.bl b) = some "bool" := rfl
theorem tyU_i (b : Int) : tyU (.int b) = some "int" := rfl
theorem tyU_s (b : Str) : tyU (.str b) = some "str" := rfl
theorem tyU_l (b : List U) : tyU (.lst b) = some "list" := rfl
theorem tyU_t (b : List U) : tyU (.tup b) = some "tuple" := rfl
/-! ### statements about literals -/
theorem rngOk_i (i j : Int) (h1 : -4611686018427387904 ≤ i) (h2 : i < 4611686018427387904) (h3 : -4611686018427387904 ≤ j) (h4 : j < 4611686018427387904) : rngOk i j = true := decide_eq_true ⟨by omega, by omega, by omega, by omega⟩
end Sg

set_option Elab.async false
set_option linter.all false
set_option maxRecDepth 100000
set_option maxHeartbeats 4000000
namespace Sg
open PySem L2
variable {K : PySem.W.Frag}
/-! ### loops and comprehensions, by invariants -/
theorem loopM_inv {g : U → Env → Option Env} {b : Env → Option SO} {kl : List Nat} (I : List U → Env → Prop)
    (step : ∀ u us ρ, I (u :: us) ρ → ∃ ρ1 ρ2, g u ρ = some ρ1 ∧ (b ρ1 = some (.nx ρ2) ∨ b ρ1 = some (.ct ρ2)) ∧ I us (kills ρ2 kl)) :
    ∀ us ρ, I us ρ → ∃ ρ', loopM g b kl us ρ = some (.nx ρ') ∧ I [] ρ'
  | [], ρ, h => ⟨ρ, rfl, h⟩
  | u :: us, ρ, h => by
    obtain ⟨ρ1, ρ2, e1, e2, h2⟩ := step u us ρ h
    obtain ⟨ρ', e3, h3⟩ := loopM_inv I step us _ h2
    refine ⟨ρ', ?_, h3⟩
    unfold loopM
    rcases e2 with e2 | e2 <;> simp only [e1, e2, e3]
/-- a loop that may also leave by an exception -/
theorem loopM_invX {g : U → Env → Option Env} {b : Env → Option SO} {kl : List Nat} (I : List U → Env → Prop) (J : Exn → Env → Prop)
    (step : ∀ u us ρ, I (u :: us) ρ → ∃ ρ1, g u ρ = some ρ1 ∧ ((∃ ρ2, b ρ1 = some (.nx ρ2) ∧ I us (kills ρ2 kl)) ∨ ∃ e ρ2, b ρ1 = some (.ex e ρ2) ∧ J e ρ2)) :
    ∀ us ρ, I us ρ → (∃ ρ', loopM g b kl us ρ = some (.nx ρ') ∧ I [] ρ') ∨ ∃ e ρ', loopM g b kl us ρ = some (.ex e ρ') ∧ J e ρ'
  | [], ρ, h => .inl ⟨ρ, rfl, h⟩
  | u :: us, ρ, h => by
    obtain ⟨ρ1, e1, h1⟩ := step u us ρ h
    rcases h1 with ⟨ρ2, e2, h2⟩ | ⟨e, ρ2, e2, h2⟩
    · rcases loopM_invX I J step us _ h2 with ⟨ρ', e3, h3⟩ | ⟨e, ρ', e3, h3⟩
      · exact .inl ⟨ρ', by unfold loopM; simp only [e1, e2, e3], h3⟩
      · exact .inr ⟨e, ρ', by unfold loopM; simp only [e1, e2, e3], h3⟩
    · exact .inr ⟨e, ρ2, by unfold loopM; simp only [e1, e2], h2⟩
theorem lcM_inv {g : U → Env → Option Env} {tt : Env → Option TOu} {e : Env → Option EO} {vs : List Nat} (I : List U → List U → Env → Prop)
    (step : ∀ u us acc ρ, I (u :: us) acc ρ → ∃ ρ1, g u ρ = some ρ1 ∧ ((∃ ρ2, tt ρ1 = some (.ok false ρ2) ∧ I us acc (kills ρ2 vs)) ∨
      ∃ ρ2 w ρ3, tt ρ1 = some (.ok true ρ2) ∧ e ρ2 = some (.ok w ρ3) ∧ acc.length < 16777216 ∧ I us (acc ++ [w]) (kills ρ3 vs))) :
    ∀ us acc ρ, I us acc ρ → ∃ acc' ρ', lcM g tt e vs us acc ρ = some (.ok acc' ρ') ∧ I [] acc' ρ'
  | [], acc, ρ, h => ⟨acc, ρ, rfl, h⟩
  | u :: us, acc, ρ, h => by
    obtain ⟨ρ1, e1, h1⟩ := step u us acc ρ h
    rcases h1 with ⟨ρ2, e2, h2⟩ | ⟨ρ2, w, ρ3, e2, e3, hl, h2⟩
    · obtain ⟨acc', ρ', e4, h4⟩ := lcM_inv I step us _ _ h2
      exact ⟨acc', ρ', by unfold lcM; simp only [e1, e2, e4], h4⟩
    · obtain ⟨acc', ρ', e4, h4⟩ := lcM_inv I step us _ _ h2
      exact ⟨acc', ρ', by unfold lcM; simp only [e1, e2, e3, e4, hl, if_true], h4⟩
/-- a comprehension that changes nothing around it -/
theorem lcM_map {g : U → Env → Option Env} {tt : Env → Option TOu} {e : Env → Option EO} {vs : List Nat} {ρ : Env} (F : U → Option U) :
    ∀ us acc, acc.length + us.length ≤ 16777216 → (∀ u ∈ us, ∃ ρ1, g u ρ = some ρ1 ∧ ((∃ ρ2, tt ρ1 = some (.ok false ρ2) ∧ kills ρ2 vs = ρ ∧ F u = none) ∨
      ∃ ρ2 w ρ3, tt ρ1 = some (.ok true ρ2) ∧ e ρ2 = some (.ok w ρ3) ∧ kills ρ3 vs = ρ ∧ F u = some w)) →
    lcM g tt e vs us acc ρ = some (.ok (acc ++ us.filterMap F) ρ)
  | [], acc, _, _ => by rw [List.filterMap_nil, List.append_nil]; rfl
  | u :: us, acc, hl, h => by
    obtain ⟨ρ1, e1, h1⟩ := h u List.mem_cons_self
    rw [List.length_cons] at hl
    rcases h1 with ⟨ρ2, e2, hk, hF⟩ | ⟨ρ2, w, ρ3, e2, e3, hk, hF⟩
    · have ih := lcM_map F us acc (by omega) fun v hv => h v (List.mem_cons_of_mem _ hv)
      rw [List.filterMap_cons_none hF]
      unfold lcM
      simp only [e1, e2, hk, ih]
    · have ih := lcM_map F us (acc ++ [w]) (by rw [List.length_append, List.length_singleton]; omega) fun v hv => h v (List.mem_cons_of_mem _ hv)
      rw [List.filterMap_cons_some hF]
      unfold lcM
      have hl2 : acc.length < 16777216 := by omega
      simp only [e1, e2, e3, hk, ih, hl2, if_true, List.append_assoc, List.singleton_append]
/-- all elements, over a list of things of one form -/
theorem lcM_all {α : Type} {g : U → Env → Option Env} {tt : Env → Option TOu} {e : Env → Option EO} {vs : List Nat} {ρ : Env} (r : α → U) (f : α → U) (xs : List α) (hl : xs.length ≤ 16777216)
    (h : ∀ x ∈ xs, ∃ ρ1 ρ2 ρ3, g (r x) ρ = some ρ1 ∧ tt ρ1 = some (.ok true ρ2) ∧ e ρ2 = some (.ok (f x) ρ3) ∧ kills ρ3 vs = ρ) :
    lcM g tt e vs (xs.map r) [] ρ = some (.ok (xs.map f) ρ) := by
  have : ∀ (xs : List α) acc, acc.length + xs.length ≤ 16777216 → (∀ x ∈ xs, ∃ ρ1 ρ2 ρ3, g (r x) ρ = some ρ1 ∧ tt ρ1 = some (.ok true ρ2) ∧ e ρ2 = some (.ok (f x) ρ3) ∧ kills ρ3 vs = ρ) →
      lcM g tt e vs (xs.map r) acc ρ = some (.ok (acc ++ xs.map f) ρ) := by
    intro xs
    induction xs with
    | nil => intro acc _ _; simp [lcM]
    | cons x xs ih =>
      intro acc hl h
      obtain ⟨ρ1, ρ2, ρ3, e1, e2, e3, hk⟩ := h x List.mem_cons_self
      rw [List.length_cons] at hl
      have i2 := ih (acc ++ [f x]) (by rw [List.length_append, List.length_singleton]; omega) fun v hv => h v (List.mem_cons_of_mem _ hv)
      have hl2 : acc.length < 16777216 := by omega
      rw [List.map_cons, List.map_cons]
      unfold lcM
      simp only [e1, e2, e3, hk, i2, hl2, if_true, List.append_assoc, List.singleton_append]
  have z := this xs [] (by simpa using hl) h
  simpa using z
theorem lcM_filter {α : Type} {g : U → Env → Option Env} {tt : Env → Option TOu} {e : Env → Option EO} {vs : List Nat} {ρ : Env} (r : α → U) (f : α → U) (p : α → Bool) (xs : List α) (hl : xs.length ≤ 16777216)
    (h : ∀ x ∈ xs, ∃ ρ1 ρ2, g (r x) ρ = some ρ1 ∧ tt ρ1 = some (.ok (p x) ρ2) ∧ (p x = false → kills ρ2 vs = ρ) ∧ (p x = true → ∃ ρ3, e ρ2 = some (.ok (f x) ρ3) ∧ kills ρ3 vs = ρ)) :
    lcM g tt e vs (xs.map r) [] ρ = some (.ok ((xs.filter p).map f) ρ) := by
  have : ∀ (xs : List α) acc, acc.length + xs.length ≤ 16777216 → (∀ x ∈ xs, ∃ ρ1 ρ2, g (r x) ρ = some ρ1 ∧ tt ρ1 = some (.ok (p x) ρ2) ∧ (p x = false → kills ρ2 vs = ρ) ∧ (p x = true → ∃ ρ3, e ρ2 = some (.ok (f x) ρ3) ∧ kills ρ3 vs = ρ)) →
      lcM g tt e vs (xs.map r) acc ρ = some (.ok (acc ++ (xs.filter p).map f) ρ) := by
    intro xs
    induction xs with
    | nil => intro acc _ _; simp [lcM]
    | cons x xs ih =>
      intro acc hl h
      obtain ⟨ρ1, ρ2, e1, e2, k1, k2⟩ := h x List.mem_cons_self
      rw [List.length_cons] at hl
      have hl2 : acc.length < 16777216 := by omega
      rw [List.map_cons]
      unfold lcM
      cases hp : p x with
      | false =>
        have i2 := ih acc (by omega) fun v hv => h v (List.mem_cons_of_mem _ hv)
        rw [hp] at e2
        have k1 := k1 hp
        simp only [e1, e2, k1, i2, List.filter_cons, hp, if_false, Bool.false_eq_true]
      | true =>
        have i2 := ih (acc ++ [f x]) (by rw [List.length_append, List.length_singleton]; omega) fun v hv => h v (List.mem_cons_of_mem _ hv)
        rw [hp] at e2
        obtain ⟨ρ3, e3, k3⟩ := k2 hp
        simp only [e1, e2, e3, k3, i2, hl2, if_true, List.filter_cons, hp, List.map_cons, List.append_assoc, List.singleton_append]
  have z := this xs [] (by simpa using hl) h
  simpa using z
/-! ### what is walked -/
theorem zipU_map {α β : Type} (r : α → U) (s : β → U) : ∀ (xs : List α) (ys : List β), zipU (xs.map r) (ys.map s) = (xs.zip ys).map fun p => .tup [r p.1, s p.2]
  | [], _ => rfl
  | _ :: _, [] => rfl
  | x :: xs, y :: ys => by
    show U.tup [r x, s y] :: zipU (xs.map r) (ys.map s) = _
    rw [zipU_map r s xs ys]
    rfl
theorem enumU_map {α : Type} (r : α → U) : ∀ (xs : List α) (k : Nat), enumU k (xs.map r) = (xs.zipIdx k).map fun p => .tup [.int (p.2 : Nat), r p.1]
  | [], _ => rfl
  | x :: xs, k => by
    show U.tup [.int (k : Nat), r x] :: enumU (k + 1) (xs.map r) = _
    rw [enumU_map r xs (k + 1)]
    rfl
theorem intsU_map : ∀ is : List Int, intsU (is.map U.int) = some is
  | [] => rfl
  | i :: is => by
    show (intsU (is.map U.int)).map (fun js => i :: js) = _
    rw [intsU_map is]
    rfl
theorem blsU_map : ∀ is : List Bool, blsU (is.map U.bl) = some is
  | [] => rfl
  | i :: is => by
    show (blsU (is.map U.bl)).map (fun js => i :: js) = _
    rw [blsU_map is]
    rfl
theorem oAll_l (bs : List Bool) : (oAll (K := K)).f [.lst (bs.map U.bl)] = some (.bl (bs.all id)) := by
  show (blsU (bs.map U.bl)).map _ = _
  rw [blsU_map]
  rfl
theorem oSum_l (is : List Int) : (oSum (K := K)).f [.lst (is.map U.int)] = some (.int is.sum) := by
  show (intsU (is.map U.int)).map _ = _
  rw [intsU_map]
  rfl
theorem oMax_l (is : List Int) (h : is ≠ []) : (oMax (K := K)).f [.lst (is.map U.int)] = some (.int (maxI is)) := by
  show (intsU (is.map U.int)).bind _ = _
  rw [intsU_map]
  show (if is = [] then none else some (U.int (maxI is))) = _
  rw [if_neg h]
theorem rangeU_map (lo : Int) (n : Nat) : rangeU lo n = (List.range n).map fun i => U.int (lo + (i : Nat)) := rfl
theorem atI_get' {us : List U} {i : Int} {u : U} (h0 : 0 ≤ i) (h : us[i.toNat]? = some u) : atI us i = some u := by
  have e : i = ((i.toNat : Nat) : Int) := (Int.toNat_of_nonneg h0).symm
  rw [e]
  exact atI_nat h
theorem atI_map {α : Type} (r : α → U) {xs : List α} {i : Int} (h0 : 0 ≤ i) (h1 : i < xs.length) : ∃ x ∈ xs, xs[i.toNat]? = some x ∧ atI (xs.map r) i = some (r x) := by
  have hl : i.toNat < xs.length := by omega
  refine ⟨xs[i.toNat], List.getElem_mem hl, List.getElem?_eq_getElem hl, atI_get' h0 ?_⟩
  rw [List.getElem?_map, List.getElem?_eq_getElem hl]
  rfl
theorem cutU_from (us : List U) (i : Int) (h : 0 ≤ i) : cutU us (some i) none = us.drop i.toNat := by
  have e : i = ((i.toNat : Nat) : Int) := (Int.toNat_of_nonneg h).symm
  unfold cutU
  rw [e, HT.sIx_nat, HT.sIx_none, Int.toNat_natCast]
  by_cases c : i.toNat ≤ us.length
  · rw [Nat.min_eq_left c, List.take_of_length_le (by rw [List.length_drop]; exact Nat.le_refl _)]
  · rw [Nat.min_eq_right (by omega), List.drop_of_length_le (Nat.le_refl _), List.drop_of_length_le (by omega)]
    simp
theorem cutU_1 (us : List U) : cutU us (some 1) none = us.drop 1 := cutU_from us 1 (by decide)
theorem cutU_m1 (us : List U) : cutU us none (some (-1)) = us.dropLast := by
  unfold cutU
  rw [HT.sIx_none]
  show (us.drop 0).take ((-1 + (us.length : Int)).toNat - 0) = _
  rw [List.drop_zero, List.dropLast_eq_take]
  congr 1
  omega
theorem drop_map {α : Type} (r : α → U) (xs : List α) (n : Nat) : (xs.map r).drop n = (xs.drop n).map r := (List.map_drop).symm
theorem reverse_map {α : Type} (r : α → U) (xs : List α) : (xs.map r).reverse = xs.reverse.map r := (List.map_reverse).symm
theorem length_map' {α : Type} (r : α → U) (xs : List α) : ((xs.map r).length : Int) = (xs.length : Int) := by rw [List.length_map]
theorem dropLast_map {α : Type} (r : α → U) (xs : List α) : (xs.map r).dropLast = xs.dropLast.map r := (List.map_dropLast).symm
end Sg

set_option Elab.async false
set_option linter.all false
set_option maxRecDepth 100000
set_option maxHeartbeats 4000000
namespace Sg
open PySem L2
variable {K : PySem.W.Frag}
/-! ### equality of data, by kind -/
structure EqT {α : Type} [DecidableEq α] (r : α → U) (k : Nat) where
  d : α → PyData
  p : ∀ x, pd (r x) = some (d x)
  c : ∀ x, (d x).canLay0 = true
  t : ∀ x, (d x).depth ≤ k
  q : ∀ x y, PyData.eqv (d x) (d y) = decide (x = y)
section
variable {α β γ : Type} [DecidableEq α] [DecidableEq β] [DecidableEq γ] {r : α → U} {s : β → U} {o : γ → U} {k k' k2 : Nat}
def eqInt : EqT U.int 0 where
  d := .int
  p _ := rfl
  c _ := by simp [PyData.canLay0]
  t _ := by simp [PyData.depth]
  q x y := by simp only [PyData.eqv]; by_cases h : x = y <;> simp [h]
def eqBl : EqT U.bl 0 where
  d := .bool
  p _ := rfl
  c _ := by simp [PyData.canLay0]
  t _ := by simp [PyData.depth]
  q x y := by simp only [PyData.eqv]; cases x <;> cases y <;> decide
theorem pdL_map (e : EqT r k) : ∀ xs : List α, pdL (xs.map r) = some (xs.map e.d)
  | [] => rfl
  | x :: xs => by
    show (pd (r x)).bind _ = _
    rw [e.p, Option.bind_some, pdL_map e xs]
    rfl
theorem canAll_map (e : EqT r k) : ∀ xs : List α, PyData.canLayAll0 (xs.map e.d) = true
  | [] => rfl
  | x :: xs => by rw [List.map_cons, PyData.canLayAll0, e.c, canAll_map e xs]; rfl
theorem depthAll_map (e : EqT r k) : ∀ xs : List α, PyData.depthAll (xs.map e.d) ≤ k
  | [] => by rw [List.map_nil, PyData.depthAll]; omega
  | x :: xs => by
    rw [List.map_cons, PyData.depthAll]
    have := e.t x
    have := depthAll_map e xs
    omega
theorem eqvAll_map (e : EqT r k) : ∀ xs ys : List α, PyData.eqvAll (xs.map e.d) (ys.map e.d) = decide (xs = ys)
  | [], [] => by simp [PyData.eqvAll]
  | [], y :: ys => by simp [PyData.eqvAll]
  | x :: xs, [] => by simp [PyData.eqvAll]
  | x :: xs, y :: ys => by
    rw [List.map_cons, List.map_cons, PyData.eqvAll, e.q, eqvAll_map e xs ys]
    by_cases h1 : x = y <;> by_cases h2 : xs = ys <;> simp [h1, h2]
def eqLst (e : EqT r k) : EqT (fun xs : List α => U.lst (xs.map r)) (k + 1) where
  d xs := .list (xs.map e.d)
  p xs := by show (pdL (xs.map r)).map _ = _; rw [pdL_map e]; rfl
  c xs := by rw [PyData.canLay0]; exact canAll_map e xs
  t xs := by rw [PyData.depth]; have := depthAll_map e xs; omega
  q xs ys := by rw [PyData.eqv]; exact eqvAll_map e xs ys
def eqTup2 (e : EqT r k) (f : EqT s k') (h1 : k ≤ k2) (h2 : k' ≤ k2) : EqT (fun p : α × β => U.tup [r p.1, s p.2]) (k2 + 1) where
  d p := .tuple [e.d p.1, f.d p.2]
  p x := by show (pdL [r x.1, s x.2]).map _ = _; simp only [pdL, e.p, f.p, Option.bind_some, Option.map_some]
  c x := by rw [PyData.canLay0]; simp only [PyData.canLayAll0, e.c, f.c, Bool.and_self]
  t x := by rw [PyData.depth]; simp only [PyData.depthAll]; have := e.t x.1; have := f.t x.2; omega
  q x y := by
    obtain ⟨x1, x2⟩ := x
    obtain ⟨y1, y2⟩ := y
    rw [PyData.eqv]
    simp only [PyData.eqvAll, e.q, f.q, Bool.and_true]
    by_cases h1 : x1 = y1 <;> by_cases h2 : x2 = y2 <;> simp [h1, h2]
def eqTup3 (e : EqT r k) (f : EqT s k) (g : EqT o k) : EqT (fun p : α × β × γ => U.tup [r p.1, s p.2.1, o p.2.2]) (k + 1) where
  d p := .tuple [e.d p.1, f.d p.2.1, g.d p.2.2]
  p x := by show (pdL [r x.1, s x.2.1, o x.2.2]).map _ = _; simp only [pdL, e.p, f.p, g.p, Option.bind_some, Option.map_some]
  c x := by rw [PyData.canLay0]; simp only [PyData.canLayAll0, e.c, f.c, g.c, Bool.and_self]
  t x := by rw [PyData.depth]; simp only [PyData.depthAll]; have := e.t x.1; have := f.t x.2.1; have := g.t x.2.2; omega
  q x y := by
    obtain ⟨x1, x2, x3⟩ := x
    obtain ⟨y1, y2, y3⟩ := y
    rw [PyData.eqv]
    simp only [PyData.eqvAll, e.q, f.q, g.q, Bool.and_true]
    by_cases h1 : x1 = y1 <;> by_cases h2 : x2 = y2 <;> by_cases h3 : x3 = y3 <;> simp [h1, h2, h3]
theorem EqT.shaped (e : EqT r k) (hk : k ≤ 64) (x : α) : SeqAt.shaped (e.d x) = true := by
  unfold SeqAt.shaped
  rw [e.c, Bool.true_and]
  exact decide_eq_true (Nat.le_trans (e.t x) hk)
theorem EqT.eq (e : EqT r k) (hk : k ≤ 64) (x y : α) : eqU (r x) (r y) = some (decide (x = y)) := by
  unfold eqU
  rw [e.p, e.p, Option.bind_some, Option.bind_some, if_pos ⟨e.shaped hk x, e.shaped hk y⟩, e.q]
theorem eqU_non : eqU .non .non = some true := rfl
theorem eqU_nl (e : EqT r k) (hk : k + 1 ≤ 64) (xs : List α) : eqU .non (.lst (xs.map r)) = some false := by
  have h := (eqLst e).shaped hk xs
  have p := (eqLst e).p xs
  unfold eqU
  rw [show pd (.lst (xs.map r)) = some ((eqLst e).d xs) from p, show pd .non = some .none from rfl, Option.bind_some, Option.bind_some, if_pos ⟨by decide, h⟩]
  show some (PyData.eqv .none (.list _)) = _
  rw [PyData.eqv]
theorem eqU_ln (e : EqT r k) (hk : k + 1 ≤ 64) (xs : List α) : eqU (.lst (xs.map r)) .non = some false := by
  have h := (eqLst e).shaped hk xs
  have p := (eqLst e).p xs
  unfold eqU
  rw [show pd (.lst (xs.map r)) = some ((eqLst e).d xs) from p, show pd .non = some .none from rfl, Option.bind_some, Option.bind_some, if_pos ⟨h, by decide⟩]
  show some (PyData.eqv (.list _) .none) = _
  rw [PyData.eqv]
end
theorem oEq_u (u v : U) (b : Bool) (h : eqU u v = some b) : (oEq (K := K)).f u v = some (.bl b) := by
  show (eqU u v).map _ = _
  rw [h]; rfl
theorem oNe_u (u v : U) (b : Bool) (h : eqU u v = some b) : (oNe (K := K)).f u v = some (.bl (!b)) := by
  show (eqU u v).map _ = _
  rw [h]; rfl
theorem oEq_i (i j : Int) : (oEq (K := K)).f (.int i) (.int j) = some (.bl (decide (i = j))) := oEq_u _ _ _ (eqInt.eq (by decide) i j)
theorem oNe_i (i j : Int) : (oNe (K := K)).f (.int i) (.int j) = some (.bl (!decide (i = j))) := oNe_u _ _ _ (eqInt.eq (by decide) i j)
theorem oEq_b (i j : Bool) : (oEq (K := K)).f (.bl i) (.bl j) = some (.bl (decide (i = j))) := oEq_u _ _ _ (eqBl.eq (by decide) i j)
theorem oNe_b (i j : Bool) : (oNe (K := K)).f (.bl i) (.bl j) = some (.bl (!decide (i = j))) := oNe_u _ _ _ (eqBl.eq (by decide) i j)
theorem oEq_nn : (oEq (K := K)).f .non .non = some (.bl true) := rfl
theorem oNe_nn : (oNe (K := K)).f .non .non = some (.bl false) := rfl
abbrev pU (p : Int × Int) : U := .tup [.int p.1, .int p.2]
abbrev tU (t : Int × Int × Int) : U := .tup [.int t.1, .int t.2.1, .int t.2.2]
def eqP : EqT pU 1 := eqTup2 eqInt eqInt (Nat.le_refl _) (Nat.le_refl _)
def eqTr : EqT tU 1 := eqTup3 eqInt eqInt eqInt
theorem oEq_tt (xs ys : List (Int × Int × Int)) : (oEq (K := K)).f (.lst (xs.map tU)) (.lst (ys.map tU)) = some (.bl (decide (xs = ys))) := oEq_u _ _ _ ((eqLst eqTr).eq (by decide) xs ys)
theorem oNe_tt (xs ys : List (Int × Int × Int)) : (oNe (K := K)).f (.lst (xs.map tU)) (.lst (ys.map tU)) = some (.bl (!decide (xs = ys))) := oNe_u _ _ _ ((eqLst eqTr).eq (by decide) xs ys)
theorem oEq_tn (xs : List (Int × Int × Int)) : (oEq (K := K)).f (.lst (xs.map tU)) .non = some (.bl false) := oEq_u _ _ _ (eqU_ln eqTr (by decide) xs)
theorem oNe_tn (xs : List (Int × Int × Int)) : (oNe (K := K)).f (.lst (xs.map tU)) .non = some (.bl true) := oNe_u _ _ _ (eqU_ln eqTr (by decide) xs)
theorem oEq_nt (xs : List (Int × Int × Int)) : (oEq (K := K)).f .non (.lst (xs.map tU)) = some (.bl false) := oEq_u _ _ _ (eqU_nl eqTr (by decide) xs)
theorem oNe_nt (xs : List (Int × Int × Int)) : (oNe (K := K)).f .non (.lst (xs.map tU)) = some (.bl true) := oNe_u _ _ _ (eqU_nl eqTr (by decide) xs)
theorem oEq_pp (xs ys : List (Int × Int)) : (oEq (K := K)).f (.lst (xs.map pU)) (.lst (ys.map pU)) = some (.bl (decide (xs = ys))) := oEq_u _ _ _ ((eqLst eqP).eq (by decide) xs ys)
theorem oNe_pp (xs ys : List (Int × Int)) : (oNe (K := K)).f (.lst (xs.map pU)) (.lst (ys.map pU)) = some (.bl (!decide (xs = ys))) := oNe_u _ _ _ ((eqLst eqP).eq (by decide) xs ys)
theorem oEq_ii (xs ys : List Int) : (oEq (K := K)).f (.lst (xs.map U.int)) (.lst (ys.map U.int)) = some (.bl (decide (xs = ys))) := oEq_u _ _ _ ((eqLst eqInt).eq (by decide) xs ys)
theorem oNe_ii (xs ys : List Int) : (oNe (K := K)).f (.lst (xs.map U.int)) (.lst (ys.map U.int)) = some (.bl (!decide (xs = ys))) := oNe_u _ _ _ ((eqLst eqInt).eq (by decide) xs ys)
theorem oEq_s (a b : Str) (ha : (PyData.str a).canLay0 = true) (hb : (PyData.str b).canLay0 = true) : (oEq (K := K)).f (.str a) (.str b) = some (.bl (decide (a = b))) := by
  refine oEq_u _ _ _ ?_
  unfold eqU
  have h1 : SeqAt.shaped (PyData.str a) = true := by unfold SeqAt.shaped; rw [ha, Bool.true_and]; exact decide_eq_true (by rw [PyData.depth]; omega)
  have h2 : SeqAt.shaped (PyData.str b) = true := by unfold SeqAt.shaped; rw [hb, Bool.true_and]; exact decide_eq_true (by rw [PyData.depth]; omega)
  rw [show pd (.str a) = some (.str a) from rfl, show pd (.str b) = some (.str b) from rfl, Option.bind_some, Option.bind_some, if_pos ⟨h1, h2⟩, PyData.eqv]
  by_cases h : a = b <;> simp [h]
theorem oNe_s (a b : Str) (ha : (PyData.str a).canLay0 = true) (hb : (PyData.str b).canLay0 = true) : (oNe (K := K)).f (.str a) (.str b) = some (.bl (!decide (a = b))) := by
  have h := oEq_s (K := K) a b ha hb
  have z : (eqU (.str a) (.str b)).map U.bl = some (.bl (decide (a = b))) := h
  obtain ⟨c, e1, e2⟩ := Option.map_eq_some_iff.mp z
  cases e2
  exact oNe_u _ _ _ e1
end Sg

set_option Elab.async false
set_option linter.all false
set_option maxRecDepth 100000
set_option maxHeartbeats 4000000
namespace Sg
open PySem L2
/-- no promise at all -/
theorem fn_none {P : Program} {w : World} {K : PySem.W.Frag} {mg : Str → Option Value} {base : Heap} {CX : CXT} {k n : Nat} {f : Addr} {fd : FuncData} {ps : List Str} (mf : List Slot → Option CO) (h : mf = fun _ => none) : FnOk P w K mg base CX k f fd ps (spM K n mf) :=
  ⟨fun vs H Q E z => (by obtain ⟨_, _, _, _, _, _, _, m, _⟩ := z; rw [h] at m; cases m),
    fun A outer s H args us vs Q E hr e0 hb r z => (by obtain ⟨_, _, _, _, _, _, _, m, _⟩ := z; rw [h] at m; cases m)⟩
section
variable {X : Cx} {W : WX} {pos p2 p3 p4 : Pos} {e a b c : Expr} {es : List Expr} {A B C : ME X.K} {j : Nat} {x : Str} {k n : Nat} {mf : List Slot → Option CO} {L : MC X.K}
theorem dcallL0 {h} (c : Cal X.prog X.w X.K X.mg X.base CX0 k x n mf) (hr : Room k X.A) (ha : PA X (e :: es) (L.t W)) (hg : Gl X x := by rfl) (hdb : (x == ("__debug__" : Str)) = false := by decide)
    (he : starEach (e :: es) X.env = (false, eval e X.env) :: starEach es X.env := by rfl) (hpl : (backTo pos (starEach es X.env)).any (·.1) = false := by rfl) : PE X (.Call (.Name x p2) (e :: es) [] pos) ((mCallL n mf L h).t W) := pcal0 c hr ha hg hdb he hpl
theorem dcallLX {h} (c : Cal X.prog X.w X.K X.mg X.base (L2.CX X.prog X.w) k x n mf) (hr : Room k X.A) (tk : Takes X W) (ha : PA X (e :: es) (L.t W)) (hg : Gl X x := by rfl) (hdb : (x == ("__debug__" : Str)) = false := by decide)
    (he : starEach (e :: es) X.env = (false, eval e X.env) :: starEach es X.env := by rfl) (hpl : (backTo pos (starEach es X.env)).any (·.1) = false := by rfl) : PE X (.Call (.Name x p2) (e :: es) [] pos) ((mCallL n mf L h).t W) := pcalX c hr tk ha hg hdb he hpl
theorem dcallG0 {h} (c : CalG X.prog X.w X.K X.mg X.base CX0 k x n mf) (hr : Room k X.A) (hgu : X.A.guards = some []) (ha : PA X (e :: es) (L.t W)) (hg : Gl X x := by rfl) (hdb : (x == ("__debug__" : Str)) = false := by decide)
    (he : starEach (e :: es) X.env = (false, eval e X.env) :: starEach es X.env := by rfl) (hpl : (backTo pos (starEach es X.env)).any (·.1) = false := by rfl) : PE X (.Call (.Name x p2) (e :: es) [] pos) ((mCall n mf L h).t W) := pcalG0 c hr hgu ha hg hdb he hpl
theorem dcallGX {h} (c : CalG X.prog X.w X.K X.mg X.base (L2.CX X.prog X.w) k x n mf) (hr : Room k X.A) (hgu : X.A.guards = some []) (tk : Takes X W) (ha : PA X (e :: es) (L.t W)) (hg : Gl X x := by rfl) (hdb : (x == ("__debug__" : Str)) = false := by decide)
    (he : starEach (e :: es) X.env = (false, eval e X.env) :: starEach es X.env := by rfl) (hpl : (backTo pos (starEach es X.env)).any (·.1) = false := by rfl) : PE X (.Call (.Name x p2) (e :: es) [] pos) ((mCall n mf L h).t W) := pcalGX c hr hgu tk ha hg hdb he hpl
theorem dcallGL0 {h} (c : CalG X.prog X.w X.K X.mg X.base CX0 k x n mf) (hr : Room k X.A) (hgu : X.A.guards = some []) (ha : PA X (e :: es) (L.t W)) (hg : Gl X x := by rfl) (hdb : (x == ("__debug__" : Str)) = false := by decide)
    (he : starEach (e :: es) X.env = (false, eval e X.env) :: starEach es X.env := by rfl) (hpl : (backTo pos (starEach es X.env)).any (·.1) = false := by rfl) : PE X (.Call (.Name x p2) (e :: es) [] pos) ((mCallL n mf L h).t W) := pcalG0 c hr hgu ha hg hdb he hpl
theorem dcallGLX {h} (c : CalG X.prog X.w X.K X.mg X.base (L2.CX X.prog X.w) k x n mf) (hr : Room k X.A) (hgu : X.A.guards = some []) (tk : Takes X W) (ha : PA X (e :: es) (L.t W)) (hg : Gl X x := by rfl) (hdb : (x == ("__debug__" : Str)) = false := by decide)
    (he : starEach (e :: es) X.env = (false, eval e X.env) :: starEach es X.env := by rfl) (hpl : (backTo pos (starEach es X.env)).any (·.1) = false := by rfl) : PE X (.Call (.Name x p2) (e :: es) [] pos) ((mCallL n mf L h).t W) := pcalGX c hr hgu tk ha hg hdb he hpl
end
variable {K : PySem.W.Frag}
/-! evaluation -/
theorem mIsiT_m (ns : List String) (a : ME K) (h) (ρ : Env) : (@mIsiT K ns a h).m ρ = bindE (a.m ρ) fun u ρ1 => (tyU u).bind fun s => (isiAny s ns).map fun b => .ok (.bl b) ρ1 := rfl
theorem mCallL_m (n : Nat) (mf : List Slot → Option CO) (a : MC K) (h) (ρ : Env) : (@mCallL K n mf a h).m ρ = lendM n mf (a.m ρ) := rfl
def lendR (ρ : Env) (x : Option CO) : Option EO := match x with
  | some (.val u _) => if (scV u).isSome then some (.ok u ρ) else none
  | some (.ex e _) => some (.ex e ρ)
  | _ => none
def lendA (mf : List Slot → Option CO) (ρ : Env) (x : Option (List Slot)) : Option EO := x.bind fun as => lendR ρ (mf as)
theorem lendM_ok (n : Nat) (mf : List Slot → Option CO) (is : List (U ⊕ Nat)) (ρ : Env) : lendM n mf (some (.ok is ρ)) = if is.length = n then lendA mf ρ (resolveL ρ is) else none := rfl
theorem lendM_ex (n : Nat) (mf : List Slot → Option CO) (e : Exn) (ρ : Env) : lendM n mf (some (.ex e ρ)) = some (.ex e ρ) := rfl
theorem lendA_some (mf : List Slot → Option CO) (ρ : Env) (as : List Slot) : lendA mf ρ (some as) = lendR ρ (mf as) := rfl
theorem lendR_b (ρ : Env) (b : Bool) (c : Option (List U)) : lendR ρ (some (.val (.bl b) c)) = some (.ok (.bl b) ρ) := rfl
theorem lendR_i (ρ : Env) (b : Int) (c : Option (List U)) : lendR ρ (some (.val (.int b) c)) = some (.ok (.int b) ρ) := rfl
theorem lendR_n (ρ : Env) (c : Option (List U)) : lendR ρ (some (.val .non c)) = some (.ok .non ρ) := rfl
theorem lendR_ex (ρ : Env) (e : Exn) (c : Option (List U)) : lendR ρ (some (.ex e c)) = some (.ex e ρ) := rfl
theorem resolveL_nil (ρ : Env) : resolveL ρ [] = some [] := rfl
theorem resolveL_v (ρ : Env) (u : U) (r : List (U ⊕ Nat)) : resolveL ρ (.inl u :: r) = (resolveL ρ r).map fun as => .val u :: as := rfl
def resC (x : Option Slot) (y : Option (List Slot)) : Option (List Slot) := match x with
  | some (.cel _ us) => y.map fun as => .val (.lst us) :: as
  | _ => none
theorem resolveL_c (ρ : Env) (j : Nat) (r : List (U ⊕ Nat)) : resolveL ρ (.inr j :: r) = resC ρ[j]? (resolveL ρ r) := rfl
theorem resC_c (o : Bool) (us : List U) (y : Option (List Slot)) : resC (some (.cel o us)) y = y.map fun as => .val (.lst us) :: as := rfl
def dicO (ks : List Key) (x : Option AO) : Option EO := match x with
  | none => none
  | some (.ex e ρ1) => some (.ex e ρ1)
  | some (.ok us ρ1) => some (.ok (.dic (ks.zip us)) ρ1)
theorem mDict_m (ks : List Key) (P : MP K) (h0) (h1) (h2) (ρ : Env) : (@mDict K ks P h0 h1 h2).m ρ = dicO ks (P.m ρ) := by subst h0; rfl
theorem dicO_ok (ks : List Key) (us : List U) (ρ : Env) : dicO ks (some (.ok us ρ)) = some (.ok (.dic (ks.zip us)) ρ) := rfl
theorem mpNil_m (ρ : Env) : (@mpNil K).m ρ = some (.ok [] ρ) := rfl
def mpC2 (u : U) (y : Option AO) : Option AO := match y with
      | none => none
      | some (.ex e ρ2) => some (.ex e ρ2)
      | some (.ok us ρ2) => some (.ok (u :: us) ρ2)
def mpC (x : Option EO) (b : MP K) : Option AO := match x with
    | none => none
    | some (.ex e ρ1) => some (.ex e ρ1)
    | some (.ok u ρ1) => mpC2 u (b.m ρ1)
theorem mpCons_m (k : Key) (a : ME K) (b : MP K) (h) (ρ : Env) : (@mpCons K k a b h).m ρ = mpC (a.m ρ) b := rfl
theorem mpC_ok (u : U) (ρ : Env) (b : MP K) : mpC (some (.ok u ρ)) b = mpC2 u (b.m ρ) := rfl
theorem mpC2_ok (u : U) (us : List U) (ρ : Env) : mpC2 u (some (.ok us ρ)) = some (.ok (u :: us) ρ) := rfl
theorem mpNil_ks : (@mpNil K).ks = [] := rfl
theorem mpCons_ks (k : Key) (a : ME K) (b : MP K) (h) : (@mpCons K k a b h).ks = k :: b.ks := rfl
def getO (ρ : Env) (kvs : List (Key × U)) (z : U) (y : Option Key) : Option EO := y.map fun k => .ok ((valU kvs k).getD z) ρ
theorem mGet2_m (d k x : ME K) (h1) (h2) (ρ : Env) : (@mGet2 K d k x h1 h2).m ρ = bindE (d.m ρ) fun u ρ1 => match u with
    | .dic kvs => bindE (k.m ρ1) fun y ρ2 => bindE (x.m ρ2) fun z ρ3 => getO ρ3 kvs z (keyU y)
    | _ => none := rfl
theorem getO_some (ρ : Env) (kvs : List (Key × U)) (z : U) (k : Key) : getO ρ kvs z (some k) = some (.ok ((valU kvs k).getD z) ρ) := rfl
theorem keyU_i (i : Int) : keyU (.int i) = some (.inl i) := rfl
theorem keyU_s (s : Str) : keyU (.str s) = some (.inr s) := rfl
def setO (x : Option EO) : Option AO := match x with
    | some (.ok u ρ1) => (lstU u).bind fun us => (sortSetU us).map fun l => .ok (l.map U.int) ρ1
    | some (.ex e ρ1) => some (.ex e ρ1)
    | none => none
theorem mSortSet_m (a : ME K) (h) (ρ : Env) : (@mSortSet K a h).m ρ = setO (a.m ρ) := rfl
theorem setO_l (us : List Int) (ρ : Env) (h : us.length ≤ 1000) : setO (some (.ok (.lst (us.map U.int)) ρ)) = some (.ok ((sortI (dedI us)).map U.int) ρ) := by
  show ((intsU (us.map U.int)).bind fun is => if is.length ≤ 1000 then some (sortI (dedI is)) else none).map _ = _
  rw [intsU_map, Option.bind_some, if_pos h]
  rfl
theorem mr_none : True := trivial
end Sg
namespace Sg
open PySem L2
variable {K : PySem.W.Frag}
/-! ### a, b = v, w by way of a tuple (a name that a comprehension reads) -/
def msTupVF (i j : Nat) (a : ME K) (b : MF K) (ha : a.k = true := by exact id rfl) : MS K where
  t := fun W => tAsg (tTup (tCons (a.t W) (tCons (b.t W) tNil))) (gTup K 2 (gCons (gName i) (gCons (gName j) gNil)))
  m := fun ρ => bindES (a.m ρ) fun u ρ1 => bindAS (b.m ρ1) fun us ρ2 => some (.nx ((ρ2.set i (.val u)).set j (.cel true us)))
  ok := fun F W ρ σ B H D o q R f => by
    rcases bindES_some q with ⟨u, ρ1, e1, q⟩ | ⟨x, ρ1, e1, rfl⟩
    · refine a.ok F W ρ σ B H _ _ e1 R fun v1 B1 H1 x1 p1 R1 r1 => ?_
      rw [ha] at r1
      rcases bindAS_some q with ⟨us, ρ2, e2, q⟩ | ⟨x, ρ2, e2, rfl⟩
      · cases q
        refine b.ok F W ρ1 σ B1 H1 _ _ e2 R1 fun p ws B2 H2 x2 p2 R2 h1 h2 h3 h4 h5 r2 => ?_
        refine ⟨by show 2 ≤ sizeLine; rw [sizeLine_eq]; omega, fun t ht => ?_⟩
        have np : p ≠ t := fun c => by rw [c, ht] at h1; cases h1
        have g := Go.newC (o := .tup [v1, V.ref p]) R2.ex ht
        have R3 := R2.grow g
        refine ⟨t, _, rfl, .inl (.inl upd_same), rfl, v1, _, rfl, .ref p, _, rfl, rfl, ?_⟩
        refine f _ B2 _ (x1.trans x2) ((R3.setV (i := i) (Rep.mono x2 _ _ r1)).setC (by rw [upd_ne np]; exact h1) h2 r2 h3 (fun l s es cs => ?_) h5)
        rcases getElem_set es with ⟨rfl, rfl⟩ | ⟨ne, es⟩
        · cases cs
        · rw [List.getD_eq_getElem?_getD, List.getElem?_set_ne (Ne.symm ne), ← List.getD_eq_getElem?_getD]
          exact h4 l s es cs
      · exact b.ok F W ρ1 σ B1 H1 _ _ e2 R1 fun cls d B2 H2 x2 R2 xr => f cls d σ B2 H2 (x1.trans x2) R2 xr
    · exact a.ok F W ρ σ B H _ _ e1 R fun cls d B1 H1 x1 R1 xr => f cls d σ B1 H1 x1 R1 xr
theorem msTupVF_m (i j : Nat) (a : ME K) (b : MF K) (h) (ρ : Env) : (@msTupVF K i j a b h).m ρ = (bindES (a.m ρ) fun u ρ1 => bindAS (b.m ρ1) fun us ρ2 => some (.nx ((ρ2.set i (.val u)).set j (.cel true us)))) := rfl
section
variable {X : Cx} {W : WX} {pos p2 p3 p4 : Pos} {e a b c : Expr} {A B : ME X.K} {x y : Str} {M : MF X.K}
theorem stupVF {i k : Nat} {kt k2 : Nat} {pt pt2 px py : Pos} {h} (hN : X.N.Nodup) (ha : PE X a (A.t W)) (hb : PE X b (M.t W)) (hi : X.N[i]? = some x := by rfl) (hj : X.N[k]? = some y := by rfl)
    (hx : Loc X.env.scope x := by first | exact Or.inl rfl | exact Or.inr rfl) (hy : Loc X.env.scope y := by first | exact Or.inl rfl | exact Or.inr rfl)
    (hf : X.fn x = true ∨ X.env.scope.names.lookup x = some .local := by first | exact .inl rfl | exact .inr rfl) (hf2 : X.fn y = true ∨ X.env.scope.names.lookup y = some .local := by first | exact .inl rfl | exact .inr rfl)
    (na : starEach [a, b] X.env = (false, eval a X.env) :: starEach [b] X.env := by rfl) (nb : starEach [b] X.env = (false, eval b X.env) :: starEach [] X.env := by rfl) (hc : X.calm = true := by rfl)
    (ga : (assignEach [.Name x px, .Name y py] X.env).map (·.2) = assign (.Name x px) X.env :: (assignEach [.Name y py] X.env).map (·.2) := by rfl)
    (gb : (assignEach [.Name y py] X.env).map (·.2) = assign (.Name y py) X.env :: (assignEach [] X.env).map (·.2) := by rfl)
    (hn : (assignEach [.Name x px, .Name y py] X.env).length = 2 := by rfl) (hst : (assignEach [.Name x px, .Name y py] X.env).findIdx? (·.1) = none := by rfl)
    (hs : swapsWithSole [.Tuple [.Name x px, .Name y py] kt pt] (.Tuple [a, b] k2 pt2) pos.line X.env = pure false := by rfl) (hw : swappedStores [.Tuple [.Name x px, .Name y py] kt pt] (.Tuple [a, b] k2 pt2) X.env = pure none := by rfl)
    (h1 : (assignEach [.Tuple [.Name x px, .Name y py] kt pt] X.env).map (·.2) = [assign (.Tuple [.Name x px, .Name y py] kt pt) X.env] := by rfl) :
    PS X (.Assign [.Tuple [.Name x px, .Name y py] kt pt] (.Tuple [a, b] k2 pt2) pos) ((msTupVF i k A M h).t W) :=
  ps_asg (pe_tup (pa_cons ha (pa_cons hb pa_nil nb) na)) (pg_tup hc (pgs_cons (pg_name hN hi hx hf) (pgs_cons (pg_name hN hj hy hf2) pgs_nil gb) ga) hn hst) hs hw h1
end
end Sg

set_option Elab.async false
set_option linter.all false
set_option maxRecDepth 100000
set_option maxHeartbeats 1000000
namespace Sg
open PySem L2
variable {K : PySem.W.Frag}
theorem oEqS_s (a b : Str) : (oEqS (K := K)).f (.str a) (.str b) = some (.bl (decide (a = b))) := rfl
theorem oNeS_s (a b : Str) : (oNeS (K := K)).f (.str a) (.str b) = some (.bl (!decide (a = b))) := rfl
/-! repr of a list of pairs of ints that are not too large -/
def Small (i : Int) : Prop := -(10 ^ 62) < i ∧ i < 10 ^ 62
theorem small_log {i : Int} (h : Small i) : i.natAbs.log2 < 1920 := by
  have h1 : i.natAbs < 10 ^ 62 := by
    obtain ⟨a, b⟩ := h
    have e : ((10 ^ 62 : Nat) : Int) = 10 ^ 62 := by norm_cast
    omega
  by_cases z : i.natAbs = 0
  · rw [z]; decide
  · exact (Nat.log2_lt z).mpr (Nat.lt_of_lt_of_le h1 (by decide +kernel))
theorem small_len {i : Int} (h : Small i) : (PyData.shown (.int i)).length ≤ 64 := by
  have h1 : i.natAbs < 10 ^ 62 := by
    obtain ⟨a, b⟩ := h
    have e : ((10 ^ 62 : Nat) : Int) = 10 ^ 62 := by norm_cast
    omega
  have := int_text_length_le10 (k := 62) (by decide) h1
  show (Str.ofString (toString i)).length ≤ 64
  rw [ofString_length]
  omega
abbrev pD (p : Int × Int) : PyData := .tuple [.int p.1, .int p.2]
theorem pdL_pairs : ∀ w : List (Int × Int), pdL (w.map pU) = some (w.map pD)
  | [] => rfl
  | p :: w => by
    rw [List.map_cons, pdL, pdL_pairs w]
    rfl
theorem shb_pairs : ∀ w : List (Int × Int), (∀ p ∈ w, Small p.1 ∧ Small p.2) → PyData.showableAll (w.map pD) = true ∧ PyData.hasDictAll (w.map pD) = false ∧ PyData.depthAll (w.map pD) ≤ 1 ∧ PyData.leavesShortAll 64 (w.map pD) = true ∧ PyData.bulkAll (w.map pD) = 3 * w.length
  | [], _ => ⟨rfl, rfl, Nat.zero_le _, rfl, rfl⟩
  | p :: w, h => by
    obtain ⟨a, b⟩ := h p List.mem_cons_self
    obtain ⟨h1, h2, h3, h4, h5⟩ := shb_pairs w fun q hq => h q (List.mem_cons_of_mem _ hq)
    refine ⟨?_, ?_, ?_, ?_, ?_⟩
    · simp only [List.map_cons, PyData.showableAll, PyData.showable, small_log a, small_log b, decide_true, Bool.and_self, h1]
    · simp only [List.map_cons, PyData.hasDictAll, PyData.hasDict, Bool.or_self, h2]
    · simp only [List.map_cons, PyData.depthAll, PyData.depth]; omega
    · simp only [List.map_cons, PyData.leavesShortAll, PyData.leavesShort, small_len a, small_len b, decide_true, Bool.and_self, h4]
    · simp only [List.map_cons, PyData.bulkAll, PyData.bulk, h5, List.length_cons]; omega
theorem repr_pairs (w : List (Int × Int)) (h : ∀ p ∈ w, Small p.1 ∧ Small p.2) (hl : w.length ≤ 1000) : ∃ s, (oRepr (K := K)).f [.lst (w.map pU)] = some (.str s) := by
  obtain ⟨h1, h2, h3, h4, h5⟩ := shb_pairs w h
  have hz := PyData.shown_le_bulk 64 (by decide) (.list (w.map pD)) (by simpa only [PyData.leavesShort] using h4)
  have e : pd (.lst (w.map pU)) = some (.list (w.map pD)) := by
    unfold pd
    rw [pdL_pairs]
    rfl
  have hb : PyData.bulk (.list (w.map pD)) = 3 * w.length := by rw [← h5]; simp only [PyData.bulk]
  refine ⟨PyData.shown (.list (w.map pD)), ?_⟩
  show (reprU (.lst (w.map pU))).map U.str = _
  unfold reprU
  rw [e, Option.bind_some, if_pos, Option.map_some]
  refine ⟨by simpa only [PyData.showable] using h1, by simpa only [PyData.hasDict] using h2, by simp only [PyData.depth]; omega, ?_⟩
  rw [hb] at hz
  omega
theorem nat_log62 {n : Nat} (h : n < 100000000000000000000000000000000000000000000000000000000000000) : n.log2 < 210 := by
  by_cases z : n = 0
  · rw [z]; decide
  · exact (Nat.log2_lt z).mpr (Nat.lt_of_lt_of_le h (by decide +kernel))
theorem oMul_s (i j : Int) (h1 : -100000000000000000000000000000000000000000000000000000000000000 < i) (h2 : i < 100000000000000000000000000000000000000000000000000000000000000) (h3 : -100000000000000000000000000000000000000000000000000000000000000 < j) (h4 : j < 100000000000000000000000000000000000000000000000000000000000000) : (oMul (K := K)).f (.int i) (.int j) = some (.int (i * j)) := by
  refine if_pos (.inr ?_)
  have a : i.natAbs < 100000000000000000000000000000000000000000000000000000000000000 := by omega
  have b : j.natAbs < 100000000000000000000000000000000000000000000000000000000000000 := by omega
  have la := nat_log62 a
  have lb := nat_log62 b
  show (Builtin.Int.intBits i : Int) + (Builtin.Int.intBits j : Int) ≤ 134217728
  have bits : ∀ k : Int, k.natAbs.log2 < 210 → (Builtin.Int.intBits k : Int) ≤ 211 := fun k hk => by
    unfold Builtin.Int.intBits
    split <;> omega
  have := bits i la
  have := bits j lb
  omega
end Sg

set_option Elab.async false
set_option linter.all false
set_option maxRecDepth 100000
set_option maxHeartbeats 4000000
namespace Sg
open PySem L2 RZ
variable {K : PySem.W.Frag}
/-! ### zip of two lists, of two tuples -/
def zpU (u v : U) : Option (List U) := match u with
  | .tup us => match v with
    | .tup vs => some (zipU us vs)
    | _ => none
  | u => (lstU u).bind fun us => (lstU v).map fun vs => zipU us vs
def zpO (x : Option EO) (b : ME K) : Option AO := match x with
    | some (.ok u ρ1) => (match b.m ρ1 with
      | some (.ok v ρ2) => (zpU u v).map fun zs => .ok zs ρ2
      | some (.ex e ρ2) => some (.ex e ρ2)
      | none => none)
    | some (.ex e ρ1) => some (.ex e ρ1)
    | none => none
def miZipA (a b : ME K) (hk : (a.k && b.k) = true := by exact id rfl) : MI K where
  t := fun W => iZipA K (tCons (a.t W) (tCons (b.t W) tNil))
  m := fun ρ => zpO (a.m ρ) b
  ok := fun F W ρ σ B H Q out e R f => by
    obtain ⟨ka, kb⟩ := Bool.and_eq_true_iff.mp hk
    unfold zpO at e
    split at e
    · rename_i u ρ1 e1
      refine a.ok F W ρ σ B H _ _ e1 R fun v1 B1 H1 x1 p1 R1 r1 => ?_
      rw [ka] at r1
      split at e
      · rename_i v ρ2 e2
        refine b.ok F W ρ1 σ B1 H1 _ _ e2 R1 fun v2 B2 H2 x2 p2 R2 r2 => ?_
        rw [kb] at r2
        obtain ⟨zs, e3, rfl⟩ := Option.map_eq_some_iff.mp e
        unfold zpU at e3
        split at e3
        · rename_i us
          split at e3
          · rename_i vs
            cases e3
            obtain ⟨q, xs, rfl, h1, h2⟩ := Rep.mono x2 _ _ r1
            obtain ⟨q', ys, rfl, h1', h2'⟩ := r2
            refine ⟨q, q', xs, ys, rfl, .inr ⟨Ex.t R2.ex h1, Ex.t R2.ex h1', f _ B2 H2 (x1.trans x2) R2 fun i B3 H3 y1 y2 => ?_⟩⟩
            have h3 : SqT K H3 q xs := Ex.t y2 (Ex.t y1 h1)
            have h3' : SqT K H3 q' ys := Ex.t y2 (Ex.t y1 h1')
            refine ⟨fun hi => ⟨xs, ys, h3, h3', by rw [h2.length, h2'.length]; rw [zipU_len] at hi; omega⟩, fun w hw => ?_⟩
            obtain ⟨u0, w0, hu, hw0, rfl⟩ := zipU_get us vs i w hw
            obtain ⟨v, hv, rv⟩ := h2.get hu
            obtain ⟨v', hv', rv'⟩ := h2'.get hw0
            refine ⟨⟨xs, ys, v, v', h3, h3', hv, hv'⟩, fun x H4 hy => ?_⟩
            obtain ⟨T, x0, y0, rfl, hT, rfl, hx, hy⟩ := hy
            have q1 := hx xs h3
            have q2 := hy ys h3'
            rw [hv] at q1; rw [hv'] at q2; cases q1; cases q2
            have g := Go.newB (o := .tup [v, v']) y2 hT
            exact ⟨_, g, T, _, rfl, .inl (.inl upd_same), _, _, rfl, Rep.mono g.bb _ _ (Rep.mono y1 _ _ rv), _, _, rfl, Rep.mono g.bb _ _ (Rep.mono y1 _ _ rv'), rfl⟩
          · cases e3
        · obtain ⟨us, e4, e3⟩ := Option.bind_eq_some_iff.mp e3
          obtain ⟨vs, e5, rfl⟩ := Option.map_eq_some_iff.mp e3
          obtain ⟨q, xs, rfl, h1, h2⟩ := lstU_ok (Rep.mono x2 _ _ r1) e4
          obtain ⟨q', ys, rfl, h1', h2'⟩ := lstU_ok r2 e5
          refine ⟨q, q', xs, ys, rfl, .inl ⟨Ex.l R2.ex h1, Ex.l R2.ex h1', f _ B2 H2 (x1.trans x2) R2 fun i B3 H3 y1 y2 => ?_⟩⟩
          have h3 : SqL K H3 q xs := Ex.l y2 (Ex.l y1 h1)
          have h3' : SqL K H3 q' ys := Ex.l y2 (Ex.l y1 h1')
          refine ⟨fun hi => ⟨xs, ys, h3, h3', by rw [h2.length, h2'.length]; rw [zipU_len] at hi; omega⟩, fun w hw => ?_⟩
          obtain ⟨u0, w0, hu, hw0, rfl⟩ := zipU_get us vs i w hw
          obtain ⟨v, hv, rv⟩ := h2.get hu
          obtain ⟨v', hv', rv'⟩ := h2'.get hw0
          refine ⟨⟨xs, ys, v, v', h3, h3', hv, hv'⟩, fun x H4 hy => ?_⟩
          obtain ⟨T, x0, y0, rfl, hT, rfl, hx, hy⟩ := hy
          have q1 := hx xs h3
          have q2 := hy ys h3'
          rw [hv] at q1; rw [hv'] at q2; cases q1; cases q2
          have g := Go.newB (o := .tup [v, v']) y2 hT
          exact ⟨_, g, T, _, rfl, .inl (.inl upd_same), _, _, rfl, Rep.mono g.bb _ _ (Rep.mono y1 _ _ rv), _, _, rfl, Rep.mono g.bb _ _ (Rep.mono y1 _ _ rv'), rfl⟩
      · rename_i x ρ2 e2
        cases e
        exact b.ok F W ρ1 σ B1 H1 _ _ e2 R1 fun cls d B2 H2 x2 R2 xr => f cls d B2 H2 (x1.trans x2) R2 xr
      · cases e
    · rename_i x ρ1 e1
      cases e
      exact a.ok F W ρ σ B H _ _ e1 R fun cls d B1 H1 x1 R1 xr => f cls d B1 H1 x1 R1 xr
    · cases e
theorem miZipA_m (a b : ME K) (h) (ρ : Env) : (@miZipA K a b h).m ρ = zpO (a.m ρ) b := rfl
def zpP (u : U) (x : Option EO) : Option AO := match x with
      | some (.ok v ρ2) => (zpU u v).map fun zs => .ok zs ρ2
      | some (.ex e ρ2) => some (.ex e ρ2)
      | none => none
theorem zpO_ok (u : U) (ρ : Env) (b : ME K) : zpO (some (.ok u ρ)) b = zpP u (b.m ρ) := rfl
theorem zpP_ok (u v : U) (ρ : Env) : zpP u (some (.ok v ρ)) = (zpU u v).map fun zs => .ok zs ρ := rfl
theorem zpU_l (us vs : List U) : zpU (.lst us) (.lst vs) = some (zipU us vs) := rfl
theorem zpU_t (us vs : List U) : zpU (.tup us) (.tup vs) = some (zipU us vs) := rfl
section
variable {X : Cx} {W : WX} {pos p2 : Pos} {a b tg : Expr} {A B : ME X.K}
theorem izipA {elts : List Expr} {kk : Nat} {tpos : Pos} {h} (hm : X.mg "zip" = none) (ha : PE X a (A.t W)) (hb : PE X b (B.t W)) (hg : Gl X "zip" := by rfl)
    (hs : starEach [a, b] X.env = (false, eval a X.env) :: starEach [b] X.env := by rfl) (hpl : (backTo pos (starEach [b] X.env)).any (·.1) = false := by rfl) (h2 : starEach [b] X.env = (false, eval b X.env) :: starEach [] X.env := by rfl) :
    PI X (.Tuple elts kk tpos) (.Call (.Name "zip" p2) [a, b] [] pos) ((miZipA A B h).t W) := pi_zipA hg hm (pa_cons ha (pa_cons hb pa_nil h2) hs) hs hpl
end
theorem oIsN_i (i : Int) : (oIsN (K := K)).f (.int i) .non = some (.bl false) := rfl
theorem oIsN_b (i : Bool) : (oIsN (K := K)).f (.bl i) .non = some (.bl false) := rfl
theorem oIsN_t (us : List U) : (oIsN (K := K)).f (.tup us) .non = some (.bl false) := rfl
end Sg

set_option Elab.async false
set_option linter.all false
set_option maxRecDepth 100000
set_option maxHeartbeats 400000
namespace Sg
open PySem L2

def topS (i : Nat) : Stmt := PySem.Challenge.pw_signsheets_k04_totals_of_large_words.main.body.getD i (.Pass ⟨0, 0, 0, 0⟩)
abbrev s__law_pick : Stmt := topS 23
abbrev N__law_pick : List Str := ["_law_feed_here", "_law_wide", "_law_mixed", "_law_digit"]
theorem sc__law_pick : FnScope N__law_pick ["_law_feed_here", "_law_wide"] (defScope s__law_pick) := ⟨rfl, rfl, rfl, by decide +kernel, rfl, by decide +kernel, by decide +kernel⟩
noncomputable def M__law_pick (K : PySem.W.Frag) : MS K :=
  (msSeq (msIf (mTest (mOp oGt (mIx oIx (mLook 0) (mC (.int 0) (.int 0))) (mC (.int 0) (.int 0))))
  (msSeq (msAsg (mOp oMod (mIx oIx (mLook 0) (mC (.int 0) (.int 0))) (mVar 1)) (mgName 3))
  (msSeq (msSet 0 (mC (.int 0) (.int 0)) (mOp oDiv (mIx oIx (mLook 0) (mC (.int 0) (.int 0))) (mVar 1)))
  (msRet (mVar 3))))
  msNil)
  (msSeq (msSet 0 (mC (.int 2) (.int 2)) (mOp oAdd (mIx oIx (mLook 0) (mC (.int 2) (.int 2))) (mC (.int 1) (.int 1))))
  (msSeq (msAsg (mOp oMod (mOp oAdd (mIx oIx (mLook 0) (mC (.int 1) (.int 1))) (mOp oMul (mC (.int 170003) (.int 170003)) (mIx oIx (mLook 0) (mC (.int 2) (.int 2))))) (mC (.int 2305843009213693951) (.int 2305843009213693951))) (mgName 2))
  (msSeq (msAsg (mOp oMod (mOp oAdd (mOp oAdd (mOp oMul (mVar 2) (mVar 2)) (mOp oMul (mOp oMul (mC (.int 71143) (.int 71143)) (mIx oIx (mLook 0) (mC (.int 2) (.int 2)))) (mVar 2))) (mC (.int 47) (.int 47))) (mC (.int 2305843009213693951) (.int 2305843009213693951))) (mgName 2))
  (msSeq (msAsg (mOp oMod (mOp oAdd (mOp oAdd (mOp oPow (mVar 2) (mC (.int 3) (.int 3))) (mIx oIx (mLook 0) (mC (.int 1) (.int 1)))) (mOp oMul (mC (.int 5) (.int 5)) (mIx oIx (mLook 0) (mC (.int 2) (.int 2))))) (mC (.int 2305843009213693951) (.int 2305843009213693951))) (mgName 2))
  (msRet (mOp oMod (mOp oDiv (mVar 2) (mC (.int 8191) (.int 8191))) (mVar 1))))))))
noncomputable def mf__law_pick (K : PySem.W.Frag) : List Slot → Option CO := mfOf0 4 (M__law_pick K).m
abbrev s__law_far : Stmt := topS 24
abbrev N__law_far : List Str := ["_law_feed_here", "_law_found", "_law_turn"]
theorem sc__law_far : FnScope N__law_far ["_law_feed_here"] (defScope s__law_far) := ⟨rfl, rfl, rfl, by decide +kernel, rfl, by decide +kernel, by decide +kernel⟩
noncomputable def G__law_far_0 (K : PySem.W.Frag) : MG K :=
  (mgName 2)
noncomputable def B__law_far_1 (K : PySem.W.Frag) : MS K :=
  (msAsg (mOp oAdd (mOp oMul (mVar 1) (mOp oPow (mC (.int 10) (.int 10)) (mC (.int 12) (.int 12)))) (mCall 2 (mf__law_pick K) (mcCel 0 (mcVal (mOp oPow (mC (.int 10) (.int 10)) (mC (.int 12) (.int 12))) mcNil)))) (mgName 1))
noncomputable def M__law_far (K : PySem.W.Frag) : MS K :=
  (msSeq (msAsg (mC (.int 0) (.int 0)) (mgName 1))
  (msSeq (msFor (miRng1 (mC (.int 5) (.int 5))) (G__law_far_0 K)
  (B__law_far_1 K)
  [2])
  (msRet (mIx oIx (mFr (mLst (mCons (mOp oAdd (mC (.int 1) (.int 1)) (mCall 2 (mf__law_pick K) (mcCel 0 (mcVal (mC (.int 9) (.int 9)) mcNil)))) (mCons (mBi oMax2 (mCons (mC (.int 1) (.int 1)) (mCons (mVar 1) mNil))) (mCons (mBi oMax2 (mCons (mC (.int 1) (.int 1)) (mCons (mOp oDiv (mVar 1) (mOp oPow (mC (.int 10) (.int 10)) (mC (.int 30) (.int 30)))) mNil))) (mCons (mOp oSub (mOp oPow (mC (.int 10) (.int 10)) (mC (.int 60) (.int 60))) (mC (.int 1) (.int 1))) mNil)))))) (mCall 2 (mf__law_pick K) (mcCel 0 (mcVal (mC (.int 4) (.int 4)) mcNil)))))))
noncomputable def mf__law_far (K : PySem.W.Frag) : List Slot → Option CO := mfOf0 3 (M__law_far K).m
abbrev s__law_feed : Stmt := topS 22
abbrev N__law_feed : List Str := ["_law_script", "_law_k", "_law_cell"]
theorem sc__law_feed : FnScope N__law_feed ["_law_script", "_law_k"] (defScope s__law_feed) := ⟨rfl, rfl, rfl, by decide +kernel, rfl, by decide +kernel, by decide +kernel⟩
noncomputable def M__law_feed (K : PySem.W.Frag) : MS K :=
  (msSeq (msAsg (mC (.int 0) (.int 0)) (mgName 2))
  (msSeq (msIf (mTest (mOp oLt (mVar 1) (mBi oLen (mCons (mVar 0) mNil))))
  (msAsg (mIx oIx (mVar 0) (mVar 1)) (mgName 2))
  msNil)
  (msRetF (mLst (mCons (mBi oMax2 (mCons (mC (.int 0) (.int 0)) (mCons (mOp oSub (mBi oAbs (mCons (mVar 2) mNil)) (mOp oPow (mC (.int 10) (.int 10)) (mC (.int 18) (.int 18)))) mNil))) (mCons (mOp oMod (mOp oAdd (mOp oAdd (mOp oMul (mVar 2) (mC (.int 191) (.int 191))) (mOp oMul (mC (.int 6151) (.int 6151)) (mVar 1))) (mC (.int 67) (.int 67))) (mC (.int 2305843009213693951) (.int 2305843009213693951))) (mCons (mC (.int 0) (.int 0)) mNil)))))))
noncomputable def mf__law_feed (K : PySem.W.Frag) : List Slot → Option CO := mfOf0 3 (M__law_feed K).m
abbrev s__law_numbers : Stmt := topS 25
abbrev N__law_numbers : List Str := ["_law_feed_here", "_law_many", "_law_top", "_law_left", "_law_turn"]
theorem sc__law_numbers : FnScope N__law_numbers ["_law_feed_here", "_law_many", "_law_top"] (defScope s__law_numbers) := ⟨rfl, rfl, rfl, by decide +kernel, rfl, by decide +kernel, by decide +kernel⟩
noncomputable def G__law_numbers_0 (K : PySem.W.Frag) : MG K :=
  (mgName 4)
noncomputable def T__law_numbers_1 (K : PySem.W.Frag) : MTs K :=
  mtYes
noncomputable def E__law_numbers_2 (K : PySem.W.Frag) : ME K :=
  (mMeth 3 oPopAt (mCons (mCall 2 (mf__law_pick K) (mcCel 0 (mcVal (mBi oLen (mCons (mLook 3) mNil)) mcNil))) mNil))
noncomputable def M__law_numbers (K : PySem.W.Frag) : MS K :=
  (msSeq (msAsgF (mListRng (mC (.int 1) (.int 1)) (mOp oAdd (mVar 2) (mC (.int 1) (.int 1)))) 3)
  (msRet (mFr (mBiF oSorted (mCons (mFr (mLc (miRng1 (mVar 1)) (G__law_numbers_0 K) (T__law_numbers_1 K) (E__law_numbers_2 K) [4])) mNil)))))
noncomputable def mf__law_numbers (K : PySem.W.Frag) : List Slot → Option CO := mfOf0 5 (M__law_numbers K).m
abbrev s__law_long : Stmt := topS 29
abbrev N__law_long : List Str := ["_law_feed_here", "_law_most", "_law_numbers_here", "_law_way", "_law_found", "_law_turn", "_law_others", "_law_last", "_law_at", "_law_many", "_law_one"]
theorem sc__law_long : FnScope N__law_long ["_law_feed_here", "_law_most"] (defScope s__law_long) := ⟨rfl, rfl, rfl, by decide +kernel, rfl, by decide +kernel, by decide +kernel⟩
noncomputable def G__law_long_0 (K : PySem.W.Frag) : MG K :=
  (mgName 5)
noncomputable def T__law_long_1 (K : PySem.W.Frag) : MTs K :=
  mtYes
noncomputable def E__law_long_2 (K : PySem.W.Frag) : ME K :=
  (mCall 1 (mf__law_far K) (mcCel 0 mcNil))
noncomputable def G__law_long_3 (K : PySem.W.Frag) : MG K :=
  (mgName 5)
noncomputable def T__law_long_4 (K : PySem.W.Frag) : MTs K :=
  mtYes
noncomputable def E__law_long_5 (K : PySem.W.Frag) : ME K :=
  (mOp oAdd (mC (.int 61) (.int 61)) (mVar 5))
noncomputable def G__law_long_6 (K : PySem.W.Frag) : MG K :=
  (mgName 10)
noncomputable def T__law_long_7 (K : PySem.W.Frag) : MTs K :=
  (mtOne (mOr (mTest (mOp oEq (mLook 4) (mFr (mLst mNil)))) (mTest (mOp oNe (mVar 10) (mIx oIx (mIx oIx (mLook 4) (mUn oNeg (mC (.int 1) (.int 1)))) (mC (.int 0) (.int 0)))))))
noncomputable def E__law_long_8 (K : PySem.W.Frag) : ME K :=
  (mVar 10)
noncomputable def G__law_long_9 (K : PySem.W.Frag) : MG K :=
  (mgName 5)
noncomputable def B__law_long_10 (K : PySem.W.Frag) : MS K :=
  (msSeq (msAsg (mFr (mLc (miList (mVar 2)) (G__law_long_6 K) (T__law_long_7 K) (E__law_long_8 K) [10])) (mgName 6))
  (msSeq (msAsg (mOp oSub (mBi oLen (mCons (mVar 6) mNil)) (mC (.int 1) (.int 1))) (mgName 7))
  (msSeq (msAsg (mIx oIx (mFr (mLst (mCons (mCall 2 (mf__law_pick K) (mcCel 0 (mcVal (mBi oLen (mCons (mVar 6) mNil)) mcNil))) (mCons (mBi oMin2 (mCons (mVar 5) (mCons (mVar 7) mNil))) (mCons (mBi oMax2 (mCons (mC (.int 0) (.int 0)) (mCons (mOp oSub (mVar 7) (mVar 5)) mNil))) (mCons (mBi oMin2 (mCons (mOp oMod (mVar 5) (mC (.int 2) (.int 2))) (mCons (mVar 7) mNil))) mNil)))))) (mVar 3)) (mgName 8))
  (msSeq (msAsg (mIx oIx (mFr (mLst (mCons (mC (.int 1) (.int 1)) (mCons (mC (.int 1) (.int 1)) (mCons (mCall 1 (mf__law_far K) (mcCel 0 mcNil)) mNil))))) (mCall 2 (mf__law_pick K) (mcCel 0 (mcVal (mC (.int 3) (.int 3)) mcNil)))) (mgName 9))
  (msDrop (mMeth 4 oAppend (mCons (mTup (mCons (mIx oIx (mVar 6) (mVar 8)) (mCons (mVar 9) mNil))) mNil)))))))
noncomputable def M__law_long (K : PySem.W.Frag) : MS K :=
  (msSeq (msAsg (mFr (mSortSet (mFr (mCat (mFr (mLc (miRng1 (mC (.int 2) (.int 2))) (G__law_long_0 K) (T__law_long_1 K) (E__law_long_2 K) [5])) (mCall 3 (mf__law_numbers K) (mcCel 0 (mcVal (mOp oAdd (mC (.int 2) (.int 2)) (mCall 2 (mf__law_pick K) (mcCel 0 (mcVal (mC (.int 5) (.int 5)) mcNil)))) (mcVal (mC (.int 60) (.int 60)) mcNil)))))))) (mgName 2))
  (msSeq (msIf (mTest (mOp oEq (mCall 2 (mf__law_pick K) (mcCel 0 (mcVal (mC (.int 2) (.int 2)) mcNil))) (mC (.int 0) (.int 0))))
  (msAsg (mFr (mSortSet (mFr (mCat (mVar 2) (mFr (mLc (miRng1 (mVar 1)) (G__law_long_3 K) (T__law_long_4 K) (E__law_long_5 K) [5])))))) (mgName 2))
  msNil)
  (msSeq (msTupVF 3 4 (mCall 2 (mf__law_pick K) (mcCel 0 (mcVal (mC (.int 4) (.int 4)) mcNil))) (mLst mNil))
  (msSeq (msFor (miRng1 (mIx oIx (mFr (mLst (mCons (mVar 1) (mCons (mOp oAdd (mC (.int 1) (.int 1)) (mCall 2 (mf__law_pick K) (mcCel 0 (mcVal (mVar 1) mcNil)))) mNil)))) (mCall 2 (mf__law_pick K) (mcCel 0 (mcVal (mC (.int 2) (.int 2)) mcNil))))) (G__law_long_9 K)
  (B__law_long_10 K)
  [5, 6, 7, 8, 9, 10])
  (msRetC 4)))))
noncomputable def mf__law_long (K : PySem.W.Frag) : List Slot → Option CO := mfOf0 11 (M__law_long K).m
abbrev s__law_due_far : Stmt := topS 26
abbrev N__law_due_far : List Str := ["_law_kind", "_law_line", "_law_found", "_law_at", "_law_one", "_law_many", "_law_doubled", "_law_behind", "_law_near", "_law_less", "_law_other", "_law_count", "_law_two"]
theorem sc__law_due_far : FnScope N__law_due_far ["_law_kind", "_law_line"] (defScope s__law_due_far) := ⟨rfl, rfl, rfl, by decide +kernel, rfl, by decide +kernel, by decide +kernel⟩
noncomputable def G__law_due_far_0 (K : PySem.W.Frag) : MG K :=
  (mgTup 2 (mgCons (mgName 10) (mgCons (mgName 11) mgNil)))
noncomputable def T__law_due_far_1 (K : PySem.W.Frag) : MTs K :=
  mtYes
noncomputable def E__law_due_far_2 (K : PySem.W.Frag) : ME K :=
  (mVar 10)
noncomputable def G__law_due_far_3 (K : PySem.W.Frag) : MG K :=
  (mgTup 2 (mgCons (mgName 3) (mgCons (mgTup 2 (mgCons (mgName 4) (mgCons (mgName 5) mgNil))) mgNil)))
noncomputable def B__law_due_far_4 (K : PySem.W.Frag) : MS K :=
  (msSeq (msAsg (mFr (mLc (miList (mFr (mSlL (mVar 1) (moSome (mOp oAdd (mVar 3) (mC (.int 1) (.int 1)))) moNone))) (G__law_due_far_0 K) (T__law_due_far_1 K) (E__law_due_far_2 K) [10, 11])) (mgName 7))
  (msSeq (msAsg (mAndV (mOp oNe (mVar 7) (mFr (mLst mNil))) (mOp oGt (mIx oIx (mVar 7) (mC (.int 0) (.int 0))) (mVar 4))) (mgName 8))
  (msSeq (msAsg (mGet2 (mDict [.inr "plain", .inr "next", .inr "single", .inr "block"] (mpCons (.inr "plain") (mC (.int 0) (.int 0)) (mpCons (.inr "next") (mBi oInt (mCons (mVar 8) mNil)) (mpCons (.inr "single") (mBi oInt (mCons (mVar 8) mNil)) (mpCons (.inr "block") (mOp oMul (mVar 5) (mBi oInt (mCons (mVar 8) mNil))) mpNil))))) (mVar 0) (mVar 5)) (mgName 9))
  (msSeq (msIf (mAnd (mTest (mOp oEq (mVar 0) (mC (.str "later") (.str "later")))) (mOr (mTest (mOp oEq (mVar 7) (mFr (mLst mNil)))) (mTest (mOp oLe (mBi oMax (mCons (mVar 7) mNil)) (mVar 4)))))
  (msAsg (mC (.int 0) (.int 0)) (mgName 9))
  msNil)
  (msDrop (mMeth 2 oAppend (mCons (mTup (mCons (mVar 4) (mCons (mOp oSub (mVar 5) (mVar 9)) (mCons (mVar 9) mNil)))) mNil)))))))
noncomputable def G__law_due_far_5 (K : PySem.W.Frag) : MG K :=
  (mgTup 2 (mgCons (mgName 4) (mgCons (mgName 12) mgNil)))
noncomputable def T__law_due_far_6 (K : PySem.W.Frag) : MTs K :=
  (mtOne (mAnd (mTest (mOp oGt (mIx oIx (mVar 4) (mC (.int 2) (.int 2))) (mC (.int 0) (.int 0)))) (mTest (mOp oEq (mIx oIx (mVar 12) (mC (.int 1) (.int 1))) (mC (.int 0) (.int 0))))))
noncomputable def E__law_due_far_7 (K : PySem.W.Frag) : ME K :=
  (mC (.int 1) (.int 1))
noncomputable def M__law_due_far (K : PySem.W.Frag) : MS K :=
  (msSeq (msAsgF (mLst mNil) 2)
  (msSeq (msFor (miEnum (mVar 1)) (G__law_due_far_3 K)
  (B__law_due_far_4 K)
  [3, 4, 5, 7, 8, 9, 10, 11])
  (msSeq (msAsg (mFr (mLc (miZip (mLet 2) (mFr (mSlL (mLet 2) (moSome (mC (.int 1) (.int 1))) moNone))) (G__law_due_far_5 K) (T__law_due_far_6 K) (E__law_due_far_7 K) [4, 12])) (mgName 6))
  (msRet (mIf (mAnd (mTest (mOp oEq (mVar 0) (mC (.str "single") (.str "single")))) (mTest (mOp oNe (mVar 6) (mFr (mLst mNil))))) (mC .non .non) (mLet 2))))))
noncomputable def mf__law_due_far (K : PySem.W.Frag) : List Slot → Option CO := mfOf0 13 (M__law_due_far K).m
abbrev s__law_same : Stmt := topS 28
abbrev N__law_same : List Str := ["_law_found", "_law_due", "_law_one", "_law_two"]
theorem sc__law_same : FnScope N__law_same ["_law_found", "_law_due"] (defScope s__law_same) := ⟨rfl, rfl, rfl, by decide +kernel, rfl, by decide +kernel, by decide +kernel⟩
noncomputable def G__law_same_0 (K : PySem.W.Frag) (r : List Slot → Option CO) : MG K :=
  (mgName 2)
noncomputable def T__law_same_1 (K : PySem.W.Frag) (r : List Slot → Option CO) : MTs K :=
  mtYes
noncomputable def E__law_same_2 (K : PySem.W.Frag) (r : List Slot → Option CO) : ME K :=
  (mCall 2 r (mcVal (mIx oIx (mVar 0) (mVar 2)) (mcVal (mIx oIx (mVar 1) (mVar 2)) mcNil)))
noncomputable def G__law_same_3 (K : PySem.W.Frag) (r : List Slot → Option CO) : MG K :=
  (mgTup 2 (mgCons (mgName 2) (mgCons (mgName 3) mgNil)))
noncomputable def T__law_same_4 (K : PySem.W.Frag) (r : List Slot → Option CO) : MTs K :=
  mtYes
noncomputable def E__law_same_5 (K : PySem.W.Frag) (r : List Slot → Option CO) : ME K :=
  (mCall 2 r (mcVal (mVar 2) (mcVal (mVar 3) mcNil)))
noncomputable def M__law_same (K : PySem.W.Frag) (r : List Slot → Option CO) : MS K :=
  (msSeq (msIf (mTest (mIsi "dict" (mVar 1)))
  (msSeq (msIf (mOr (mNot (mTest (mIsi "dict" (mVar 0)))) (mTest (mOp oNe (mFr (mBiF oList (mCons (mVar 0) mNil))) (mFr (mBiF oList (mCons (mVar 1) mNil))))))
  (msRet (mC (.bl false) (.bl false)))
  msNil)
  (msRet (mBi oAll (mCons (mFr (mLc (miList (mVar 1)) (G__law_same_0 K r) (T__law_same_1 K r) (E__law_same_2 K r) [2])) mNil))))
  msNil)
  (msSeq (msIf (mTest (mIsiT ["list", "tuple"] (mVar 1)))
  (msSeq (msIf (mOr (mTest (mOp oNe (mIsi "list" (mVar 0)) (mIsi "list" (mVar 1)))) (mTest (mOp oNe (mIsi "tuple" (mVar 0)) (mIsi "tuple" (mVar 1)))))
  (msRet (mC (.bl false) (.bl false)))
  msNil)
  (msRet (mAndV (mOp oEqI (mBi oLen (mCons (mVar 0) mNil)) (mBi oLen (mCons (mVar 1) mNil))) (mBi oAll (mCons (mFr (mLc (miZipA (mVar 0) (mVar 1)) (G__law_same_3 K r) (T__law_same_4 K r) (E__law_same_5 K r) [2, 3])) mNil)))))
  msNil)
  (msSeq (msIf (mOr (mTest (mOp oIsN (mVar 1) (mC .non .non))) (mTest (mOp oIsN (mVar 0) (mC .non .non))))
  (msRet (mAndV (mOp oIsN (mVar 1) (mC .non .non)) (mOp oIsN (mVar 0) (mC .non .non))))
  msNil)
  (msSeq (msIf (mOr (mTest (mOp oNe (mIsi "bool" (mVar 0)) (mIsi "bool" (mVar 1)))) (mTest (mOp oNe (mIsi "str" (mVar 0)) (mIsi "str" (mVar 1)))))
  (msRet (mC (.bl false) (.bl false)))
  msNil)
  (msRet (mOp oEq (mVar 0) (mVar 1)))))))
noncomputable def mr__law_same (K : PySem.W.Frag) : Nat → List Slot → Option CO
  | 0 => fun _ => none
  | n + 1 => mfOf0 4 (M__law_same K (mr__law_same K n)).m
noncomputable def mf__law_same (K : PySem.W.Frag) : List Slot → Option CO := mr__law_same K 5
abbrev s_rule_of : Stmt := topS 20
abbrev N_rule_of : List Str := ["name"]
theorem sc_rule_of : FnScope N_rule_of ["name"] (defScope s_rule_of) := ⟨rfl, rfl, rfl, by decide +kernel, rfl, by decide +kernel, by decide +kernel⟩
noncomputable def M_rule_of (K : PySem.W.Frag) : MS K :=
  (msSeq (msIf (mTest (mOp oEq (mVar 0) (mC (.str "plain") (.str "plain"))))
  (msRet (mNew "Plain"))
  msNil)
  (msSeq (msIf (mTest (mOp oEq (mVar 0) (mC (.str "single") (.str "single"))))
  (msRet (mNew "Single"))
  msNil)
  (msSeq (msIf (mTest (mOp oEq (mVar 0) (mC (.str "next") (.str "next"))))
  (msRet (mNew "Next"))
  msNil)
  (msRet (mIf (mTest (mOp oEq (mVar 0) (mC (.str "block") (.str "block")))) (mNew "Block") (mNew "Later"))))))
noncomputable def mf_rule_of (K : PySem.W.Frag) : List Slot → Option CO := mfOf0 1 (M_rule_of K).m
abbrev s_Rule_named : Stmt := inClass (topS 14) 2
abbrev N_Rule_named : List Str := ["cls", "name"]
theorem sc_Rule_named : FnScope N_Rule_named ["cls", "name"] (defScope s_Rule_named) := ⟨rfl, rfl, rfl, by decide +kernel, rfl, by decide +kernel, by decide +kernel⟩
noncomputable def M_Rule_named (K : PySem.W.Frag) : MS K :=
  (msSeq (msIf (mTest (mOp (oIn true) (mVar 1) (mConC "Rule" (.tup ((["plain", "single", "next", "block", "later"] : List Str).map U.str)) (mVar 0))))
  (msRaise "InvalidValues")
  msNil)
  (msRet (mCall 1 (mf_rule_of K) (mcVal (mVar 1) mcNil))))
noncomputable def mf_Rule_named (K : PySem.W.Frag) : List Slot → Option CO := mfOf 2 (M_Rule_named K).m
abbrev s_is_integer : Stmt := topS 10
abbrev N_is_integer : List Str := ["thing", "least"]
theorem sc_is_integer : FnScope N_is_integer ["thing", "least"] (defScope s_is_integer) := ⟨rfl, rfl, rfl, by decide +kernel, rfl, by decide +kernel, by decide +kernel⟩
noncomputable def M_is_integer (K : PySem.W.Frag) : MS K :=
  (msRet (mAndV (mIsi "int" (mVar 0)) (mAndV (mNotV (mIsi "bool" (mVar 0))) (mOp oGe (mVar 0) (mVar 1)))))
noncomputable def mf_is_integer (K : PySem.W.Frag) : List Slot → Option CO := mfOf0 2 (M_is_integer K).m
abbrev s_is_run : Stmt := topS 11
abbrev N_is_run : List Str := ["thing", "part"]
theorem sc_is_run : FnScope N_is_run ["thing"] (defScope s_is_run) := ⟨rfl, rfl, rfl, by decide +kernel, rfl, by decide +kernel, by decide +kernel⟩
noncomputable def G_is_run_0 (K : PySem.W.Frag) : MG K :=
  (mgName 1)
noncomputable def T_is_run_1 (K : PySem.W.Frag) : MTs K :=
  mtYes
noncomputable def E_is_run_2 (K : PySem.W.Frag) : ME K :=
  (mCall 2 (mf_is_integer K) (mcVal (mVar 1) (mcVal (mC (.int 1) (.int 1)) mcNil)))
noncomputable def M_is_run (K : PySem.W.Frag) : MS K :=
  (msRet (mAndV (mIsi "tuple" (mVar 0)) (mAndV (mOp oEqI (mBi oLen (mCons (mVar 0) mNil)) (mC (.int 2) (.int 2))) (mBi oAll (mCons (mFr (mLc (miTup (mVar 0)) (G_is_run_0 K) (T_is_run_1 K) (E_is_run_2 K) [1])) mNil)))))
noncomputable def mf_is_run (K : PySem.W.Frag) : List Slot → Option CO := mfOf0 2 (M_is_run K).m
abbrev s_are_runs : Stmt := topS 12
abbrev N_are_runs : List Str := ["thing", "run", "one", "other"]
theorem sc_are_runs : FnScope N_are_runs ["thing"] (defScope s_are_runs) := ⟨rfl, rfl, rfl, by decide +kernel, rfl, by decide +kernel, by decide +kernel⟩
noncomputable def G_are_runs_0 (K : PySem.W.Frag) : MG K :=
  (mgName 1)
noncomputable def T_are_runs_1 (K : PySem.W.Frag) : MTs K :=
  mtYes
noncomputable def E_are_runs_2 (K : PySem.W.Frag) : ME K :=
  (mCall 1 (mf_is_run K) (mcVal (mVar 1) mcNil))
noncomputable def G_are_runs_3 (K : PySem.W.Frag) : MG K :=
  (mgTup 2 (mgCons (mgName 2) (mgCons (mgName 3) mgNil)))
noncomputable def T_are_runs_4 (K : PySem.W.Frag) : MTs K :=
  mtYes
noncomputable def E_are_runs_5 (K : PySem.W.Frag) : ME K :=
  (mOp oNe (mIx oIx (mVar 2) (mC (.int 0) (.int 0))) (mIx oIx (mVar 3) (mC (.int 0) (.int 0))))
noncomputable def M_are_runs (K : PySem.W.Frag) : MS K :=
  (msSeq (msIf (mOr (mNot (mTest (mIsi "list" (mVar 0)))) (mOr (mNot (mTest (mChain oLe oLe (mC (.int 1) (.int 1)) (mBi oLen (mCons (mVar 0) mNil)) (mC (.int 200) (.int 200))))) (mNot (mTest (mBi oAll (mCons (mFr (mLc (miList (mVar 0)) (G_are_runs_0 K) (T_are_runs_1 K) (E_are_runs_2 K) [1])) mNil))))))
  (msRet (mC (.bl false) (.bl false)))
  msNil)
  (msRet (mBi oAll (mCons (mFr (mLc (miZip (mVar 0) (mFr (mSlL (mVar 0) (moSome (mC (.int 1) (.int 1))) moNone))) (G_are_runs_3 K) (T_are_runs_4 K) (E_are_runs_5 K) [2, 3])) mNil))))
noncomputable def mf_are_runs (K : PySem.W.Frag) : List Slot → Option CO := mfOf0 4 (M_are_runs K).m
abbrev s_need_runs : Stmt := topS 13
abbrev N_need_runs : List Str := ["word"]
theorem sc_need_runs : FnScope N_need_runs ["word"] (defScope s_need_runs) := ⟨rfl, rfl, rfl, by decide +kernel, rfl, by decide +kernel, by decide +kernel⟩
noncomputable def M_need_runs (K : PySem.W.Frag) : MS K :=
  (msIf (mNot (mTru (mCall 1 (mf_are_runs K) (mcVal (mVar 0) mcNil))))
  (msRaise "InvalidWord")
  msNil)
noncomputable def mf_need_runs (K : PySem.W.Frag) : List Slot → Option CO := mfOf 1 (M_need_runs K).m
abbrev s_Plain_signs : Stmt := inClass (topS 15) 1
abbrev N_Plain_signs : List Str := ["self", "word", "value", "count"]
theorem sc_Plain_signs : FnScope N_Plain_signs ["self", "word"] (defScope s_Plain_signs) := ⟨rfl, rfl, rfl, by decide +kernel, rfl, by decide +kernel, by decide +kernel⟩
noncomputable def G_Plain_signs_0 (K : PySem.W.Frag) : MG K :=
  (mgTup 2 (mgCons (mgName 2) (mgCons (mgName 3) mgNil)))
noncomputable def T_Plain_signs_1 (K : PySem.W.Frag) : MTs K :=
  mtYes
noncomputable def E_Plain_signs_2 (K : PySem.W.Frag) : ME K :=
  (mTup (mCons (mVar 2) (mCons (mVar 3) (mCons (mC (.int 0) (.int 0)) mNil))))
noncomputable def M_Plain_signs (K : PySem.W.Frag) : MS K :=
  (msSeq (msDrop (mCall 1 (mf_need_runs K) (mcVal (mVar 1) mcNil)))
  (msRet (mFr (mLc (miList (mVar 1)) (G_Plain_signs_0 K) (T_Plain_signs_1 K) (E_Plain_signs_2 K) [2, 3]))))
noncomputable def mf_Plain_signs (K : PySem.W.Frag) : List Slot → Option CO := mfOf 4 (M_Plain_signs K).m
abbrev s_Next_signs : Stmt := inClass (topS 16) 1
abbrev N_Next_signs : List Str := ["self", "word", "found", "place", "value", "count", "minus"]
theorem sc_Next_signs : FnScope N_Next_signs ["self", "word"] (defScope s_Next_signs) := ⟨rfl, rfl, rfl, by decide +kernel, rfl, by decide +kernel, by decide +kernel⟩
noncomputable def G_Next_signs_0 (K : PySem.W.Frag) : MG K :=
  (mgTup 2 (mgCons (mgName 3) (mgCons (mgTup 2 (mgCons (mgName 4) (mgCons (mgName 5) mgNil))) mgNil)))
noncomputable def B_Next_signs_1 (K : PySem.W.Frag) : MS K :=
  (msSeq (msAsg (mBi oInt (mCons (mAndV (mOp oLt (mOp oAdd (mVar 3) (mC (.int 1) (.int 1))) (mBi oLen (mCons (mVar 1) mNil))) (mOp oGt (mIx oIx (mIx oIx (mVar 1) (mOp oAdd (mVar 3) (mC (.int 1) (.int 1)))) (mC (.int 0) (.int 0))) (mVar 4))) mNil)) (mgName 6))
  (msDrop (mMeth 2 oAppend (mCons (mTup (mCons (mVar 4) (mCons (mOp oSub (mVar 5) (mVar 6)) (mCons (mVar 6) mNil)))) mNil))))
noncomputable def M_Next_signs (K : PySem.W.Frag) : MS K :=
  (msSeq (msDrop (mCall 1 (mf_need_runs K) (mcVal (mVar 1) mcNil)))
  (msSeq (msAsgF (mLst mNil) 2)
  (msSeq (msFor (miEnum (mVar 1)) (G_Next_signs_0 K)
  (B_Next_signs_1 K)
  [3, 4, 5, 6])
  (msRet (mLet 2)))))
noncomputable def mf_Next_signs (K : PySem.W.Frag) : List Slot → Option CO := mfOf 7 (M_Next_signs K).m
abbrev s_Single_signs : Stmt := inClass (topS 17) 1
abbrev N_Single_signs : List Str := ["self", "word", "__class__", "found", "value", "added", "minus", "following", "plus", "other_minus"]
theorem sc_Single_signs : NdefX.NScope N_Single_signs ["self", "word"] ["__class__"] (defScope s_Single_signs) := NdefX.nscope_by (by decide +kernel)
noncomputable def G_Single_signs_0 (K : PySem.W.Frag) : MG K :=
  (mgTup 2 (mgCons (mgTup 3 (mgCons (mgName 4) (mgCons (mgName 5) (mgCons (mgName 6) mgNil)))) (mgCons (mgTup 3 (mgCons (mgName 7) (mgCons (mgName 8) (mgCons (mgName 9) mgNil)))) mgNil)))
noncomputable def B_Single_signs_1 (K : PySem.W.Frag) : MS K :=
  (msIf (mAnd (mTest (mOp oGt (mVar 6) (mC (.int 0) (.int 0)))) (mTest (mOp oEq (mVar 8) (mC (.int 0) (.int 0)))))
  (msRaise "InvalidWord")
  msNil)
noncomputable def M_Single_signs (K : PySem.W.Frag) : MS K :=
  (msSeq (msAsg (mSup "Single" 2 (mf_Next_signs K) (mcVal (mVar 1) mcNil)) (mgName 3))
  (msSeq (msFor (miZip (mVar 3) (mFr (mSlL (mVar 3) (moSome (mC (.int 1) (.int 1))) moNone))) (G_Single_signs_0 K)
  (B_Single_signs_1 K)
  [4, 5, 6, 7, 8, 9])
  (msRet (mVar 3))))
noncomputable def mf_Single_signs (K : PySem.W.Frag) : List Slot → Option CO := mfOf 10 (M_Single_signs K).m
abbrev s_Block_signs : Stmt := inClass (topS 18) 1
abbrev N_Block_signs : List Str := ["self", "word", "found", "following", "value", "count"]
theorem sc_Block_signs : FnScope N_Block_signs ["self", "word"] (defScope s_Block_signs) := ⟨rfl, rfl, rfl, by decide +kernel, rfl, by decide +kernel, by decide +kernel⟩
noncomputable def G_Block_signs_0 (K : PySem.W.Frag) : MG K :=
  (mgTup 2 (mgCons (mgName 4) (mgCons (mgName 5) mgNil)))
noncomputable def B_Block_signs_1 (K : PySem.W.Frag) : MS K :=
  (msSeq (msDrop (mMeth 2 oAppend (mCons (mIf (mTest (mOp oGt (mVar 3) (mVar 4))) (mTup (mCons (mVar 4) (mCons (mC (.int 0) (.int 0)) (mCons (mVar 5) mNil)))) (mTup (mCons (mVar 4) (mCons (mVar 5) (mCons (mC (.int 0) (.int 0)) mNil))))) mNil)))
  (msAsg (mVar 4) (mgName 3)))
noncomputable def M_Block_signs (K : PySem.W.Frag) : MS K :=
  (msSeq (msDrop (mCall 1 (mf_need_runs K) (mcVal (mVar 1) mcNil)))
  (msSeq (msAsgF (mLst mNil) 2)
  (msSeq (msAsg (mC (.int 0) (.int 0)) (mgName 3))
  (msSeq (msFor (miList (mFr (mRev (mVar 1)))) (G_Block_signs_0 K)
  (B_Block_signs_1 K)
  [4, 5])
  (msRet (mFr (mRev (mLet 2))))))))
noncomputable def mf_Block_signs (K : PySem.W.Frag) : List Slot → Option CO := mfOf 6 (M_Block_signs K).m
abbrev s_Later_signs : Stmt := inClass (topS 19) 1
abbrev N_Later_signs : List Str := ["self", "word", "__class__", "found", "greatest", "value", "added", "subtracted", "count"]
theorem sc_Later_signs : NdefX.NScope N_Later_signs ["self", "word"] ["__class__"] (defScope s_Later_signs) := NdefX.nscope_by (by decide +kernel)
noncomputable def G_Later_signs_0 (K : PySem.W.Frag) : MG K :=
  (mgTup 3 (mgCons (mgName 5) (mgCons (mgName 6) (mgCons (mgName 7) mgNil))))
noncomputable def B_Later_signs_1 (K : PySem.W.Frag) : MS K :=
  (msSeq (msAsg (mOp oAdd (mVar 6) (mVar 7)) (mgName 8))
  (msSeq (msDrop (mMeth 3 oAppend (mCons (mIf (mTest (mOp oGt (mVar 4) (mVar 5))) (mTup (mCons (mVar 5) (mCons (mC (.int 0) (.int 0)) (mCons (mVar 8) mNil)))) (mTup (mCons (mVar 5) (mCons (mVar 8) (mCons (mC (.int 0) (.int 0)) mNil))))) mNil)))
  (msAsg (mBi oMax2 (mCons (mVar 4) (mCons (mVar 5) mNil))) (mgName 4))))
noncomputable def M_Later_signs (K : PySem.W.Frag) : MS K :=
  (msSeq (msAsgF (mLst mNil) 3)
  (msSeq (msAsg (mC (.int 0) (.int 0)) (mgName 4))
  (msSeq (msFor (miList (mFr (mRev (mSup "Later" 2 (mf_Block_signs K) (mcVal (mVar 1) mcNil))))) (G_Later_signs_0 K)
  (B_Later_signs_1 K)
  [5, 6, 7, 8])
  (msRet (mFr (mRev (mLet 3)))))))
noncomputable def mf_Later_signs (K : PySem.W.Frag) : List Slot → Option CO := mfOf 9 (M_Later_signs K).m
noncomputable def tab_signs (K : PySem.W.Frag) : MTab := [("Plain", mf_Plain_signs K), ("Single", mf_Single_signs K), ("Next", mf_Next_signs K), ("Block", mf_Block_signs K), ("Later", mf_Later_signs K)]
abbrev s_Rule_total : Stmt := inClass (topS 14) 4
abbrev N_Rule_total : List Str := ["self", "word", "value", "added", "subtracted"]
theorem sc_Rule_total : FnScope N_Rule_total ["self", "word"] (defScope s_Rule_total) := ⟨rfl, rfl, rfl, by decide +kernel, rfl, by decide +kernel, by decide +kernel⟩
noncomputable def G_Rule_total_0 (K : PySem.W.Frag) : MG K :=
  (mgTup 3 (mgCons (mgName 2) (mgCons (mgName 3) (mgCons (mgName 4) mgNil))))
noncomputable def T_Rule_total_1 (K : PySem.W.Frag) : MTs K :=
  mtYes
noncomputable def E_Rule_total_2 (K : PySem.W.Frag) : ME K :=
  (mOp oMul (mVar 2) (mOp oSub (mVar 3) (mVar 4)))
noncomputable def M_Rule_total (K : PySem.W.Frag) : MS K :=
  (msRet (mBi oSum (mCons (mFr (mLc (miList (mMethD "signs" 2 (tab_signs K) (mVar 0) (mcVal (mVar 1) mcNil))) (G_Rule_total_0 K) (T_Rule_total_1 K) (E_Rule_total_2 K) [2, 3, 4])) mNil)))
noncomputable def mf_Rule_total (K : PySem.W.Frag) : List Slot → Option CO := mfOf 5 (M_Rule_total K).m
noncomputable def tab_total (K : PySem.W.Frag) : MTab := [("Plain", mf_Rule_total K), ("Single", mf_Rule_total K), ("Next", mf_Rule_total K), ("Block", mf_Rule_total K), ("Later", mf_Rule_total K)]
abbrev s__law_told : Stmt := topS 30
abbrev N__law_told : List Str := ["_law_kind", "_law_line", "_law_one"]
theorem sc__law_told : FnScope N__law_told ["_law_kind", "_law_line"] (defScope s__law_told) := ⟨rfl, rfl, rfl, by decide +kernel, rfl, by decide +kernel, by decide +kernel⟩
noncomputable def M__law_told (K : PySem.W.Frag) : MS K :=
  (msTry [("InvalidValues", false), ("InvalidWord", true)]
  (msSeq (msAsg (mCMeth "Rule" 2 (mf_Rule_named K) (mcVal (mVar 0) mcNil)) (mgName 2))
  (msRet (mFr (mLst (mCons (mMethD "signs" 2 (tab_signs K) (mVar 2) (mcVal (mVar 1) mcNil)) (mCons (mMethD "total" 2 (tab_total K) (mVar 2) (mcVal (mVar 1) mcNil)) mNil))))))
  (msRet (mC .non .non)))
noncomputable def mf__law_told (K : PySem.W.Frag) : List Slot → Option CO := mfOf 3 (M__law_told K).m
abbrev s__law_worth : Stmt := topS 27
abbrev N__law_worth : List Str := ["_law_found", "_law_one", "_law_plus", "_law_less"]
theorem sc__law_worth : FnScope N__law_worth ["_law_found"] (defScope s__law_worth) := ⟨rfl, rfl, rfl, by decide +kernel, rfl, by decide +kernel, by decide +kernel⟩
noncomputable def G__law_worth_0 (K : PySem.W.Frag) : MG K :=
  (mgTup 3 (mgCons (mgName 1) (mgCons (mgName 2) (mgCons (mgName 3) mgNil))))
noncomputable def T__law_worth_1 (K : PySem.W.Frag) : MTs K :=
  mtYes
noncomputable def E__law_worth_2 (K : PySem.W.Frag) : ME K :=
  (mOp oMul (mVar 1) (mOp oSub (mVar 2) (mVar 3)))
noncomputable def M__law_worth (K : PySem.W.Frag) : MS K :=
  (msRet (mBi oSum (mCons (mFr (mLc (miList (mVar 0)) (G__law_worth_0 K) (T__law_worth_1 K) (E__law_worth_2 K) [1, 2, 3])) mNil)))
noncomputable def mf__law_worth (K : PySem.W.Frag) : List Slot → Option CO := mfOf0 4 (M__law_worth K).m
abbrev s__law_right : Stmt := topS 31
abbrev N__law_right : List Str := ["_law_line", "_law_kept", "_law_kind", "_law_due"]
theorem sc__law_right : FnScope N__law_right ["_law_line"] (defScope s__law_right) := ⟨rfl, rfl, rfl, by decide +kernel, rfl, by decide +kernel, by decide +kernel⟩
noncomputable def G__law_right_0 (K : PySem.W.Frag) : MG K :=
  (mgName 2)
noncomputable def B__law_right_1 (K : PySem.W.Frag) : MS K :=
  (msSeq (msAsg (mCall 2 (mf__law_due_far K) (mcVal (mVar 2) (mcVal (mVar 0) mcNil))) (mgName 3))
  (msIf (mNot (mTru (mCall 2 (mf__law_same K) (mcVal (mCall 2 (mf__law_told K) (mcVal (mVar 2) (mcVal (mVar 0) mcNil))) (mcVal (mIf (mTest (mOp oIsN (mVar 3) (mC .non .non))) (mC .non .non) (mFr (mLst (mCons (mVar 3) (mCons (mCall 1 (mf__law_worth K) (mcVal (mVar 3) mcNil)) mNil))))) mcNil)))))
  (msRet (mC (.bl false) (.bl false)))
  msNil))
noncomputable def M__law_right (K : PySem.W.Frag) : MS K :=
  (msSeq (msAsg (mBi oRepr (mCons (mVar 0) mNil)) (mgName 1))
  (msSeq (msFor (miList (mFr (mLst (mCons (mC (.str "plain") (.str "plain")) (mCons (mC (.str "single") (.str "single")) (mCons (mC (.str "next") (.str "next")) (mCons (mC (.str "block") (.str "block")) (mCons (mC (.str "later") (.str "later")) mNil)))))))) (G__law_right_0 K)
  (B__law_right_1 K)
  [2, 3])
  (msRet (mOp oEqS (mBi oRepr (mCons (mVar 0) mNil)) (mVar 1)))))
noncomputable def mf__law_right (K : PySem.W.Frag) : List Slot → Option CO := mfOf 4 (M__law_right K).m
abbrev s_law : Stmt := topS 32
abbrev N_law : List Str := ["_law_script", "_law_k", "_law_full", "_law_told_here", "_law_more", "_law_feed_here", "_law_most", "_law_line", "_law_at", "_law_kind"]
theorem sc_law : FnScope N_law ["_law_script"] (defScope s_law) := ⟨rfl, rfl, rfl, by decide +kernel, rfl, by decide +kernel, by decide +kernel⟩
noncomputable def G_law_0 (K : PySem.W.Frag) : MG K :=
  (mgName 6)
noncomputable def B_law_1 (K : PySem.W.Frag) : MS K :=
  (msSeq (msAsgF (mCallF 2 (mf__law_long K) (mcCel 5 (mcVal (mVar 6) mcNil))) 7)
  (msSeq (msIf (mNot (mTru (mCallL 1 (mf__law_right K) (mcCel 7 mcNil))))
  (msRet (mC (.bl false) (.bl false)))
  msNil)
  (msSeq (msDrop (mMeth0 7 oReverse))
  (msSeq (msIf (mNot (mTru (mCallL 1 (mf__law_right K) (mcCel 7 mcNil))))
  (msRet (mC (.bl false) (.bl false)))
  msNil)
  (msSeq (msAsg (mCall 2 (mf__law_pick K) (mcCel 5 (mcVal (mBi oLen (mCons (mLook 7) mNil)) mcNil))) (mgName 8))
  (msSeq (msSet 7 (mVar 8) (mTup (mCons (mSc (mIx oIx (mIx oIx (mLook 7) (mVar 8)) (mC (.int 0) (.int 0)))) (mCons (mCall 1 (mf__law_far K) (mcCel 5 mcNil)) mNil))))
  (msIf (mNot (mTru (mCallL 1 (mf__law_right K) (mcCel 7 mcNil))))
  (msRet (mC (.bl false) (.bl false)))
  msNil)))))))
noncomputable def G_law_2 (K : PySem.W.Frag) : MG K :=
  (mgName 1)
noncomputable def B_law_3 (K : PySem.W.Frag) : MS K :=
  (msSeq (msAsgF (mCallF 2 (mf__law_feed K) (mcVal (mVar 0) (mcVal (mVar 1) mcNil))) 5)
  (msFor (miList (mFr (mLst (mCons (mC (.int 12) (.int 12)) (mCons (mIx oIx (mFr (mLst (mCons (mC (.int 12) (.int 12)) (mCons (mC (.int 60) (.int 60)) (mCons (mC (.int 200) (.int 200)) mNil))))) (mCall 2 (mf__law_pick K) (mcCel 5 (mcVal (mC (.int 3) (.int 3)) mcNil)))) mNil))))) (G_law_0 K)
  (B_law_1 K)
  [6, 7, 8]))
noncomputable def G_law_4 (K : PySem.W.Frag) : MG K :=
  (mgName 9)
noncomputable def T_law_5 (K : PySem.W.Frag) : MTs K :=
  mtYes
noncomputable def E_law_6 (K : PySem.W.Frag) : ME K :=
  (mOp oIsN (mCall 2 (mf__law_told K) (mcVal (mVar 9) (mcVal (mVar 2) mcNil))) (mC .non .non))
noncomputable def G_law_7 (K : PySem.W.Frag) : MG K :=
  (mgName 9)
noncomputable def T_law_8 (K : PySem.W.Frag) : MTs K :=
  mtYes
noncomputable def E_law_9 (K : PySem.W.Frag) : ME K :=
  (mCall 2 (mf__law_told K) (mcVal (mVar 9) (mcVal (mFr (mCat (mVar 2) (mFr (mLst (mCons (mTup (mCons (mC (.int 1) (.int 1)) (mCons (mC (.int 1) (.int 1)) mNil))) mNil))))) mcNil)))
noncomputable def M_law (K : PySem.W.Frag) : MS K :=
  (msSeq (msFor (miRng1 (mBi oMax2 (mCons (mC (.int 1) (.int 1)) (mCons (mBi oMin2 (mCons (mC (.int 2) (.int 2)) (mCons (mBi oLen (mCons (mVar 0) mNil)) mNil))) mNil)))) (G_law_2 K)
  (B_law_3 K)
  [1, 5, 6, 7, 8])
  (msSeq (msAsg (mFr (mRepeat (mFr (mLst (mCons (mTup (mCons (mC (.int 1) (.int 1)) (mCons (mOp oPow (mC (.int 10) (.int 10)) (mC (.int 59) (.int 59))) mNil))) (mCons (mTup (mCons (mC (.int 2) (.int 2)) (mCons (mOp oPow (mC (.int 10) (.int 10)) (mC (.int 59) (.int 59))) mNil))) mNil)))) (mC (.int 100) (.int 100)))) (mgName 2))
  (msSeq (msAsg (mFr (mLc (miList (mFr (mLst (mCons (mC (.str "plain") (.str "plain")) (mCons (mC (.str "single") (.str "single")) (mCons (mC (.str "next") (.str "next")) (mCons (mC (.str "block") (.str "block")) (mCons (mC (.str "later") (.str "later")) mNil)))))))) (G_law_4 K) (T_law_5 K) (E_law_6 K) [9])) (mgName 3))
  (msSeq (msAsg (mFr (mLc (miList (mFr (mLst (mCons (mC (.str "plain") (.str "plain")) (mCons (mC (.str "single") (.str "single")) (mCons (mC (.str "next") (.str "next")) (mCons (mC (.str "block") (.str "block")) (mCons (mC (.str "later") (.str "later")) mNil)))))))) (G_law_7 K) (T_law_8 K) (E_law_9 K) [9])) (mgName 4))
  (msSeq (msIf (mOr (mNot (mTru (mCall 1 (mf__law_right K) (mcVal (mVar 2) mcNil)))) (mNot (mTru (mCall 1 (mf__law_right K) (mcVal (mFr (mLst (mCons (mTup (mCons (mOp oSub (mOp oPow (mC (.int 10) (.int 10)) (mC (.int 60) (.int 60))) (mC (.int 1) (.int 1))) (mCons (mOp oSub (mOp oPow (mC (.int 10) (.int 10)) (mC (.int 60) (.int 60))) (mC (.int 1) (.int 1))) mNil))) mNil))) mcNil)))))
  (msRet (mC (.bl false) (.bl false)))
  msNil)
  (msRet (mAndV (mOp oEq (mVar 3) (mFr (mRepeat (mFr (mLst (mCons (mC (.bl false) (.bl false)) mNil))) (mC (.int 5) (.int 5))))) (mOp oEq (mVar 4) (mFr (mRepeat (mFr (mLst (mCons (mC .non .non) mNil))) (mC (.int 5) (.int 5))))))))))))
noncomputable def mf_law (K : PySem.W.Frag) : List Slot → Option CO := mfOf 10 (M_law K).m
structure Top (P : Program) (K : PySem.W.Frag) (mg : Str → Option Value) : Prop where
  b_abs : mg "abs" = none
  b_all : mg "all" = none
  b_bool : mg "bool" = none
  b_dict : mg "dict" = none
  b_enumerate : mg "enumerate" = none
  b_int : mg "int" = none
  b_isinstance : mg "isinstance" = none
  b_len : mg "len" = none
  b_list : mg "list" = none
  b_max : mg "max" = none
  b_min : mg "min" = none
  b_range : mg "range" = none
  b_repr : mg "repr" = none
  b_set : mg "set" = none
  b_sorted : mg "sorted" = none
  b_str : mg "str" = none
  b_sum : mg "sum" = none
  b_super : mg "super" = none
  b_tuple : mg "tuple" = none
  b_zip : mg "zip" = none
  c_BLOCK : ∃ t, mg "BLOCK" = some (.str "block" t)
  c_MOST_RUNS : ∃ t, mg "MOST_RUNS" = some (.int 200 t)
  c_NEXT : ∃ t, mg "NEXT" = some (.str "next" t)
  c_PLAIN : ∃ t, mg "PLAIN" = some (.str "plain" t)
  c_SINGLE : ∃ t, mg "SINGLE" = some (.str "single" t)
  cm_Rule_named : ClX.CMet K (He.ga K "Rule") (.type "type") "named" (He.ma K (He.ga K "Rule") "named") (cmg K (He.ma K (He.ga K "Rule") "named"))
  e_InvalidValues_InvalidWord : PySem.W.exmOne K (.ref (He.ga K "InvalidValues")) (.ref (He.ga K "InvalidWord")) = some false
  e_InvalidWord_InvalidWord : PySem.W.exmOne K (.ref (He.ga K "InvalidWord")) (.ref (He.ga K "InvalidWord")) = some true
  f_Block_signs : ∃ fd, Fun K "signs" "Block.signs" s_Block_signs (He.ma K (He.ga K "Block") "signs") fd
  f_Later_signs : ∃ fd, FunS K "signs" "Later.signs" s_Later_signs (He.ma K (He.ga K "Later") "signs") (ccOf K (He.ma K (He.ga K "Later") "signs")) (cdOf K (He.ma K (He.ga K "Later") "signs")) fd ∧ SupF K P mg (He.ma K (He.ga K "Later") "signs") (cdOf K (He.ma K (He.ga K "Later") "signs")) (ccOf K (He.ma K (He.ga K "Later") "signs")) fd "self" "Later" "signs" (He.ma K (He.ga K "Block") "signs")
  f_Next_signs : ∃ fd, Fun K "signs" "Next.signs" s_Next_signs (He.ma K (He.ga K "Next") "signs") fd
  f_Plain_signs : ∃ fd, Fun K "signs" "Plain.signs" s_Plain_signs (He.ma K (He.ga K "Plain") "signs") fd
  f_Rule_named : ∃ fd, Fun K "named" "Rule.named" s_Rule_named (cmg K (He.ma K (He.ga K "Rule") "named")) fd
  f_Rule_total : ∃ fd, Fun K "total" "Rule.total" s_Rule_total (He.ma K (He.ga K "Rule") "total") fd
  f_Single_signs : ∃ fd, FunS K "signs" "Single.signs" s_Single_signs (He.ma K (He.ga K "Single") "signs") (ccOf K (He.ma K (He.ga K "Single") "signs")) (cdOf K (He.ma K (He.ga K "Single") "signs")) fd ∧ SupF K P mg (He.ma K (He.ga K "Single") "signs") (cdOf K (He.ma K (He.ga K "Single") "signs")) (ccOf K (He.ma K (He.ga K "Single") "signs")) fd "self" "Single" "signs" (He.ma K (He.ga K "Next") "signs")
  f__law_due_far : ∃ fd, Fun K "_law_due_far" "_law_due_far" s__law_due_far (He.ga K "_law_due_far") fd
  f__law_far : ∃ fd, Fun K "_law_far" "_law_far" s__law_far (He.ga K "_law_far") fd
  f__law_feed : ∃ fd, Fun K "_law_feed" "_law_feed" s__law_feed (He.ga K "_law_feed") fd
  f__law_long : ∃ fd, Fun K "_law_long" "_law_long" s__law_long (He.ga K "_law_long") fd
  f__law_numbers : ∃ fd, Fun K "_law_numbers" "_law_numbers" s__law_numbers (He.ga K "_law_numbers") fd
  f__law_pick : ∃ fd, Fun K "_law_pick" "_law_pick" s__law_pick (He.ga K "_law_pick") fd
  f__law_right : ∃ fd, Fun K "_law_right" "_law_right" s__law_right (He.ga K "_law_right") fd
  f__law_same : ∃ fd, Fun K "_law_same" "_law_same" s__law_same (He.ga K "_law_same") fd
  f__law_told : ∃ fd, Fun K "_law_told" "_law_told" s__law_told (He.ga K "_law_told") fd
  f__law_worth : ∃ fd, Fun K "_law_worth" "_law_worth" s__law_worth (He.ga K "_law_worth") fd
  f_are_runs : ∃ fd, Fun K "are_runs" "are_runs" s_are_runs (He.ga K "are_runs") fd
  f_is_integer : ∃ fd, Fun K "is_integer" "is_integer" s_is_integer (He.ga K "is_integer") fd
  f_is_run : ∃ fd, Fun K "is_run" "is_run" s_is_run (He.ga K "is_run") fd
  f_law : ∃ fd, Fun K "law" "law" s_law (He.ga K "law") fd
  f_need_runs : ∃ fd, Fun K "need_runs" "need_runs" s_need_runs (He.ga K "need_runs") fd
  f_rule_of : ∃ fd, Fun K "rule_of" "rule_of" s_rule_of (He.ga K "rule_of") fd
  g_Block : mg "Block" = some (.ref (He.ga K "Block"))
  g_InvalidValues : mg "InvalidValues" = some (.ref (He.ga K "InvalidValues"))
  g_InvalidWord : mg "InvalidWord" = some (.ref (He.ga K "InvalidWord"))
  g_Later : mg "Later" = some (.ref (He.ga K "Later"))
  g_Next : mg "Next" = some (.ref (He.ga K "Next"))
  g_Plain : mg "Plain" = some (.ref (He.ga K "Plain"))
  g_Rule : mg "Rule" = some (.ref (He.ga K "Rule"))
  g_Single : mg "Single" = some (.ref (He.ga K "Single"))
  g__law_due_far : mg "_law_due_far" = some (.ref (He.ga K "_law_due_far"))
  g__law_far : mg "_law_far" = some (.ref (He.ga K "_law_far"))
  g__law_feed : mg "_law_feed" = some (.ref (He.ga K "_law_feed"))
  g__law_long : mg "_law_long" = some (.ref (He.ga K "_law_long"))
  g__law_numbers : mg "_law_numbers" = some (.ref (He.ga K "_law_numbers"))
  g__law_pick : mg "_law_pick" = some (.ref (He.ga K "_law_pick"))
  g__law_right : mg "_law_right" = some (.ref (He.ga K "_law_right"))
  g__law_same : mg "_law_same" = some (.ref (He.ga K "_law_same"))
  g__law_told : mg "_law_told" = some (.ref (He.ga K "_law_told"))
  g__law_worth : mg "_law_worth" = some (.ref (He.ga K "_law_worth"))
  g_are_runs : mg "are_runs" = some (.ref (He.ga K "are_runs"))
  g_is_integer : mg "is_integer" = some (.ref (He.ga K "is_integer"))
  g_is_run : mg "is_run" = some (.ref (He.ga K "is_run"))
  g_law : mg "law" = some (.ref (He.ga K "law"))
  g_need_runs : mg "need_runs" = some (.ref (He.ga K "need_runs"))
  g_rule_of : mg "rule_of" = some (.ref (He.ga K "rule_of"))
  k_Block : Cls K (He.ga K "Block")
  k_Later : Cls K (He.ga K "Later")
  k_Next : Cls K (He.ga K "Next")
  k_Plain : Cls K (He.ga K "Plain")
  k_Single : Cls K (He.ga K "Single")
  kp_Rule : PySem.W.keepIn K (.ref (He.ga K "Rule")) = true
  o_Rule_ALL : ConC K "Rule" "ALL" (.tup ((["plain", "single", "next", "block", "later"] : List Str).map U.str))
  p_Block : Mk0 K (He.ga K "Block")
  p_Later : Mk0 K (He.ga K "Later")
  p_Next : Mk0 K (He.ga K "Next")
  p_Plain : Mk0 K (He.ga K "Plain")
  p_Single : Mk0 K (He.ga K "Single")
  r_Rule : ClX.CRead K (He.ga K "Rule") (.type "type")
  t_Block_signs : Meth K (He.ga K "Block") "signs" (He.ma K (He.ga K "Block") "signs")
  t_Block_total : Meth K (He.ga K "Block") "total" (He.ma K (He.ga K "Rule") "total")
  t_Later_signs : Meth K (He.ga K "Later") "signs" (He.ma K (He.ga K "Later") "signs")
  t_Later_total : Meth K (He.ga K "Later") "total" (He.ma K (He.ga K "Rule") "total")
  t_Next_signs : Meth K (He.ga K "Next") "signs" (He.ma K (He.ga K "Next") "signs")
  t_Next_total : Meth K (He.ga K "Next") "total" (He.ma K (He.ga K "Rule") "total")
  t_Plain_signs : Meth K (He.ga K "Plain") "signs" (He.ma K (He.ga K "Plain") "signs")
  t_Plain_total : Meth K (He.ga K "Plain") "total" (He.ma K (He.ga K "Rule") "total")
  t_Single_signs : Meth K (He.ga K "Single") "signs" (He.ma K (He.ga K "Single") "signs")
  t_Single_total : Meth K (He.ga K "Single") "total" (He.ma K (He.ga K "Rule") "total")
  x_InvalidValues : XF K mg "InvalidValues"
  x_InvalidWord : XF K mg "InvalidWord"
section
variable {P : Program} {w : World} {K : PySem.W.Frag} {mg : Str → Option Value} {base : Heap}
theorem c__law_pick (T : Top P K mg) : Cal P w K mg base CX0 1 "_law_pick" 2 (mf__law_pick K) := by
  obtain ⟨fd, F⟩ := T.f__law_pick
  refine ⟨T.g__law_pick, F.kp, fd, ["_law_feed_here", "_law_wide"], fn_ok0 F sc__law_pick (M__law_pick K) rfl (by decide) (fun cdv A outer s H E hr => ?_), F.binds fun _ _ _ _ _ _ us hl => match us, hl with | [_, _], _ => rfl⟩
  have nd := sc__law_pick.nd
  refine ⟨_, (show PSs _ _ ((M__law_pick K).t _) from by unfold M__law_pick ; exact (scons (sif (tcm rGt (dix dLk dI) dI)
  (scons (sasgN nd (dop rMod (dix dLk dI) dV))
  (scons (ssetI (dop rDiv (dix dLk dI) dV) dI)
  (sone (sret dV))))
  snil)
  (scons (ssetI (dop rAdd (dix dLk dI) dI) dI)
  (scons (sasgN nd (dop rMod (dop rAdd (dix dLk dI) (dop rMul dI (dix dLk dI))) dI))
  (scons (sasgN nd (dop rMod (dop rAdd (dop rAdd (dop rMul dV dV) (dop rMul (dop rMul dI (dix dLk dI)) dV)) dI) dI))
  (scons (sasgN nd (dop rMod (dop rAdd (dop rAdd (dop rPow dV dI) (dix dLk dI)) (dop rMul dI (dix dLk dI))) dI))
  (sone (sret (dop rMod (dop rDiv dV dI) dV))))))))), rfl⟩
theorem c__law_far (T : Top P K mg) : Cal P w K mg base CX0 2 "_law_far" 1 (mf__law_far K) := by
  obtain ⟨fd, F⟩ := T.f__law_far
  refine ⟨T.g__law_far, F.kp, fd, ["_law_feed_here"], fn_ok0 F sc__law_far (M__law_far K) rfl (by decide) (fun cdv A outer s H E hr => ?_), F.binds fun _ _ _ _ _ _ us hl => match us, hl with | [_], _ => rfl⟩
  have nd := sc__law_far.nd
  refine ⟨_, (show PSs _ _ ((M__law_far K).t _) from by unfold M__law_far B__law_far_1 G__law_far_0; exact (scons (sasgN nd dI)
  (scons (sfor PassesOwn.never (irng1 T.b_range dI) (gN nd)
  (sone (sasgN nd (dop rAdd (dop rMul dV (dop rPow dI dI)) (dcall0 (c__law_pick T) (hr.mono (by decide)) (dccel (dcval (dop rPow dI dI) dcnil)))))))
  (sone (sret (dix (dfr (dlst (dcons (dop rAdd dI (dcall0 (c__law_pick T) (hr.mono (by decide)) (dccel (dcval dI dcnil)))) (dcons (dbiB rMax2 T.b_max (dcons dI (dcons dV dnil))) (dcons (dbiB rMax2 T.b_max (dcons dI (dcons (dop rDiv dV (dop rPow dI dI)) dnil))) (dcons (dop rSub (dop rPow dI dI) dI) dnil)))))) (dcall0 (c__law_pick T) (hr.mono (by decide)) (dccel (dcval dI dcnil))))))))), rfl⟩
theorem c__law_feed (T : Top P K mg) : Cal P w K mg base CX0 1 "_law_feed" 2 (mf__law_feed K) := by
  obtain ⟨fd, F⟩ := T.f__law_feed
  refine ⟨T.g__law_feed, F.kp, fd, ["_law_script", "_law_k"], fn_ok0 F sc__law_feed (M__law_feed K) rfl (by decide) (fun cdv A outer s H E hr => ?_), F.binds fun _ _ _ _ _ _ us hl => match us, hl with | [_, _], _ => rfl⟩
  have nd := sc__law_feed.nd
  refine ⟨_, (show PSs _ _ ((M__law_feed K).t _) from by unfold M__law_feed ; exact (scons (sasgN nd dI)
  (scons (sif (tcm rLt dV (dbiB rLen T.b_len (dcons dV dnil)))
  (sone (sasgN nd (dix dV dV)))
  snil)
  (sone (sretF (dlst (dcons (dbiB rMax2 T.b_max (dcons dI (dcons (dop rSub (dbiB rAbs T.b_abs (dcons dV dnil)) (dop rPow dI dI)) dnil))) (dcons (dop rMod (dop rAdd (dop rAdd (dop rMul dV dI) (dop rMul dI dV)) dI) dI) (dcons dI dnil))))))))), rfl⟩
theorem c__law_numbers (T : Top P K mg) : Cal P w K mg base CX0 2 "_law_numbers" 3 (mf__law_numbers K) := by
  obtain ⟨fd, F⟩ := T.f__law_numbers
  refine ⟨T.g__law_numbers, F.kp, fd, ["_law_feed_here", "_law_many", "_law_top"], fn_ok0 F sc__law_numbers (M__law_numbers K) rfl (by decide) (fun cdv A outer s H E hr => ?_), F.binds fun _ _ _ _ _ _ us hl => match us, hl with | [_, _, _], _ => rfl⟩
  have nd := sc__law_numbers.nd
  refine ⟨_, (show PSs _ _ ((M__law_numbers K).t _) from by unfold M__law_numbers E__law_numbers_2 T__law_numbers_1 G__law_numbers_0; exact (scons (sasgF nd (dlr T.b_list T.b_range dI (dop rAdd dV dI)))
  (sone (sret (dfr (dbfB rSortedX T.b_sorted (dcons (dfr (dlc (own := [("_law_turn", 4)]) nd (show blkC N__law_numbers (defScope s__law_numbers) _ _ = true from by decide +kernel) rfl (irng1 T.b_range dV) (fun _ _ _ _ _ => (gN nd)) (fun _ _ _ _ _ => tsnil) (fun _ _ _ _ _ => (dmeth PySem.F.slot_list_pop PySem.F.type_list_pop rPopAtX (dcons (dcall0 (c__law_pick T) (hr.mono (by decide)) (dccel (dcval (dbiB rLen T.b_len (dcons dLk dnil)) dcnil))) dnil))))) dnil))))))), rfl⟩
theorem c__law_long (T : Top P K mg) : Cal P w K mg base CX0 3 "_law_long" 2 (mf__law_long K) := by
  obtain ⟨fd, F⟩ := T.f__law_long
  refine ⟨T.g__law_long, F.kp, fd, ["_law_feed_here", "_law_most"], fn_ok0 F sc__law_long (M__law_long K) rfl (by decide) (fun cdv A outer s H E hr => ?_), F.binds fun _ _ _ _ _ _ us hl => match us, hl with | [_, _], _ => rfl⟩
  have nd := sc__law_long.nd
  refine ⟨_, (show PSs _ _ ((M__law_long K).t _) from by unfold M__law_long B__law_long_10 G__law_long_9 E__law_long_8 T__law_long_7 G__law_long_6 E__law_long_5 T__law_long_4 G__law_long_3 E__law_long_2 T__law_long_1 G__law_long_0; exact (scons (sasgN nd (dfr (dsset T.b_sorted T.b_set (dfr (dcat (dfr (dlc (own := [("_law_turn", 5)]) nd (show blkC N__law_long (defScope s__law_long) _ _ = true from by decide +kernel) rfl (irng1 T.b_range dI) (fun _ _ _ _ _ => (gN nd)) (fun _ _ _ _ _ => tsnil) (fun _ _ _ _ _ => (dcall0 (c__law_far T) (hr.mono (by decide)) (dccel dcnil))))) (dcall0 (c__law_numbers T) (hr.mono (by decide)) (dccel (dcval (dop rAdd dI (dcall0 (c__law_pick T) (hr.mono (by decide)) (dccel (dcval dI dcnil)))) (dcval dI dcnil)))))))))
  (scons (sif (tcm (rEqX hr) (dcall0 (c__law_pick T) (hr.mono (by decide)) (dccel (dcval dI dcnil))) dI)
  (sone (sasgN nd (dfr (dsset T.b_sorted T.b_set (dfr (dcat dV (dfr (dlc (own := [("_law_turn", 5)]) nd (show blkC N__law_long (defScope s__law_long) _ _ = true from by decide +kernel) rfl (irng1 T.b_range dV) (fun _ _ _ _ _ => (gN nd)) (fun _ _ _ _ _ => tsnil) (fun _ _ _ _ _ => (dop rAdd dI dV))))))))))
  snil)
  (scons (stupVF nd (dcall0 (c__law_pick T) (hr.mono (by decide)) (dccel (dcval dI dcnil))) (dlst dnil))
  (scons (sfor PassesOwn.never (irng1 T.b_range (dix (dfr (dlst (dcons dV (dcons (dop rAdd dI (dcall0 (c__law_pick T) (hr.mono (by decide)) (dccel (dcval dV dcnil)))) dnil)))) (dcall0 (c__law_pick T) (hr.mono (by decide)) (dccel (dcval dI dcnil))))) (gN nd)
  (scons (slc (own := [("_law_one", 10)]) nd (show blkC N__law_long (defScope s__law_long) _ _ = true from by decide +kernel) rfl (sw_true rfl rfl rfl (by decide +kernel)) (ilist dV) (fun _ _ _ _ _ => (gN nd)) (fun _ _ _ _ _ => (tsone (tpw (wor (tcm (rEqX hr) dLk (dfr (dlst dnil))) (wor1 (tcm (rNeX hr) dV (dix (dix dLk (dneg dI)) dI))))))) (fun _ _ _ _ _ => dV))
  (scons (sasgN nd (dop rSub (dbiB rLen T.b_len (dcons dV dnil)) dI))
  (scons (sasgN nd (dix (dfr (dlst (dcons (dcall0 (c__law_pick T) (hr.mono (by decide)) (dccel (dcval (dbiB rLen T.b_len (dcons dV dnil)) dcnil))) (dcons (dbiB rMin2 T.b_min (dcons dV (dcons dV dnil))) (dcons (dbiB rMax2 T.b_max (dcons dI (dcons (dop rSub dV dV) dnil))) (dcons (dbiB rMin2 T.b_min (dcons (dop rMod dV dI) (dcons dV dnil))) dnil)))))) dV))
  (scons (sasgN nd (dix (dfr (dlst (dcons dI (dcons dI (dcons (dcall0 (c__law_far T) (hr.mono (by decide)) (dccel dcnil)) dnil))))) (dcall0 (c__law_pick T) (hr.mono (by decide)) (dccel (dcval dI dcnil)))))
  (sone (sdrop (dmeth PySem.F.slot_list_append PySem.F.type_list_append rAppendX (dcons (dtup (dcons (dix dV dV) (dcons dV dnil))) dnil)))))))))
  (sone sretC)))))), rfl⟩
theorem c__law_due_far (T : Top P K mg) : Cal P w K mg base CX0 1 "_law_due_far" 2 (mf__law_due_far K) := by
  obtain ⟨fd, F⟩ := T.f__law_due_far
  refine ⟨T.g__law_due_far, F.kp, fd, ["_law_kind", "_law_line"], fn_ok0 F sc__law_due_far (M__law_due_far K) rfl (by decide) (fun cdv A outer s H E hr => ?_), F.binds fun _ _ _ _ _ _ us hl => match us, hl with | [_, _], _ => rfl⟩
  have nd := sc__law_due_far.nd
  refine ⟨_, (show PSs _ _ ((M__law_due_far K).t _) from by unfold M__law_due_far E__law_due_far_7 T__law_due_far_6 G__law_due_far_5 B__law_due_far_4 G__law_due_far_3 E__law_due_far_2 T__law_due_far_1 G__law_due_far_0; exact (scons (sasgF nd (dlst dnil))
  (scons (sfor PassesOwn.never (ienum T.b_enumerate dV) (gtup (gcons (gN nd) (gcons (gtup (gcons (gN nd) (gcons (gN nd) gnil))) gnil)))
  (scons (slc (own := [("_law_other", 10), ("_law_count", 11)]) nd (show blkC N__law_due_far (defScope s__law_due_far) _ _ = true from by decide +kernel) rfl (sw_true rfl rfl rfl (by decide +kernel)) (ilist (dfr (dsl dV (osome (dop rAdd dV dI)) onone))) (fun _ _ _ _ _ => (gtup (gcons (gN nd) (gcons (gN nd) gnil)))) (fun _ _ _ _ _ => tsnil) (fun _ _ _ _ _ => dV))
  (scons (sasgN nd (dand (dcm (rNeX hr) dV (dfr (dlst dnil))) (done (dcm rGt (dix dV dI) dV))))
  (scons (sasgN nd (dget2 hr (ddict (ppconsS dI (ppconsS (dbiT rInt T.b_int (dcons dV dnil)) (ppconsS (dbiT rInt T.b_int (dcons dV dnil)) (ppconsS (dop rMul dV (dbiT rInt T.b_int (dcons dV dnil))) ppnil))))) dV dV))
  (scons (sif (tpw (wand (tcm (rEqX hr) dV dS) (wand1 (tpw (wor (tcm (rEqX hr) dV (dfr (dlst dnil))) (wor1 (tcm rLe (dbiB rMaxX T.b_max (dcons dV dnil)) dV)))))))
  (sone (sasgN nd dI))
  snil)
  (sone (sdrop (dmeth PySem.F.slot_list_append PySem.F.type_list_append rAppendX (dcons (dtup (dcons dV (dcons (dop rSub dV dV) (dcons dV dnil)))) dnil)))))))))
  (scons (slc (own := [("_law_one", 4), ("_law_two", 12)]) nd (show blkC N__law_due_far (defScope s__law_due_far) _ _ = true from by decide +kernel) rfl (sw_true rfl rfl rfl (by decide +kernel)) (izip T.b_zip dLt (dfr (dsl dLt (osome dI) onone))) (fun _ _ _ _ _ => (gtup (gcons (gN nd) (gcons (gN nd) gnil)))) (fun _ _ _ _ _ => (tsone (tpw (wand (tcm rGt (dix dV dI) dI) (wand1 (tcm (rEqX hr) (dix dV dI) dI)))))) (fun _ _ _ _ _ => dI))
  (sone (sret (dif (tpw (wand (tcm (rEqX hr) dV dS) (wand1 (tcm (rNeX hr) dV (dfr (dlst dnil)))))) dN dLt))))))), rfl⟩
theorem st__law_same (T : Top P K mg) {k : Nat} {r : List Slot → Option CO} (cr : Cal P w K mg base CX0 k "_law_same" 2 r) (hk : 0 ≤ k) : Cal P w K mg base CX0 (k + 1) "_law_same" 2 (mfOf0 4 (M__law_same K r).m) := by
  obtain ⟨fd, F⟩ := T.f__law_same
  refine ⟨T.g__law_same, F.kp, fd, ["_law_found", "_law_due"], fn_ok0 F sc__law_same (M__law_same K r) rfl (by decide) (fun cdv A outer s H E hr => ?_), F.binds fun _ _ _ _ _ _ us hl => match us, hl with | [_, _], _ => rfl⟩
  have nd := sc__law_same.nd
  refine ⟨_, (show PSs _ _ ((M__law_same K r).t _) from by unfold M__law_same E__law_same_5 T__law_same_4 G__law_same_3 E__law_same_2 T__law_same_1 G__law_same_0; exact (scons (sif (tval (disi T.b_isinstance T.b_dict dV))
  (scons (sif (tpw (wor (tnot (tval (disi T.b_isinstance T.b_dict dV))) (wor1 (tcm (rNeX hr) (dfr (dbfT rListL T.b_list (dcons dV dnil))) (dfr (dbfT rListL T.b_list (dcons dV dnil)))))))
  (sone (sret dB))
  snil)
  (sone (sret (dbiB rAllX T.b_all (dcons (dfr (dlc (own := [("_law_one", 2)]) nd (show blkC N__law_same (defScope s__law_same) _ _ = true from by decide +kernel) rfl (ilist dV) (fun _ _ _ _ _ => (gN nd)) (fun _ _ _ _ _ => tsnil) (fun _ _ _ _ _ => (dcall0 cr (hr.mono (Nat.le_refl _)) (dcval (dix dV dV) (dcval (dix dV dV) dcnil)))))) dnil)))))
  snil)
  (scons (sif (tval (disiT T.b_isinstance dV (patcons (patcons patnil T.b_tuple) T.b_list)))
  (scons (sif (tpw (wor (tcm (rNeX hr) (disi T.b_isinstance T.b_list dV) (disi T.b_isinstance T.b_list dV)) (wor1 (tcm (rNeX hr) (disi T.b_isinstance T.b_tuple dV) (disi T.b_isinstance T.b_tuple dV)))))
  (sone (sret dB))
  snil)
  (sone (sret (dand (dcm rEqI (dbiB rLen T.b_len (dcons dV dnil)) (dbiB rLen T.b_len (dcons dV dnil))) (done (dbiB rAllX T.b_all (dcons (dfr (dlc (own := [("_law_one", 2), ("_law_two", 3)]) nd (show blkC N__law_same (defScope s__law_same) _ _ = true from by decide +kernel) rfl (izipA T.b_zip dV dV) (fun _ _ _ _ _ => (gtup (gcons (gN nd) (gcons (gN nd) gnil)))) (fun _ _ _ _ _ => tsnil) (fun _ _ _ _ _ => (dcall0 cr (hr.mono (Nat.le_refl _)) (dcval dV (dcval dV dcnil)))))) dnil)))))))
  snil)
  (scons (sif (tpw (wor (tcm rIsN dV dN) (wor1 (tcm rIsN dV dN))))
  (sone (sret (dand (dcm rIsN dV dN) (done (dcm rIsN dV dN)))))
  snil)
  (scons (sif (tpw (wor (tcm (rNeX hr) (disi T.b_isinstance T.b_bool dV) (disi T.b_isinstance T.b_bool dV)) (wor1 (tcm (rNeX hr) (disi T.b_isinstance T.b_str dV) (disi T.b_isinstance T.b_str dV)))))
  (sone (sret dB))
  snil)
  (sone (sret (dcm (rEqX hr) dV dV)))))))), rfl⟩
theorem c__law_same (T : Top P K mg) : Cal P w K mg base CX0 6 "_law_same" 2 (mf__law_same K) := by
  have z : Cal P w K mg base CX0 1 "_law_same" 2 (mr__law_same K 0) := by
    obtain ⟨fd, F⟩ := T.f__law_same
    exact ⟨T.g__law_same, F.kp, fd, ["_law_found", "_law_due"], fn_none _ rfl, F.binds fun _ _ _ _ _ _ us hl => match us, hl with | [_, _], _ => rfl⟩
  have z := st__law_same T z (by decide)
  have z := st__law_same T z (by decide)
  have z := st__law_same T z (by decide)
  have z := st__law_same T z (by decide)
  have z := st__law_same T z (by decide)
  exact z
theorem c_rule_of (T : Top P K mg) : Cal P w K mg base CX0 1 "rule_of" 1 (mf_rule_of K) := by
  obtain ⟨fd, F⟩ := T.f_rule_of
  refine ⟨T.g_rule_of, F.kp, fd, ["name"], fn_ok0 F sc_rule_of (M_rule_of K) rfl (by decide) (fun cdv A outer s H E hr => ?_), F.binds fun _ _ _ _ _ _ us hl => match us, hl with | [_], _ => rfl⟩
  have nd := sc_rule_of.nd
  refine ⟨_, (show PSs _ _ ((M_rule_of K).t _) from by unfold M_rule_of ; exact (scons (sif (tcm (rEqX hr) dV (dGS T.c_PLAIN))
  (sone (sret (dnew T.p_Plain T.g_Plain)))
  snil)
  (scons (sif (tcm (rEqX hr) dV (dGS T.c_SINGLE))
  (sone (sret (dnew T.p_Single T.g_Single)))
  snil)
  (scons (sif (tcm (rEqX hr) dV (dGS T.c_NEXT))
  (sone (sret (dnew T.p_Next T.g_Next)))
  snil)
  (sone (sret (dif (tcm (rEqX hr) dV (dGS T.c_BLOCK)) (dnew T.p_Block T.g_Block) (dnew T.p_Later T.g_Later)))))))), rfl⟩
theorem c_Rule_named (T : Top P K mg) : FnR P w K mg base (L2.CX P w) 2 (cmg K (He.ma K (He.ga K "Rule") "named")) (spM K 2 (mf_Rule_named K)) := by
  obtain ⟨fd, F⟩ := T.f_Rule_named
  refine fnR_of (ps := ["cls", "name"]) (fn_okX F sc_Rule_named (M_Rule_named K) rfl (by decide) (fun cdv A outer s H E hr => ?_)) (F.binds fun _ _ _ _ _ _ us hl => match us, hl with | [_, _], _ => rfl)
  have nd := sc_Rule_named.nd
  have tk := takes_of (X := cxOf (L2.CX P w) P w K mg base N_Rule_named "Rule.named" (defScope s_Rule_named) (cmg K (He.ma K (He.ga K "Rule") "named")) cdv A outer s H E) rfl rfl rfl rfl
  refine ⟨_, (show PSs _ _ ((M_Rule_named K).t _) from by unfold M_Rule_named ; exact (scons (sif (tcm rNotInX dV (dcon T.o_Rule_ALL dV))
  (sone (srs T.x_InvalidValues tk))
  snil)
  (sone (sret (dcall0 (c_rule_of T) (hr.mono (by decide)) (dcval dV dcnil)))))), rfl⟩
theorem cc_Rule_named (T : Top P K mg) : CalC P w K mg base 2 "Rule" "named" 2 (mf_Rule_named K) := ⟨T.g_Rule, T.kp_Rule, _, _, _, T.r_Rule, T.cm_Rule_named, c_Rule_named T⟩
theorem c_is_integer (T : Top P K mg) : Cal P w K mg base CX0 1 "is_integer" 2 (mf_is_integer K) := by
  obtain ⟨fd, F⟩ := T.f_is_integer
  refine ⟨T.g_is_integer, F.kp, fd, ["thing", "least"], fn_ok0 F sc_is_integer (M_is_integer K) rfl (by decide) (fun cdv A outer s H E hr => ?_), F.binds fun _ _ _ _ _ _ us hl => match us, hl with | [_, _], _ => rfl⟩
  have nd := sc_is_integer.nd
  refine ⟨_, (show PSs _ _ ((M_is_integer K).t _) from by unfold M_is_integer ; exact (sone (sret (dand (disi T.b_isinstance T.b_int dV) (dand (dnot (disi T.b_isinstance T.b_bool dV)) (done (dcm rGe dV dV))))))), rfl⟩
theorem c_is_run (T : Top P K mg) : Cal P w K mg base CX0 2 "is_run" 1 (mf_is_run K) := by
  obtain ⟨fd, F⟩ := T.f_is_run
  refine ⟨T.g_is_run, F.kp, fd, ["thing"], fn_ok0 F sc_is_run (M_is_run K) rfl (by decide) (fun cdv A outer s H E hr => ?_), F.binds fun _ _ _ _ _ _ us hl => match us, hl with | [_], _ => rfl⟩
  have nd := sc_is_run.nd
  refine ⟨_, (show PSs _ _ ((M_is_run K).t _) from by unfold M_is_run E_is_run_2 T_is_run_1 G_is_run_0; exact (sone (sret (dand (disi T.b_isinstance T.b_tuple dV) (dand (dcm rEqI (dbiB rLen T.b_len (dcons dV dnil)) dI) (done (dbiB rAllX T.b_all (dcons (dfr (dlc (own := [("part", 1)]) nd (show blkC N_is_run (defScope s_is_run) _ _ = true from by decide +kernel) rfl (itup dV) (fun _ _ _ _ _ => (gN nd)) (fun _ _ _ _ _ => tsnil) (fun _ _ _ _ _ => (dcall0 (c_is_integer T) (hr.mono (by decide)) (dcval dV (dcval dI dcnil)))))) dnil)))))))), rfl⟩
theorem c_are_runs (T : Top P K mg) : Cal P w K mg base CX0 3 "are_runs" 1 (mf_are_runs K) := by
  obtain ⟨fd, F⟩ := T.f_are_runs
  refine ⟨T.g_are_runs, F.kp, fd, ["thing"], fn_ok0 F sc_are_runs (M_are_runs K) rfl (by decide) (fun cdv A outer s H E hr => ?_), F.binds fun _ _ _ _ _ _ us hl => match us, hl with | [_], _ => rfl⟩
  have nd := sc_are_runs.nd
  refine ⟨_, (show PSs _ _ ((M_are_runs K).t _) from by unfold M_are_runs E_are_runs_5 T_are_runs_4 G_are_runs_3 E_are_runs_2 T_are_runs_1 G_are_runs_0; exact (scons (sif (tpw (wor (tnot (tval (disi T.b_isinstance T.b_list dV))) (wor (tnot (tch rLe rLe dI (dbiB rLen T.b_len (dcons dV dnil)) (dGI T.c_MOST_RUNS))) (wor1 (tnot (tval (dbiB rAllX T.b_all (dcons (dfr (dlc (own := [("run", 1)]) nd (show blkC N_are_runs (defScope s_are_runs) _ _ = true from by decide +kernel) rfl (ilist dV) (fun _ _ _ _ _ => (gN nd)) (fun _ _ _ _ _ => tsnil) (fun _ _ _ _ _ => (dcall0 (c_is_run T) (hr.mono (by decide)) (dcval dV dcnil))))) dnil))))))))
  (sone (sret dB))
  snil)
  (sone (sret (dbiB rAllX T.b_all (dcons (dfr (dlc (own := [("one", 2), ("other", 3)]) nd (show blkC N_are_runs (defScope s_are_runs) _ _ = true from by decide +kernel) rfl (izip T.b_zip dV (dfr (dsl dV (osome dI) onone))) (fun _ _ _ _ _ => (gtup (gcons (gN nd) (gcons (gN nd) gnil)))) (fun _ _ _ _ _ => tsnil) (fun _ _ _ _ _ => (dcm (rNeX hr) (dix dV dI) (dix dV dI))))) dnil)))))), rfl⟩
theorem c_need_runs (T : Top P K mg) : Cal P w K mg base (L2.CX P w) 4 "need_runs" 1 (mf_need_runs K) := by
  obtain ⟨fd, F⟩ := T.f_need_runs
  refine ⟨T.g_need_runs, F.kp, fd, ["word"], fn_okX F sc_need_runs (M_need_runs K) rfl (by decide) (fun cdv A outer s H E hr => ?_), F.binds fun _ _ _ _ _ _ us hl => match us, hl with | [_], _ => rfl⟩
  have nd := sc_need_runs.nd
  have tk := takes_of (X := cxOf (L2.CX P w) P w K mg base N_need_runs "need_runs" (defScope s_need_runs) (He.ga K "need_runs") cdv A outer s H E) rfl rfl rfl rfl
  refine ⟨_, (show PSs _ _ ((M_need_runs K).t _) from by unfold M_need_runs ; exact (sone (sif (tnot (ttru (dcall0 (c_are_runs T) (hr.mono (by decide)) (dcval dV dcnil))))
  (sone (srs T.x_InvalidWord tk))
  snil))), rfl⟩
theorem c_Plain_signs (T : Top P K mg) : FnR P w K mg base (L2.CX P w) 5 (He.ma K (He.ga K "Plain") "signs") (spM K 2 (mf_Plain_signs K)) := by
  obtain ⟨fd, F⟩ := T.f_Plain_signs
  refine fnR_of (ps := ["self", "word"]) (fn_okX F sc_Plain_signs (M_Plain_signs K) rfl (by decide) (fun cdv A outer s H E hr => ?_)) (F.binds fun _ _ _ _ _ _ us hl => match us, hl with | [_, _], _ => rfl)
  have nd := sc_Plain_signs.nd
  have tk := takes_of (X := cxOf (L2.CX P w) P w K mg base N_Plain_signs "Plain.signs" (defScope s_Plain_signs) (He.ma K (He.ga K "Plain") "signs") cdv A outer s H E) rfl rfl rfl rfl
  refine ⟨_, (show PSs _ _ ((M_Plain_signs K).t _) from by unfold M_Plain_signs E_Plain_signs_2 T_Plain_signs_1 G_Plain_signs_0; exact (scons (sdrop (dcallX (c_need_runs T) (hr.mono (by decide)) tk (dcval dV dcnil)))
  (sone (sret (dfr (dlc (own := [("value", 2), ("count", 3)]) nd (show blkC N_Plain_signs (defScope s_Plain_signs) _ _ = true from by decide +kernel) rfl (ilist dV) (fun _ _ _ _ _ => (gtup (gcons (gN nd) (gcons (gN nd) gnil)))) (fun _ _ _ _ _ => tsnil) (fun _ _ _ _ _ => (dtup (dcons dV (dcons dV (dcons dI dnil))))))))))), rfl⟩
theorem c_Next_signs (T : Top P K mg) : FnR P w K mg base (L2.CX P w) 5 (He.ma K (He.ga K "Next") "signs") (spM K 2 (mf_Next_signs K)) := by
  obtain ⟨fd, F⟩ := T.f_Next_signs
  refine fnR_of (ps := ["self", "word"]) (fn_okX F sc_Next_signs (M_Next_signs K) rfl (by decide) (fun cdv A outer s H E hr => ?_)) (F.binds fun _ _ _ _ _ _ us hl => match us, hl with | [_, _], _ => rfl)
  have nd := sc_Next_signs.nd
  have tk := takes_of (X := cxOf (L2.CX P w) P w K mg base N_Next_signs "Next.signs" (defScope s_Next_signs) (He.ma K (He.ga K "Next") "signs") cdv A outer s H E) rfl rfl rfl rfl
  refine ⟨_, (show PSs _ _ ((M_Next_signs K).t _) from by unfold M_Next_signs B_Next_signs_1 G_Next_signs_0; exact (scons (sdrop (dcallX (c_need_runs T) (hr.mono (by decide)) tk (dcval dV dcnil)))
  (scons (sasgF nd (dlst dnil))
  (scons (sfor PassesOwn.leaving (ienum T.b_enumerate dV) (gtup (gcons (gN nd) (gcons (gtup (gcons (gN nd) (gcons (gN nd) gnil))) gnil)))
  (scons (sasgN nd (dbiT rInt T.b_int (dcons (dand (dcm rLt (dop rAdd dV dI) (dbiB rLen T.b_len (dcons dV dnil))) (done (dcm rGt (dix (dix dV (dop rAdd dV dI)) dI) dV))) dnil)))
  (sone (sdrop (dmeth PySem.F.slot_list_append PySem.F.type_list_append rAppendX (dcons (dtup (dcons dV (dcons (dop rSub dV dV) (dcons dV dnil)))) dnil))))))
  (sone (sret dLt)))))), rfl⟩
theorem c_Single_signs (T : Top P K mg) : FnR P w K mg base (L2.CX P w) 6 (He.ma K (He.ga K "Single") "signs") (spM K 2 (mf_Single_signs K)) := by
  obtain ⟨fd, F, hS⟩ := T.f_Single_signs
  refine fn_sup F sc_Single_signs (M_Single_signs K) rfl (fun _ _ _ _ _ us hl => match us, hl with | [_, _], _ => rfl) fun A outer s H E hr => ?_
  have nd := sc_Single_signs.nd
  have tk := takes_of (X := NdefX.ncx (L2.CX P w) P w K mg base N_Single_signs (nfS "signs" "Single.signs" s_Single_signs (ccOf K (He.ma K (He.ga K "Single") "signs")) (cdOf K (He.ma K (He.ga K "Single") "signs"))) (He.ma K (He.ga K "Single") "signs") A outer s H E) rfl rfl rfl rfl
  unfold M_Single_signs B_Single_signs_1 G_Single_signs_0
  exact (ucons (uset nd (usup hS (c_Next_signs T) (hr.mono (by decide)) tk (dcval dV dcnil)))
  (urest (scons (sfor PassesOwn.leaving (izip T.b_zip dV (dfr (dsl dV (osome dI) onone))) (gtup (gcons (gtup (gcons (gN nd) (gcons (gN nd) (gcons (gN nd) gnil)))) (gcons (gtup (gcons (gN nd) (gcons (gN nd) (gcons (gN nd) gnil)))) gnil)))
  (sone (sif (tpw (wand (tcm rGt dV dI) (wand1 (tcm (rEqX hr) dV dI))))
  (sone (srs T.x_InvalidWord tk))
  snil)))
  (sone (sret dV)))))
theorem c_Block_signs (T : Top P K mg) : FnR P w K mg base (L2.CX P w) 5 (He.ma K (He.ga K "Block") "signs") (spM K 2 (mf_Block_signs K)) := by
  obtain ⟨fd, F⟩ := T.f_Block_signs
  refine fnR_of (ps := ["self", "word"]) (fn_okX F sc_Block_signs (M_Block_signs K) rfl (by decide) (fun cdv A outer s H E hr => ?_)) (F.binds fun _ _ _ _ _ _ us hl => match us, hl with | [_, _], _ => rfl)
  have nd := sc_Block_signs.nd
  have tk := takes_of (X := cxOf (L2.CX P w) P w K mg base N_Block_signs "Block.signs" (defScope s_Block_signs) (He.ma K (He.ga K "Block") "signs") cdv A outer s H E) rfl rfl rfl rfl
  refine ⟨_, (show PSs _ _ ((M_Block_signs K).t _) from by unfold M_Block_signs B_Block_signs_1 G_Block_signs_0; exact (scons (sdrop (dcallX (c_need_runs T) (hr.mono (by decide)) tk (dcval dV dcnil)))
  (scons (sasgF nd (dlst dnil))
  (scons (sasgN nd dI)
  (scons (sfor PassesOwn.leaving (ilist (dfr (drev dV))) (gtup (gcons (gN nd) (gcons (gN nd) gnil)))
  (scons (sdrop (dmeth PySem.F.slot_list_append PySem.F.type_list_append rAppendX (dcons (dif (tcm rGt dV dV) (dtup (dcons dV (dcons dI (dcons dV dnil)))) (dtup (dcons dV (dcons dV (dcons dI dnil))))) dnil)))
  (sone (sasgN nd dV))))
  (sone (sret (dfr (drev dLt))))))))), rfl⟩
theorem c_Later_signs (T : Top P K mg) : FnR P w K mg base (L2.CX P w) 6 (He.ma K (He.ga K "Later") "signs") (spM K 2 (mf_Later_signs K)) := by
  obtain ⟨fd, F, hS⟩ := T.f_Later_signs
  refine fn_sup F sc_Later_signs (M_Later_signs K) rfl (fun _ _ _ _ _ us hl => match us, hl with | [_, _], _ => rfl) fun A outer s H E hr => ?_
  have nd := sc_Later_signs.nd
  have tk := takes_of (X := NdefX.ncx (L2.CX P w) P w K mg base N_Later_signs (nfS "signs" "Later.signs" s_Later_signs (ccOf K (He.ma K (He.ga K "Later") "signs")) (cdOf K (He.ma K (He.ga K "Later") "signs"))) (He.ma K (He.ga K "Later") "signs") A outer s H E) rfl rfl rfl rfl
  unfold M_Later_signs B_Later_signs_1 G_Later_signs_0
  exact (ucons (uof (sasgF nd (dlst dnil)))
  (ucons (uof (sasgN nd dI))
  (ucons (ufor PassesOwn.leaving (urev (usup hS (c_Block_signs T) (hr.mono (by decide)) tk (dcval dV dcnil))) (gtup (gcons (gN nd) (gcons (gN nd) (gcons (gN nd) gnil))))
  (scons (sasgN nd (dop rAdd dV dV))
  (scons (sdrop (dmeth PySem.F.slot_list_append PySem.F.type_list_append rAppendX (dcons (dif (tcm rGt dV dV) (dtup (dcons dV (dcons dI (dcons dV dnil)))) (dtup (dcons dV (dcons dV (dcons dI dnil))))) dnil)))
  (sone (sasgN nd (dbiB rMax2 T.b_max (dcons dV (dcons dV dnil))))))))
  (urest (sone (sret (dfr (drev dLt))))))))
theorem t_signs (T : Top P K mg) : CalT P w K mg base 6 "signs" 2 (tab_signs K) := (calT_cons (CalM.mono ⟨T.k_Plain, _, T.t_Plain_signs, c_Plain_signs T⟩ (by decide)) (calT_cons (CalM.mono ⟨T.k_Single, _, T.t_Single_signs, c_Single_signs T⟩ (by decide)) (calT_cons (CalM.mono ⟨T.k_Next, _, T.t_Next_signs, c_Next_signs T⟩ (by decide)) (calT_cons (CalM.mono ⟨T.k_Block, _, T.t_Block_signs, c_Block_signs T⟩ (by decide)) (calT_cons (CalM.mono ⟨T.k_Later, _, T.t_Later_signs, c_Later_signs T⟩ (by decide)) calT_nil)))))
theorem c_Rule_total (T : Top P K mg) : FnR P w K mg base (L2.CX P w) 7 (He.ma K (He.ga K "Rule") "total") (spM K 2 (mf_Rule_total K)) := by
  obtain ⟨fd, F⟩ := T.f_Rule_total
  refine fnR_of (ps := ["self", "word"]) (fn_okX F sc_Rule_total (M_Rule_total K) rfl (by decide) (fun cdv A outer s H E hr => ?_)) (F.binds fun _ _ _ _ _ _ us hl => match us, hl with | [_, _], _ => rfl)
  have nd := sc_Rule_total.nd
  have tk := takes_of (X := cxOf (L2.CX P w) P w K mg base N_Rule_total "Rule.total" (defScope s_Rule_total) (He.ma K (He.ga K "Rule") "total") cdv A outer s H E) rfl rfl rfl rfl
  refine ⟨_, (show PSs _ _ ((M_Rule_total K).t _) from by unfold M_Rule_total E_Rule_total_2 T_Rule_total_1 G_Rule_total_0; exact (sone (sret (dbiB rSumX T.b_sum (dcons (dfr (dlc (own := [("value", 2), ("added", 3), ("subtracted", 4)]) nd (show blkC N_Rule_total (defScope s_Rule_total) _ _ = true from by decide +kernel) rfl (ilist (dM dV (t_signs T) (hr.mono (by decide)) tk (dcval dV dcnil))) (fun _ _ _ _ _ => (gtup (gcons (gN nd) (gcons (gN nd) (gcons (gN nd) gnil))))) (fun _ _ _ _ _ => tsnil) (fun _ _ _ _ _ => (dop rMul dV (dop rSub dV dV))))) dnil))))), rfl⟩
theorem t_total (T : Top P K mg) : CalT P w K mg base 7 "total" 2 (tab_total K) := (calT_cons (CalM.mono ⟨T.k_Plain, _, T.t_Plain_total, c_Rule_total T⟩ (by decide)) (calT_cons (CalM.mono ⟨T.k_Single, _, T.t_Single_total, c_Rule_total T⟩ (by decide)) (calT_cons (CalM.mono ⟨T.k_Next, _, T.t_Next_total, c_Rule_total T⟩ (by decide)) (calT_cons (CalM.mono ⟨T.k_Block, _, T.t_Block_total, c_Rule_total T⟩ (by decide)) (calT_cons (CalM.mono ⟨T.k_Later, _, T.t_Later_total, c_Rule_total T⟩ (by decide)) calT_nil)))))
theorem c__law_told (T : Top P K mg) : Cal P w K mg base (L2.CX P w) 8 "_law_told" 2 (mf__law_told K) := by
  obtain ⟨fd, F⟩ := T.f__law_told
  refine ⟨T.g__law_told, F.kp, fd, ["_law_kind", "_law_line"], fn_okX F sc__law_told (M__law_told K) rfl (by decide) (fun cdv A outer s H E hr => ?_), F.binds fun _ _ _ _ _ _ us hl => match us, hl with | [_, _], _ => rfl⟩
  have nd := sc__law_told.nd
  have tk := takes_of (X := cxOf (L2.CX P w) P w K mg base N__law_told "_law_told" (defScope s__law_told) (He.ga K "_law_told") cdv A outer s H E) rfl rfl rfl rfl
  refine ⟨_, (show PSs _ _ ((M__law_told K).t _) from by unfold M__law_told ; exact (sone (stry (xt_cons T.e_InvalidValues_InvalidWord (xt_cons T.e_InvalidWord_InvalidWord xt_nil)) T.g_InvalidWord tk (fun _ _ _ tk po =>
  (scons (sasgN nd (dCM (cc_Rule_named T) (hr.mono (by decide)) tk (dcval dV dcnil)))
  (sone (sret (dfr (dlst (dcons (dM dV (t_signs T) (hr.mono (by decide)) tk (dcval dV dcnil)) (dcons (dM dV (t_total T) (hr.mono (by decide)) tk (dcval dV dcnil)) dnil))))))))
  (fun _ _ _ _ _ =>
  (sone (sret dN)))))), rfl⟩
theorem c__law_worth (T : Top P K mg) : Cal P w K mg base CX0 1 "_law_worth" 1 (mf__law_worth K) := by
  obtain ⟨fd, F⟩ := T.f__law_worth
  refine ⟨T.g__law_worth, F.kp, fd, ["_law_found"], fn_ok0 F sc__law_worth (M__law_worth K) rfl (by decide) (fun cdv A outer s H E hr => ?_), F.binds fun _ _ _ _ _ _ us hl => match us, hl with | [_], _ => rfl⟩
  have nd := sc__law_worth.nd
  refine ⟨_, (show PSs _ _ ((M__law_worth K).t _) from by unfold M__law_worth E__law_worth_2 T__law_worth_1 G__law_worth_0; exact (sone (sret (dbiB rSumX T.b_sum (dcons (dfr (dlc (own := [("_law_one", 1), ("_law_plus", 2), ("_law_less", 3)]) nd (show blkC N__law_worth (defScope s__law_worth) _ _ = true from by decide +kernel) rfl (ilist dV) (fun _ _ _ _ _ => (gtup (gcons (gN nd) (gcons (gN nd) (gcons (gN nd) gnil))))) (fun _ _ _ _ _ => tsnil) (fun _ _ _ _ _ => (dop rMul dV (dop rSub dV dV))))) dnil))))), rfl⟩
theorem c__law_right (T : Top P K mg) : CalG P w K mg base (L2.CX P w) 9 "_law_right" 1 (mf__law_right K) := by
  obtain ⟨fd, F⟩ := T.f__law_right
  refine ⟨T.g__law_right, F.kp, fn_gX F sc__law_right (M__law_right K) rfl (by decide) (F.binds fun _ _ _ _ _ _ us hl => match us, hl with | [_], _ => rfl) (fun cdv A outer s H E hr hg => ?_)⟩
  have nd := sc__law_right.nd
  have tk := takes_of (X := cxOf (L2.CX P w) P w K mg base N__law_right "_law_right" (defScope s__law_right) (He.ga K "_law_right") cdv A outer s H E) rfl rfl rfl rfl
  refine ⟨_, (show PSs _ _ ((M__law_right K).t _) from by unfold M__law_right B__law_right_1 G__law_right_0; exact (scons (sasgN nd (drepr hr hg T.b_repr (dcons dV dnil)))
  (scons (sfor PassesOwn.leaving (ilist (dfr (dlst (dcons dS (dcons dS (dcons dS (dcons dS (dcons dS dnil)))))))) (gN nd)
  (scons (sasgN nd (dcall0 (c__law_due_far T) (hr.mono (by decide)) (dcval dV (dcval dV dcnil))))
  (sone (sif (tnot (ttru (dcall0 (c__law_same T) (hr.mono (by decide)) (dcval (dcallX (c__law_told T) (hr.mono (by decide)) tk (dcval dV (dcval dV dcnil))) (dcval (dif (tcm rIsN dV dN) dN (dfr (dlst (dcons dV (dcons (dcall0 (c__law_worth T) (hr.mono (by decide)) (dcval dV dcnil)) dnil))))) dcnil)))))
  (sone (sret dB))
  snil))))
  (sone (sret (dcm rEqS (drepr hr hg T.b_repr (dcons dV dnil)) dV)))))), rfl⟩
theorem c_law (T : Top P K mg) : FnG P w K mg base (L2.CX P w) 10 (He.ga K "law") (spM K 1 (mf_law K)) := by
  obtain ⟨fd, F⟩ := T.f_law
  refine fn_gX F sc_law (M_law K) rfl (by decide) (F.binds fun _ _ _ _ _ _ us hl => match us, hl with | [_], _ => rfl) (fun cdv A outer s H E hr hg => ?_)
  have nd := sc_law.nd
  have tk := takes_of (X := cxOf (L2.CX P w) P w K mg base N_law "law" (defScope s_law) (He.ga K "law") cdv A outer s H E) rfl rfl rfl rfl
  refine ⟨_, (show PSs _ _ ((M_law K).t _) from by unfold M_law E_law_9 T_law_8 G_law_7 E_law_6 T_law_5 G_law_4 B_law_3 G_law_2 B_law_1 G_law_0; exact (scons (sfor PassesOwn.leaving (irng1 T.b_range (dbiB rMax2 T.b_max (dcons dI (dcons (dbiB rMin2 T.b_min (dcons dI (dcons (dbiB rLen T.b_len (dcons dV dnil)) dnil))) dnil)))) (gN nd)
  (scons (sasgF nd (dcallF0 (c__law_feed T) (hr.mono (by decide)) (dcval dV (dcval dV dcnil))))
  (sone (sfor PassesOwn.leaving (ilist (dfr (dlst (dcons dI (dcons (dix (dfr (dlst (dcons dI (dcons dI (dcons dI dnil))))) (dcall0 (c__law_pick T) (hr.mono (by decide)) (dccel (dcval dI dcnil)))) dnil))))) (gN nd)
  (scons (sasgF nd (dcallF0 (c__law_long T) (hr.mono (by decide)) (dccel (dcval dV dcnil))))
  (scons (sif (tnot (ttru (dcallGLX (c__law_right T) (hr.mono (by decide)) hg tk (dccel dcnil))))
  (sone (sret dB))
  snil)
  (scons (sdrop (dmeth0 PySem.F.slot_list_reverse PySem.F.type_list_reverse rReverseX))
  (scons (sif (tnot (ttru (dcallGLX (c__law_right T) (hr.mono (by decide)) hg tk (dccel dcnil))))
  (sone (sret dB))
  snil)
  (scons (sasgN nd (dcall0 (c__law_pick T) (hr.mono (by decide)) (dccel (dcval (dbiB rLen T.b_len (dcons dLk dnil)) dcnil))))
  (scons (ssetI (dtup (dcons (dsc (dix (dix dLk dV) dI)) (dcons (dcall0 (c__law_far T) (hr.mono (by decide)) (dccel dcnil)) dnil))) dV)
  (sone (sif (tnot (ttru (dcallGLX (c__law_right T) (hr.mono (by decide)) hg tk (dccel dcnil))))
  (sone (sret dB))
  snil))))))))))))
  (scons (sasgN nd (dfr (drpt (dfr (dlst (dcons (dtup (dcons dI (dcons (dop rPow dI dI) dnil))) (dcons (dtup (dcons dI (dcons (dop rPow dI dI) dnil))) dnil)))) dI)))
  (scons (slc (own := [("_law_kind", 9)]) nd (show blkC N_law (defScope s_law) _ _ = true from by decide +kernel) rfl (sw_true rfl rfl rfl (by decide +kernel)) (ilist (dfr (dlst (dcons dS (dcons dS (dcons dS (dcons dS (dcons dS dnil)))))))) (fun _ _ _ _ _ => (gN nd)) (fun _ _ _ _ _ => tsnil) (fun _ _ _ _ _ => (dcm rIsN (dcallX (c__law_told T) (hr.mono (by decide)) tkNo (dcval dV (dcval dV dcnil))) dN)))
  (scons (slc (own := [("_law_kind", 9)]) nd (show blkC N_law (defScope s_law) _ _ = true from by decide +kernel) rfl (sw_true rfl rfl rfl (by decide +kernel)) (ilist (dfr (dlst (dcons dS (dcons dS (dcons dS (dcons dS (dcons dS dnil)))))))) (fun _ _ _ _ _ => (gN nd)) (fun _ _ _ _ _ => tsnil) (fun _ _ _ _ _ => (dcallX (c__law_told T) (hr.mono (by decide)) tkNo (dcval dV (dcval (dfr (dcat dV (dfr (dlst (dcons (dtup (dcons dI (dcons dI dnil))) dnil))))) dcnil)))))
  (scons (sif (tpw (wor (tnot (ttru (dcallGX (c__law_right T) (hr.mono (by decide)) hg tk (dcval dV dcnil)))) (wor1 (tnot (ttru (dcallGX (c__law_right T) (hr.mono (by decide)) hg tk (dcval (dfr (dlst (dcons (dtup (dcons (dop rSub (dop rPow dI dI) dI) (dcons (dop rSub (dop rPow dI dI) dI) dnil))) dnil))) dcnil)))))))
  (sone (sret dB))
  snil)
  (sone (sret (dand (dcm (rEqX hr) dV (dfr (drpt (dfr (dlst (dcons dB dnil))) dI))) (done (dcm (rEqX hr) dV (dfr (drpt (dfr (dlst (dcons dN dnil))) dI))))))))))))), rfl⟩
end

abbrev fn : List DefY := [⟨.g "_law_pick", "_law_pick", "_law_pick", s__law_pick, []⟩,
  ⟨.g "_law_far", "_law_far", "_law_far", s__law_far, []⟩,
  ⟨.g "_law_feed", "_law_feed", "_law_feed", s__law_feed, []⟩,
  ⟨.g "_law_numbers", "_law_numbers", "_law_numbers", s__law_numbers, []⟩,
  ⟨.g "_law_long", "_law_long", "_law_long", s__law_long, []⟩,
  ⟨.g "_law_due_far", "_law_due_far", "_law_due_far", s__law_due_far, []⟩,
  ⟨.g "_law_same", "_law_same", "_law_same", s__law_same, []⟩,
  ⟨.g "rule_of", "rule_of", "rule_of", s_rule_of, []⟩,
  ⟨.k "Rule" "named", "named", "Rule.named", s_Rule_named, []⟩,
  ⟨.g "is_integer", "is_integer", "is_integer", s_is_integer, []⟩,
  ⟨.g "is_run", "is_run", "is_run", s_is_run, []⟩,
  ⟨.g "are_runs", "are_runs", "are_runs", s_are_runs, []⟩,
  ⟨.g "need_runs", "need_runs", "need_runs", s_need_runs, []⟩,
  ⟨.m "Plain" "signs", "signs", "Plain.signs", s_Plain_signs, []⟩,
  ⟨.m "Next" "signs", "signs", "Next.signs", s_Next_signs, []⟩,
  ⟨.m "Single" "signs", "signs", "Single.signs", s_Single_signs, ["__class__"]⟩,
  ⟨.m "Block" "signs", "signs", "Block.signs", s_Block_signs, []⟩,
  ⟨.m "Later" "signs", "signs", "Later.signs", s_Later_signs, ["__class__"]⟩,
  ⟨.m "Rule" "total", "total", "Rule.total", s_Rule_total, []⟩,
  ⟨.g "_law_told", "_law_told", "_law_told", s__law_told, []⟩,
  ⟨.g "_law_worth", "_law_worth", "_law_worth", s__law_worth, []⟩,
  ⟨.g "_law_right", "_law_right", "_law_right", s__law_right, []⟩,
  ⟨.g "law", "law", "law", s_law, []⟩]
def fa : List FaY := [fun K => (He.Fa.free "abs").ok K,
  fun K => (He.Fa.free "all").ok K,
  fun K => (He.Fa.free "bool").ok K,
  fun K => (He.Fa.free "dict").ok K,
  fun K => (He.Fa.free "enumerate").ok K,
  fun K => (He.Fa.free "int").ok K,
  fun K => (He.Fa.free "isinstance").ok K,
  fun K => (He.Fa.free "len").ok K,
  fun K => (He.Fa.free "list").ok K,
  fun K => (He.Fa.free "max").ok K,
  fun K => (He.Fa.free "min").ok K,
  fun K => (He.Fa.free "range").ok K,
  fun K => (He.Fa.free "repr").ok K,
  fun K => (He.Fa.free "set").ok K,
  fun K => (He.Fa.free "sorted").ok K,
  fun K => (He.Fa.free "str").ok K,
  fun K => (He.Fa.free "sum").ok K,
  fun K => (He.Fa.free "super").ok K,
  fun K => (He.Fa.free "tuple").ok K,
  fun K => (He.Fa.free "zip").ok K,
  fun K => (He.Fa.str "BLOCK" "block").ok K,
  fun K => (He.Fa.int "MOST_RUNS" 200).ok K,
  fun K => (He.Fa.str "NEXT" "next").ok K,
  fun K => (He.Fa.str "PLAIN" "plain").ok K,
  fun K => (He.Fa.str "SINGLE" "single").ok K,
  fun K => cmetB K "Rule" "named",
  fun K => exmB K "InvalidValues" "InvalidWord" false,
  fun K => exmB K "InvalidWord" "InvalidWord" true,
  fun K => cellB K (ccOf K (He.ma K (He.ga K "Later") "signs")) (He.ga K "Later"),
  fun K => supB K PySem.Challenge.pw_signsheets_k04_totals_of_large_words.main.file (He.ma K (He.ga K "Later") "signs") "Later" "signs" "Block",
  fun K => cellB K (ccOf K (He.ma K (He.ga K "Single") "signs")) (He.ga K "Single"),
  fun K => supB K PySem.Challenge.pw_signsheets_k04_totals_of_large_words.main.file (He.ma K (He.ga K "Single") "signs") "Single" "signs" "Next",
  fun K => (He.Fa.glo "Block").ok K,
  fun K => (He.Fa.glo "InvalidValues").ok K,
  fun K => (He.Fa.glo "InvalidWord").ok K,
  fun K => (He.Fa.glo "Later").ok K,
  fun K => (He.Fa.glo "Next").ok K,
  fun K => (He.Fa.glo "Plain").ok K,
  fun K => (He.Fa.glo "Rule").ok K,
  fun K => (He.Fa.glo "Single").ok K,
  fun K => (He.Fa.glo "_law_due_far").ok K,
  fun K => (He.Fa.glo "_law_far").ok K,
  fun K => (He.Fa.glo "_law_feed").ok K,
  fun K => (He.Fa.glo "_law_long").ok K,
  fun K => (He.Fa.glo "_law_numbers").ok K,
  fun K => (He.Fa.glo "_law_pick").ok K,
  fun K => (He.Fa.glo "_law_right").ok K,
  fun K => (He.Fa.glo "_law_same").ok K,
  fun K => (He.Fa.glo "_law_told").ok K,
  fun K => (He.Fa.glo "_law_worth").ok K,
  fun K => (He.Fa.glo "are_runs").ok K,
  fun K => (He.Fa.glo "is_integer").ok K,
  fun K => (He.Fa.glo "is_run").ok K,
  fun K => (He.Fa.glo "law").ok K,
  fun K => (He.Fa.glo "need_runs").ok K,
  fun K => (He.Fa.glo "rule_of").ok K,
  fun K => (He.Fa.cls "Block").ok K,
  fun K => (He.Fa.cls "Later").ok K,
  fun K => (He.Fa.cls "Next").ok K,
  fun K => (He.Fa.cls "Plain").ok K,
  fun K => (He.Fa.cls "Single").ok K,
  fun K => (He.Fa.keep "Rule").ok K,
  fun K => creadB K "Rule",
  fun K => conB K "Rule" "ALL" ["plain", "single", "next", "block", "later"],
  fun K => mk0B K "Block",
  fun K => mk0B K "Later",
  fun K => mk0B K "Next",
  fun K => mk0B K "Plain",
  fun K => mk0B K "Single",
  fun K => methB K "Block" "signs" "Block",
  fun K => methB K "Block" "total" "Rule",
  fun K => methB K "Later" "signs" "Later",
  fun K => methB K "Later" "total" "Rule",
  fun K => methB K "Next" "signs" "Next",
  fun K => methB K "Next" "total" "Rule",
  fun K => methB K "Plain" "signs" "Plain",
  fun K => methB K "Plain" "total" "Rule",
  fun K => methB K "Single" "signs" "Single",
  fun K => methB K "Single" "total" "Rule",
  fun K => (He.Fa.exc "InvalidValues").ok K,
  fun K => (He.Fa.exc "InvalidWord").ok K]
theorem top_of {K : PySem.W.Frag} {h : Heap} {mg : Str → Option Value} (X : K.In h) (G : h.Ns mainGlobals mg) (c : SaysY fa fn K) : Top PySem.Challenge.pw_signsheets_k04_totals_of_large_words K mg where
  b_abs := He.free_ok X G (c.fact 0 (f := fun K => (He.Fa.free "abs").ok K) rfl)
  b_all := He.free_ok X G (c.fact 1 (f := fun K => (He.Fa.free "all").ok K) rfl)
  b_bool := He.free_ok X G (c.fact 2 (f := fun K => (He.Fa.free "bool").ok K) rfl)
  b_dict := He.free_ok X G (c.fact 3 (f := fun K => (He.Fa.free "dict").ok K) rfl)
  b_enumerate := He.free_ok X G (c.fact 4 (f := fun K => (He.Fa.free "enumerate").ok K) rfl)
  b_int := He.free_ok X G (c.fact 5 (f := fun K => (He.Fa.free "int").ok K) rfl)
  b_isinstance := He.free_ok X G (c.fact 6 (f := fun K => (He.Fa.free "isinstance").ok K) rfl)
  b_len := He.free_ok X G (c.fact 7 (f := fun K => (He.Fa.free "len").ok K) rfl)
  b_list := He.free_ok X G (c.fact 8 (f := fun K => (He.Fa.free "list").ok K) rfl)
  b_max := He.free_ok X G (c.fact 9 (f := fun K => (He.Fa.free "max").ok K) rfl)
  b_min := He.free_ok X G (c.fact 10 (f := fun K => (He.Fa.free "min").ok K) rfl)
  b_range := He.free_ok X G (c.fact 11 (f := fun K => (He.Fa.free "range").ok K) rfl)
  b_repr := He.free_ok X G (c.fact 12 (f := fun K => (He.Fa.free "repr").ok K) rfl)
  b_set := He.free_ok X G (c.fact 13 (f := fun K => (He.Fa.free "set").ok K) rfl)
  b_sorted := He.free_ok X G (c.fact 14 (f := fun K => (He.Fa.free "sorted").ok K) rfl)
  b_str := He.free_ok X G (c.fact 15 (f := fun K => (He.Fa.free "str").ok K) rfl)
  b_sum := He.free_ok X G (c.fact 16 (f := fun K => (He.Fa.free "sum").ok K) rfl)
  b_super := He.free_ok X G (c.fact 17 (f := fun K => (He.Fa.free "super").ok K) rfl)
  b_tuple := He.free_ok X G (c.fact 18 (f := fun K => (He.Fa.free "tuple").ok K) rfl)
  b_zip := He.free_ok X G (c.fact 19 (f := fun K => (He.Fa.free "zip").ok K) rfl)
  c_BLOCK := He.str_ok X G (c.fact 20 (f := fun K => (He.Fa.str "BLOCK" "block").ok K) rfl)
  c_MOST_RUNS := He.int_ok X G (c.fact 21 (f := fun K => (He.Fa.int "MOST_RUNS" 200).ok K) rfl)
  c_NEXT := He.str_ok X G (c.fact 22 (f := fun K => (He.Fa.str "NEXT" "next").ok K) rfl)
  c_PLAIN := He.str_ok X G (c.fact 23 (f := fun K => (He.Fa.str "PLAIN" "plain").ok K) rfl)
  c_SINGLE := He.str_ok X G (c.fact 24 (f := fun K => (He.Fa.str "SINGLE" "single").ok K) rfl)
  cm_Rule_named := cmet_ok (c.fact 25 (f := fun K => cmetB K "Rule" "named") rfl)
  e_InvalidValues_InvalidWord := exm_ok (c.fact 26 (f := fun K => exmB K "InvalidValues" "InvalidWord" false) rfl)
  e_InvalidWord_InvalidWord := exm_ok (c.fact 27 (f := fun K => exmB K "InvalidWord" "InvalidWord" true) rfl)
  f_Block_signs := fun_of (d := fn[16]) (c.def_ 16 rfl).1 (c.def_ 16 rfl).2 rfl
  f_Later_signs := (funS_of (d := fn[17]) (v := He.ga K "Later") (c.def_ 17 rfl).1 (c.def_ 17 rfl).2 rfl (c.fact 28 (f := fun K => cellB K (ccOf K (He.ma K (He.ga K "Later") "signs")) (He.ga K "Later")) rfl)).imp fun fd F => ⟨F, supF_of (P := PySem.Challenge.pw_signsheets_k04_totals_of_large_words) (b := "Block") F (c.fact 29 (f := fun K => supB K PySem.Challenge.pw_signsheets_k04_totals_of_large_words.main.file (He.ma K (He.ga K "Later") "signs") "Later" "signs" "Block") rfl) ⟨_, rfl, rfl⟩ (He.free_ok X G (c.fact 17 (f := fun K => (He.Fa.free "super").ok K) rfl)) (by kernel_rfl)⟩
  f_Next_signs := fun_of (d := fn[14]) (c.def_ 14 rfl).1 (c.def_ 14 rfl).2 rfl
  f_Plain_signs := fun_of (d := fn[13]) (c.def_ 13 rfl).1 (c.def_ 13 rfl).2 rfl
  f_Rule_named := fun_of (d := fn[8]) (c.def_ 8 rfl).1 (c.def_ 8 rfl).2 rfl
  f_Rule_total := fun_of (d := fn[18]) (c.def_ 18 rfl).1 (c.def_ 18 rfl).2 rfl
  f_Single_signs := (funS_of (d := fn[15]) (v := He.ga K "Single") (c.def_ 15 rfl).1 (c.def_ 15 rfl).2 rfl (c.fact 30 (f := fun K => cellB K (ccOf K (He.ma K (He.ga K "Single") "signs")) (He.ga K "Single")) rfl)).imp fun fd F => ⟨F, supF_of (P := PySem.Challenge.pw_signsheets_k04_totals_of_large_words) (b := "Next") F (c.fact 31 (f := fun K => supB K PySem.Challenge.pw_signsheets_k04_totals_of_large_words.main.file (He.ma K (He.ga K "Single") "signs") "Single" "signs" "Next") rfl) ⟨_, rfl, rfl⟩ (He.free_ok X G (c.fact 17 (f := fun K => (He.Fa.free "super").ok K) rfl)) (by kernel_rfl)⟩
  f__law_due_far := fun_of (d := fn[5]) (c.def_ 5 rfl).1 (c.def_ 5 rfl).2 rfl
  f__law_far := fun_of (d := fn[1]) (c.def_ 1 rfl).1 (c.def_ 1 rfl).2 rfl
  f__law_feed := fun_of (d := fn[2]) (c.def_ 2 rfl).1 (c.def_ 2 rfl).2 rfl
  f__law_long := fun_of (d := fn[4]) (c.def_ 4 rfl).1 (c.def_ 4 rfl).2 rfl
  f__law_numbers := fun_of (d := fn[3]) (c.def_ 3 rfl).1 (c.def_ 3 rfl).2 rfl
  f__law_pick := fun_of (d := fn[0]) (c.def_ 0 rfl).1 (c.def_ 0 rfl).2 rfl
  f__law_right := fun_of (d := fn[21]) (c.def_ 21 rfl).1 (c.def_ 21 rfl).2 rfl
  f__law_same := fun_of (d := fn[6]) (c.def_ 6 rfl).1 (c.def_ 6 rfl).2 rfl
  f__law_told := fun_of (d := fn[19]) (c.def_ 19 rfl).1 (c.def_ 19 rfl).2 rfl
  f__law_worth := fun_of (d := fn[20]) (c.def_ 20 rfl).1 (c.def_ 20 rfl).2 rfl
  f_are_runs := fun_of (d := fn[11]) (c.def_ 11 rfl).1 (c.def_ 11 rfl).2 rfl
  f_is_integer := fun_of (d := fn[9]) (c.def_ 9 rfl).1 (c.def_ 9 rfl).2 rfl
  f_is_run := fun_of (d := fn[10]) (c.def_ 10 rfl).1 (c.def_ 10 rfl).2 rfl
  f_law := fun_of (d := fn[22]) (c.def_ 22 rfl).1 (c.def_ 22 rfl).2 rfl
  f_need_runs := fun_of (d := fn[12]) (c.def_ 12 rfl).1 (c.def_ 12 rfl).2 rfl
  f_rule_of := fun_of (d := fn[7]) (c.def_ 7 rfl).1 (c.def_ 7 rfl).2 rfl
  g_Block := He.glo_ok X G (c.fact 32 (f := fun K => (He.Fa.glo "Block").ok K) rfl)
  g_InvalidValues := He.glo_ok X G (c.fact 33 (f := fun K => (He.Fa.glo "InvalidValues").ok K) rfl)
  g_InvalidWord := He.glo_ok X G (c.fact 34 (f := fun K => (He.Fa.glo "InvalidWord").ok K) rfl)
  g_Later := He.glo_ok X G (c.fact 35 (f := fun K => (He.Fa.glo "Later").ok K) rfl)
  g_Next := He.glo_ok X G (c.fact 36 (f := fun K => (He.Fa.glo "Next").ok K) rfl)
  g_Plain := He.glo_ok X G (c.fact 37 (f := fun K => (He.Fa.glo "Plain").ok K) rfl)
  g_Rule := He.glo_ok X G (c.fact 38 (f := fun K => (He.Fa.glo "Rule").ok K) rfl)
  g_Single := He.glo_ok X G (c.fact 39 (f := fun K => (He.Fa.glo "Single").ok K) rfl)
  g__law_due_far := He.glo_ok X G (c.fact 40 (f := fun K => (He.Fa.glo "_law_due_far").ok K) rfl)
  g__law_far := He.glo_ok X G (c.fact 41 (f := fun K => (He.Fa.glo "_law_far").ok K) rfl)
  g__law_feed := He.glo_ok X G (c.fact 42 (f := fun K => (He.Fa.glo "_law_feed").ok K) rfl)
  g__law_long := He.glo_ok X G (c.fact 43 (f := fun K => (He.Fa.glo "_law_long").ok K) rfl)
  g__law_numbers := He.glo_ok X G (c.fact 44 (f := fun K => (He.Fa.glo "_law_numbers").ok K) rfl)
  g__law_pick := He.glo_ok X G (c.fact 45 (f := fun K => (He.Fa.glo "_law_pick").ok K) rfl)
  g__law_right := He.glo_ok X G (c.fact 46 (f := fun K => (He.Fa.glo "_law_right").ok K) rfl)
  g__law_same := He.glo_ok X G (c.fact 47 (f := fun K => (He.Fa.glo "_law_same").ok K) rfl)
  g__law_told := He.glo_ok X G (c.fact 48 (f := fun K => (He.Fa.glo "_law_told").ok K) rfl)
  g__law_worth := He.glo_ok X G (c.fact 49 (f := fun K => (He.Fa.glo "_law_worth").ok K) rfl)
  g_are_runs := He.glo_ok X G (c.fact 50 (f := fun K => (He.Fa.glo "are_runs").ok K) rfl)
  g_is_integer := He.glo_ok X G (c.fact 51 (f := fun K => (He.Fa.glo "is_integer").ok K) rfl)
  g_is_run := He.glo_ok X G (c.fact 52 (f := fun K => (He.Fa.glo "is_run").ok K) rfl)
  g_law := He.glo_ok X G (c.fact 53 (f := fun K => (He.Fa.glo "law").ok K) rfl)
  g_need_runs := He.glo_ok X G (c.fact 54 (f := fun K => (He.Fa.glo "need_runs").ok K) rfl)
  g_rule_of := He.glo_ok X G (c.fact 55 (f := fun K => (He.Fa.glo "rule_of").ok K) rfl)
  k_Block := He.cls_ok (c.fact 56 (f := fun K => (He.Fa.cls "Block").ok K) rfl)
  k_Later := He.cls_ok (c.fact 57 (f := fun K => (He.Fa.cls "Later").ok K) rfl)
  k_Next := He.cls_ok (c.fact 58 (f := fun K => (He.Fa.cls "Next").ok K) rfl)
  k_Plain := He.cls_ok (c.fact 59 (f := fun K => (He.Fa.cls "Plain").ok K) rfl)
  k_Single := He.cls_ok (c.fact 60 (f := fun K => (He.Fa.cls "Single").ok K) rfl)
  kp_Rule := He.keep_ok (c.fact 61 (f := fun K => (He.Fa.keep "Rule").ok K) rfl)
  o_Rule_ALL := con_ok (c.fact 62 (f := fun K => creadB K "Rule") rfl) (c.fact 63 (f := fun K => conB K "Rule" "ALL" ["plain", "single", "next", "block", "later"]) rfl)
  p_Block := mk0_ok (c.fact 64 (f := fun K => mk0B K "Block") rfl)
  p_Later := mk0_ok (c.fact 65 (f := fun K => mk0B K "Later") rfl)
  p_Next := mk0_ok (c.fact 66 (f := fun K => mk0B K "Next") rfl)
  p_Plain := mk0_ok (c.fact 67 (f := fun K => mk0B K "Plain") rfl)
  p_Single := mk0_ok (c.fact 68 (f := fun K => mk0B K "Single") rfl)
  r_Rule := cread_ok (c.fact 62 (f := fun K => creadB K "Rule") rfl)
  t_Block_signs := methB_ok (c.fact 69 (f := fun K => methB K "Block" "signs" "Block") rfl)
  t_Block_total := methB_ok (c.fact 70 (f := fun K => methB K "Block" "total" "Rule") rfl)
  t_Later_signs := methB_ok (c.fact 71 (f := fun K => methB K "Later" "signs" "Later") rfl)
  t_Later_total := methB_ok (c.fact 72 (f := fun K => methB K "Later" "total" "Rule") rfl)
  t_Next_signs := methB_ok (c.fact 73 (f := fun K => methB K "Next" "signs" "Next") rfl)
  t_Next_total := methB_ok (c.fact 74 (f := fun K => methB K "Next" "total" "Rule") rfl)
  t_Plain_signs := methB_ok (c.fact 75 (f := fun K => methB K "Plain" "signs" "Plain") rfl)
  t_Plain_total := methB_ok (c.fact 76 (f := fun K => methB K "Plain" "total" "Rule") rfl)
  t_Single_signs := methB_ok (c.fact 77 (f := fun K => methB K "Single" "signs" "Single") rfl)
  t_Single_total := methB_ok (c.fact 78 (f := fun K => methB K "Single" "total" "Rule") rfl)
  x_InvalidValues := xf_ok (He.glo_ok X G (c.fact 33 (f := fun K => (He.Fa.glo "InvalidValues").ok K) rfl)) (c.fact 79 (f := fun K => (He.Fa.exc "InvalidValues").ok K) rfl)
  x_InvalidWord := xf_ok (He.glo_ok X G (c.fact 34 (f := fun K => (He.Fa.glo "InvalidWord").ok K) rfl)) (c.fact 80 (f := fun K => (He.Fa.exc "InvalidWord").ok K) rfl)

end Sg

set_option Elab.async false
set_option linter.all false
set_option maxRecDepth 100000
set_option maxHeartbeats 1000000
namespace Sg
open PySem L2
variable {K : PySem.W.Frag}
local macro_rules | `(tactic| trivial) => `(tactic| simp (disch := omega) only [*, mC_m, mVar_m, mLook_m, mLet_m, mSc_m, mNil_m, msNil_m, msSeq_m, msAsgF_m, msDrop_m, msRet_m, msRetF_m, msRetC_m, msRetN_m, msBrk_m, msCont_m, msRaise_m, msFor_m, mtYes_m, mtOne_m, mLc_m, mcNil_m, mcCel_m, mCall_m, moNone_m, moSome_m, mSlL_m, mBi_m, mBiF_m, miList_m, miTup_m, miRng1_m, miRng2_m, miEnum_m, miZip_m, mMeth_m, mMeth0_m, msSet_m, mCat_m, mRepeat_m, mChain_m, mIsi_m, msAug_m, mRev_m, mListRng_m, mCallF_m, msParVV_m, msParFV_m, msParVF_m, mMethD_m, mNew_m, mCMeth_m, mConC_m, msTry_m, mSup_m, okE_some, okE_none, opE_ok, opE_ex, opF_ok, opF_ex, mOp_e, mOpK_e, mIx_e, unE_ok, mUn_e, coE_ok, coE_ex, coF_ok, coF_ex, mCons_e, bindAE_ok, bindAE_ex, mTup_e, tupF_e, mFr_e, lstF_ok, mLst_e, tsE_ok, tsE_ex, mTest_e, okT_some, truE_ok, truE_ex, mTru_e, anE_t, anE_f, anE_ok, orE_t, orE_f, orE_ok, mAnd_e, mOr_e, noE_ok, noE_ex, mNot_e, blV_ok, blV_ex, anV_t, anV_f, anV_ok, orV_t, orV_f, orV_ok, mAndV_e, mOrV_e, noV_ok, noV_ex, mNotV_e, ifV_t, ifV_f, ifV_ok, mIf_e, ifS_t, ifS_f, ifS_ok, ifS_ex, msIf_e, nxO_some, asE_ok, asE_ex, msAsg_e, gcE_some, mgCons_e, mgNil_e, mgTup_e, mgName_e, cvE_ok, cvE_ex, consC_ok, mcVal_e, thenS_nx, thenS_bk, thenS_ct, thenS_rt, thenS_ex, bindES_ok, bindES_ex, bindAS_ok, bindAS_ex, bindE_ok, bindE_ex, mfOf_e, mfOf0_e, noX_val, noX_cel, coM_some, fin_val, fin_cel, fin_nx, fin_ex, oAdd_i, oSub_i, oMul_l, oMul_r, oMod_i, oDiv_i, oPow_i, oLt_i, oLe_i, oGt_i, oGe_i, oEqI_i, oNeI_i, oIx_l, oIx_f, oIx_t, at1_0, at2_0, at2_1, at3_0, at3_1, at3_2, at4_0, at4_1, at4_2, at4_3, ix3_0, ix3_1, ix3_2, oIsN_non, oNotN_non, oNotN_lst, oIsN_lst, oMax2_i, oMin2_i, oAbs_i, oInt_b, oLen_l, oLen_f, oLen_t, oNeg_i, truU_i, truU_l, truU_b, truU_n, lstU_l, lstU_f, ipAdd_i, ipSub_i, oAppend_u, lstF_0, tupF_0, lstF_1, tupF_1, lstF_2, tupF_2, lstF_3, tupF_3, lstF_4, tupF_4, lstF_5, tupF_5, lstF_6, tupF_6, isi_NoneType_bool, isi_NoneType_int, isi_NoneType_str, isi_NoneType_list, isi_NoneType_tuple, isi_NoneType_dict, isi_bool_bool, isi_bool_int, isi_bool_str, isi_bool_list, isi_bool_tuple, isi_bool_dict, isi_int_bool, isi_int_int, isi_int_str, isi_int_list, isi_int_tuple, isi_int_dict, isi_str_bool, isi_str_int, isi_str_str, isi_str_list, isi_str_tuple, isi_str_dict, isi_list_bool, isi_list_int, isi_list_str, isi_list_list, isi_list_tuple, isi_list_dict, isi_tuple_bool, isi_tuple_int, isi_tuple_str, isi_tuple_list, isi_tuple_tuple, isi_tuple_dict, isi_dict_bool, isi_dict_int, isi_dict_str, isi_dict_list, isi_dict_tuple, isi_dict_dict, tyU_n, tyU_b, tyU_i, tyU_s, tyU_l, tyU_t, rngOk_i, zipU_map, intsU_map, blsU_map, oAll_l, oSum_l, oMax_l, cutU_1, cutU_m1, drop_map, reverse_map, length_map', dropLast_map, oEq_i, oNe_i, oEq_b, oNe_b, oEq_nn, oNe_nn, oEq_tt, oNe_tt, oEq_tn, oNe_tn, oEq_nt, oNe_nt, oEq_pp, oNe_pp, oEq_ii, oNe_ii, mIsiT_m, mCallL_m, lendM_ok, lendM_ex, lendA_some, lendR_b, lendR_i, lendR_n, lendR_ex, resolveL_nil, resolveL_v, resolveL_c, resC_c, mDict_m, dicO_ok, mpNil_m, mpCons_m, mpC_ok, mpC2_ok, mGet2_m, getO_some, keyU_i, keyU_s, mSortSet_m, setO_l, msTupVF_m, isiAny, List.zip_cons_cons, List.zip_nil_left, oEqS_s, oNeS_s, mCallF_m, oMul_s, miZipA_m, zpO_ok, zpP_ok, zpU_l, zpU_t, oIsN_i, oIsN_b, oIsN_t, unown, kills, cellAt, List.map_cons, List.map_nil, List.length_cons, List.length_nil, List.cons_append, List.nil_append, List.replicate, List.getElem?_cons_succ, List.getElem?_cons_zero, List.set_cons_zero, List.set_cons_succ, Option.map_some, Option.map_none, Option.bind_some, Option.bind_none, Nat.reduceAdd, Nat.reduceSub, Nat.reduceLeDiff, Int.reduceLT, Int.reduceLE, Int.reduceNeg, Int.reduceToNat, Int.reducePow, decide_eq_true_eq, reduceIte, eq_self, ite_true, ite_false, Bool.false_eq_true, reduceCtorEq, resolve, celJ, nCel, Slot.isC, List.filter, putJ, callM, callMF, List.append_eq, Nat.reduceLT, Int.reduceMul, Int.reduceAdd, Int.reduceSub, ne_eq, not_true_eq_false, not_false_eq_true, Bool.not_false, Bool.not_true, decide_true, decide_false, frF, Int.cast_ofNat_Int, Bool.and_true, Bool.true_and, Bool.false_and, Bool.and_false, Bool.or_false, Bool.false_or, Bool.true_or, Bool.or_true])
local macro_rules | `(tactic| ac_rfl) => `(tactic| (simp (disch := omega) only [*, mC_m, mVar_m, mLook_m, mLet_m, mSc_m, mNil_m, msNil_m, msSeq_m, msAsgF_m, msDrop_m, msRet_m, msRetF_m, msRetC_m, msRetN_m, msBrk_m, msCont_m, msRaise_m, msFor_m, mtYes_m, mtOne_m, mLc_m, mcNil_m, mcCel_m, mCall_m, moNone_m, moSome_m, mSlL_m, mBi_m, mBiF_m, miList_m, miTup_m, miRng1_m, miRng2_m, miEnum_m, miZip_m, mMeth_m, mMeth0_m, msSet_m, mCat_m, mRepeat_m, mChain_m, mIsi_m, msAug_m, mRev_m, mListRng_m, mCallF_m, msParVV_m, msParFV_m, msParVF_m, mMethD_m, mNew_m, mCMeth_m, mConC_m, msTry_m, mSup_m, okE_some, okE_none, opE_ok, opE_ex, opF_ok, opF_ex, mOp_e, mOpK_e, mIx_e, unE_ok, mUn_e, coE_ok, coE_ex, coF_ok, coF_ex, mCons_e, bindAE_ok, bindAE_ex, mTup_e, tupF_e, mFr_e, lstF_ok, mLst_e, tsE_ok, tsE_ex, mTest_e, okT_some, truE_ok, truE_ex, mTru_e, anE_t, anE_f, anE_ok, orE_t, orE_f, orE_ok, mAnd_e, mOr_e, noE_ok, noE_ex, mNot_e, blV_ok, blV_ex, anV_t, anV_f, anV_ok, orV_t, orV_f, orV_ok, mAndV_e, mOrV_e, noV_ok, noV_ex, mNotV_e, ifV_t, ifV_f, ifV_ok, mIf_e, ifS_t, ifS_f, ifS_ok, ifS_ex, msIf_e, nxO_some, asE_ok, asE_ex, msAsg_e, gcE_some, mgCons_e, mgNil_e, mgTup_e, mgName_e, cvE_ok, cvE_ex, consC_ok, mcVal_e, thenS_nx, thenS_bk, thenS_ct, thenS_rt, thenS_ex, bindES_ok, bindES_ex, bindAS_ok, bindAS_ex, bindE_ok, bindE_ex, mfOf_e, mfOf0_e, noX_val, noX_cel, coM_some, fin_val, fin_cel, fin_nx, fin_ex, oAdd_i, oSub_i, oMul_l, oMul_r, oMod_i, oDiv_i, oPow_i, oLt_i, oLe_i, oGt_i, oGe_i, oEqI_i, oNeI_i, oIx_l, oIx_f, oIx_t, at1_0, at2_0, at2_1, at3_0, at3_1, at3_2, at4_0, at4_1, at4_2, at4_3, ix3_0, ix3_1, ix3_2, oIsN_non, oNotN_non, oNotN_lst, oIsN_lst, oMax2_i, oMin2_i, oAbs_i, oInt_b, oLen_l, oLen_f, oLen_t, oNeg_i, truU_i, truU_l, truU_b, truU_n, lstU_l, lstU_f, ipAdd_i, ipSub_i, oAppend_u, lstF_0, tupF_0, lstF_1, tupF_1, lstF_2, tupF_2, lstF_3, tupF_3, lstF_4, tupF_4, lstF_5, tupF_5, lstF_6, tupF_6, isi_NoneType_bool, isi_NoneType_int, isi_NoneType_str, isi_NoneType_list, isi_NoneType_tuple, isi_NoneType_dict, isi_bool_bool, isi_bool_int, isi_bool_str, isi_bool_list, isi_bool_tuple, isi_bool_dict, isi_int_bool, isi_int_int, isi_int_str, isi_int_list, isi_int_tuple, isi_int_dict, isi_str_bool, isi_str_int, isi_str_str, isi_str_list, isi_str_tuple, isi_str_dict, isi_list_bool, isi_list_int, isi_list_str, isi_list_list, isi_list_tuple, isi_list_dict, isi_tuple_bool, isi_tuple_int, isi_tuple_str, isi_tuple_list, isi_tuple_tuple, isi_tuple_dict, isi_dict_bool, isi_dict_int, isi_dict_str, isi_dict_list, isi_dict_tuple, isi_dict_dict, tyU_n, tyU_b, tyU_i, tyU_s, tyU_l, tyU_t, rngOk_i, zipU_map, intsU_map, blsU_map, oAll_l, oSum_l, oMax_l, cutU_1, cutU_m1, drop_map, reverse_map, length_map', dropLast_map, oEq_i, oNe_i, oEq_b, oNe_b, oEq_nn, oNe_nn, oEq_tt, oNe_tt, oEq_tn, oNe_tn, oEq_nt, oNe_nt, oEq_pp, oNe_pp, oEq_ii, oNe_ii, mIsiT_m, mCallL_m, lendM_ok, lendM_ex, lendA_some, lendR_b, lendR_i, lendR_n, lendR_ex, resolveL_nil, resolveL_v, resolveL_c, resC_c, mDict_m, dicO_ok, mpNil_m, mpCons_m, mpC_ok, mpC2_ok, mGet2_m, getO_some, keyU_i, keyU_s, mSortSet_m, setO_l, msTupVF_m, isiAny, List.zip_cons_cons, List.zip_nil_left, oEqS_s, oNeS_s, mCallF_m, oMul_s, miZipA_m, zpO_ok, zpP_ok, zpU_l, zpU_t, oIsN_i, oIsN_b, oIsN_t, unown, kills, cellAt, List.map_cons, List.map_nil, List.length_cons, List.length_nil, List.cons_append, List.nil_append, List.replicate, List.getElem?_cons_succ, List.getElem?_cons_zero, List.set_cons_zero, List.set_cons_succ, Option.map_some, Option.map_none, Option.bind_some, Option.bind_none, Nat.reduceAdd, Nat.reduceSub, Nat.reduceLeDiff, Int.reduceLT, Int.reduceLE, Int.reduceNeg, Int.reduceToNat, Int.reducePow, decide_eq_true_eq, reduceIte, eq_self, ite_true, ite_false, Bool.false_eq_true, reduceCtorEq, resolve, celJ, nCel, Slot.isC, List.filter, putJ, callM, callMF, List.append_eq, Nat.reduceLT, Int.reduceMul, Int.reduceAdd, Int.reduceSub, ne_eq, not_true_eq_false, not_false_eq_true, Bool.not_false, Bool.not_true, decide_true, decide_false, frF, Int.cast_ofNat_Int, Bool.and_true, Bool.true_and, Bool.false_and, Bool.and_false, Bool.or_false, Bool.false_or, Bool.true_or, Bool.or_true, G__law_far_0, G__law_numbers_0, T__law_numbers_1, E__law_numbers_2, G__law_long_0, T__law_long_1, E__law_long_2, G__law_long_3, T__law_long_4, E__law_long_5, G__law_long_6, T__law_long_7, E__law_long_8, G__law_long_9, G__law_due_far_0, T__law_due_far_1, E__law_due_far_2, G__law_due_far_3, G__law_due_far_5, T__law_due_far_6, E__law_due_far_7, G__law_same_0, T__law_same_1, E__law_same_2, G__law_same_3, T__law_same_4, E__law_same_5, G_is_run_0, T_is_run_1, E_is_run_2, G_are_runs_0, T_are_runs_1, E_are_runs_2, G_are_runs_3, T_are_runs_4, E_are_runs_5, G_Plain_signs_0, T_Plain_signs_1, E_Plain_signs_2, G_Next_signs_0, G_Single_signs_0, G_Block_signs_0, G_Later_signs_0, G_Rule_total_0, T_Rule_total_1, E_Rule_total_2, G__law_worth_0, T__law_worth_1, E__law_worth_2, G__law_right_0, G_law_0, G_law_2, G_law_4, T_law_5, E_law_6, G_law_7, T_law_8, E_law_9]; try rfl))
structure WordOk (w : List (Int × Int)) : Prop where
  pos : 1 ≤ w.length
  top : w.length ≤ 200
  runs : ∀ p ∈ w, 1 ≤ p.1 ∧ 1 ≤ p.2
  adj : ∀ p ∈ w.zip (w.drop 1), p.1.1 ≠ p.2.1
theorem is_integer_i (i l : Int) : mf_is_integer K [.val (.int i), .val (.int l)] = some (.val (.bl (decide (l ≤ i))) none) := by
  unfold mf_is_integer M_is_integer
  trivial
theorem is_run_p (a b : Int) (ha : 1 ≤ a) (hb : 1 ≤ b) : mf_is_run K [.val (.tup [.int a, .int b])] = some (.val (.bl true) none) := by
  unfold mf_is_run M_is_run
  have e1 := is_integer_i (K := K) a 1
  have e2 := is_integer_i (K := K) b 1
  have e3 : decide (1 ≤ a) = true := decide_eq_true ha
  have e4 : decide (1 ≤ b) = true := decide_eq_true hb
  have e5 := oAll_l (K := K) [true, true]
  simp only [List.map_cons, List.map_nil, List.all_cons, List.all_nil, id, Bool.and_true] at e5
  have e6 : decide (((2 : Nat) : Int) = 2) = true := by decide
  trivial
  simp only [lcM]
  ac_rfl

theorem all_true {α : Type} (xs : List α) : (oAll (K := K)).f [.lst (xs.map fun _ => U.bl true)] = some (.bl true) := by
  have z := oAll_l (K := K) (xs.map fun _ => true)
  rw [List.map_map] at z
  rw [show (xs.map fun _ => U.bl true) = xs.map (U.bl ∘ fun _ => true) from rfl, z]
  simp
theorem are_runs_w (w : List (Int × Int)) (h : WordOk w) : mf_are_runs K [.val (.lst (w.map pU))] = some (.val (.bl true) none) := by
  have h1 := h.pos
  have h2 := h.top
  have e2 := all_true (K := K) w
  have e5 := all_true (K := K) (w.zip (w.drop 1))
  have e3 : decide ((w.length : Int) ≤ 200) = true := by simp; omega
  have e4 : decide (1 ≤ (w.length : Int)) = true := by simp; omega
  unfold mf_are_runs M_are_runs
  trivial
  rw [lcM_all pU (fun _ => U.bl true) w ?hl ?hh]
  case hl => omega
  case hh =>
    intro x hx
    have e := is_run_p (K := K) x.1 x.2 (h.runs x hx).1 (h.runs x hx).2
    exact ⟨_, _, _, (by ac_rfl), (by ac_rfl), (by ac_rfl), rfl⟩
  trivial
  rw [lcM_all _ (fun _ => U.bl true) (w.zip (w.drop 1)) ?hl ?hh]
  case hl => rw [List.length_zip]; omega
  case hh =>
    intro x hx
    have e := h.adj x hx
    have e6 : decide (x.1.1 = x.2.1) = false := by simp [e]
    exact ⟨_, _, _, (by ac_rfl), (by ac_rfl), (by ac_rfl), rfl⟩
  trivial
theorem need_runs_w (w : List (Int × Int)) (h : WordOk w) : mf_need_runs K [.val (.lst (w.map pU))] = some (.val .non none) := by
  have e := are_runs_w (K := K) w h
  unfold mf_need_runs M_need_runs
  trivial
def plainS (w : List (Int × Int)) : List (Int × Int × Int) := w.map fun p => (p.1, p.2, 0)
theorem plain_w (o : U) (w : List (Int × Int)) (h : WordOk w) : mf_Plain_signs K [.val o, .val (.lst (w.map pU))] = some (.val (.lst ((plainS w).map tU)) none) := by
  have e := need_runs_w (K := K) w h
  unfold mf_Plain_signs M_Plain_signs plainS
  trivial
  rw [lcM_all pU (fun p => U.tup [.int p.1, .int p.2, .int 0]) w ?hl ?hh]
  case hl => have := h.top; omega
  case hh =>
    intro x hx
    exact ⟨_, _, _, (by ac_rfl), (by ac_rfl), (by ac_rfl), rfl⟩
  trivial
  rw [List.map_map]
  rfl
end Sg

set_option Elab.async false
set_option linter.all false
set_option maxRecDepth 100000
set_option maxHeartbeats 1000000
namespace Sg
open PySem L2
variable {K : PySem.W.Frag}
local macro_rules | `(tactic| trivial) => `(tactic| simp (disch := omega) only [*, mC_m, mVar_m, mLook_m, mLet_m, mSc_m, mNil_m, msNil_m, msSeq_m, msAsgF_m, msDrop_m, msRet_m, msRetF_m, msRetC_m, msRetN_m, msBrk_m, msCont_m, msRaise_m, msFor_m, mtYes_m, mtOne_m, mLc_m, mcNil_m, mcCel_m, mCall_m, moNone_m, moSome_m, mSlL_m, mBi_m, mBiF_m, miList_m, miTup_m, miRng1_m, miRng2_m, miEnum_m, miZip_m, mMeth_m, mMeth0_m, msSet_m, mCat_m, mRepeat_m, mChain_m, mIsi_m, msAug_m, mRev_m, mListRng_m, mCallF_m, msParVV_m, msParFV_m, msParVF_m, mMethD_m, mNew_m, mCMeth_m, mConC_m, msTry_m, mSup_m, okE_some, okE_none, opE_ok, opE_ex, opF_ok, opF_ex, mOp_e, mOpK_e, mIx_e, unE_ok, mUn_e, coE_ok, coE_ex, coF_ok, coF_ex, mCons_e, bindAE_ok, bindAE_ex, mTup_e, tupF_e, mFr_e, lstF_ok, mLst_e, tsE_ok, tsE_ex, mTest_e, okT_some, truE_ok, truE_ex, mTru_e, anE_t, anE_f, anE_ok, orE_t, orE_f, orE_ok, mAnd_e, mOr_e, noE_ok, noE_ex, mNot_e, blV_ok, blV_ex, anV_t, anV_f, anV_ok, orV_t, orV_f, orV_ok, mAndV_e, mOrV_e, noV_ok, noV_ex, mNotV_e, ifV_t, ifV_f, ifV_ok, mIf_e, ifS_t, ifS_f, ifS_ok, ifS_ex, msIf_e, nxO_some, asE_ok, asE_ex, msAsg_e, gcE_some, mgCons_e, mgNil_e, mgTup_e, mgName_e, cvE_ok, cvE_ex, consC_ok, mcVal_e, thenS_nx, thenS_bk, thenS_ct, thenS_rt, thenS_ex, bindES_ok, bindES_ex, bindAS_ok, bindAS_ex, bindE_ok, bindE_ex, mfOf_e, mfOf0_e, noX_val, noX_cel, coM_some, fin_val, fin_cel, fin_nx, fin_ex, oAdd_i, oSub_i, oMul_l, oMul_r, oMod_i, oDiv_i, oPow_i, oLt_i, oLe_i, oGt_i, oGe_i, oEqI_i, oNeI_i, oIx_l, oIx_f, oIx_t, at1_0, at2_0, at2_1, at3_0, at3_1, at3_2, at4_0, at4_1, at4_2, at4_3, ix3_0, ix3_1, ix3_2, oIsN_non, oNotN_non, oNotN_lst, oIsN_lst, oMax2_i, oMin2_i, oAbs_i, oInt_b, oLen_l, oLen_f, oLen_t, oNeg_i, truU_i, truU_l, truU_b, truU_n, lstU_l, lstU_f, ipAdd_i, ipSub_i, oAppend_u, lstF_0, tupF_0, lstF_1, tupF_1, lstF_2, tupF_2, lstF_3, tupF_3, lstF_4, tupF_4, lstF_5, tupF_5, lstF_6, tupF_6, isi_NoneType_bool, isi_NoneType_int, isi_NoneType_str, isi_NoneType_list, isi_NoneType_tuple, isi_NoneType_dict, isi_bool_bool, isi_bool_int, isi_bool_str, isi_bool_list, isi_bool_tuple, isi_bool_dict, isi_int_bool, isi_int_int, isi_int_str, isi_int_list, isi_int_tuple, isi_int_dict, isi_str_bool, isi_str_int, isi_str_str, isi_str_list, isi_str_tuple, isi_str_dict, isi_list_bool, isi_list_int, isi_list_str, isi_list_list, isi_list_tuple, isi_list_dict, isi_tuple_bool, isi_tuple_int, isi_tuple_str, isi_tuple_list, isi_tuple_tuple, isi_tuple_dict, isi_dict_bool, isi_dict_int, isi_dict_str, isi_dict_list, isi_dict_tuple, isi_dict_dict, tyU_n, tyU_b, tyU_i, tyU_s, tyU_l, tyU_t, rngOk_i, zipU_map, intsU_map, blsU_map, oAll_l, oSum_l, oMax_l, cutU_1, cutU_m1, drop_map, reverse_map, length_map', dropLast_map, oEq_i, oNe_i, oEq_b, oNe_b, oEq_nn, oNe_nn, oEq_tt, oNe_tt, oEq_tn, oNe_tn, oEq_nt, oNe_nt, oEq_pp, oNe_pp, oEq_ii, oNe_ii, mIsiT_m, mCallL_m, lendM_ok, lendM_ex, lendA_some, lendR_b, lendR_i, lendR_n, lendR_ex, resolveL_nil, resolveL_v, resolveL_c, resC_c, mDict_m, dicO_ok, mpNil_m, mpCons_m, mpC_ok, mpC2_ok, mGet2_m, getO_some, keyU_i, keyU_s, mSortSet_m, setO_l, msTupVF_m, isiAny, List.zip_cons_cons, List.zip_nil_left, oEqS_s, oNeS_s, mCallF_m, oMul_s, miZipA_m, zpO_ok, zpP_ok, zpU_l, zpU_t, oIsN_i, oIsN_b, oIsN_t, unown, kills, cellAt, List.map_cons, List.map_nil, List.length_cons, List.length_nil, List.cons_append, List.nil_append, List.replicate, List.getElem?_cons_succ, List.getElem?_cons_zero, List.set_cons_zero, List.set_cons_succ, Option.map_some, Option.map_none, Option.bind_some, Option.bind_none, Nat.reduceAdd, Nat.reduceSub, Nat.reduceLeDiff, Int.reduceLT, Int.reduceLE, Int.reduceNeg, Int.reduceToNat, Int.reducePow, decide_eq_true_eq, reduceIte, eq_self, ite_true, ite_false, Bool.false_eq_true, reduceCtorEq, resolve, celJ, nCel, Slot.isC, List.filter, putJ, callM, callMF, List.append_eq, Nat.reduceLT, Int.reduceMul, Int.reduceAdd, Int.reduceSub, ne_eq, not_true_eq_false, not_false_eq_true, Bool.not_false, Bool.not_true, decide_true, decide_false, frF, Int.cast_ofNat_Int, Bool.and_true, Bool.true_and, Bool.false_and, Bool.and_false, Bool.or_false, Bool.false_or, Bool.true_or, Bool.or_true])
local macro_rules | `(tactic| ac_rfl) => `(tactic| (simp (disch := omega) only [*, mC_m, mVar_m, mLook_m, mLet_m, mSc_m, mNil_m, msNil_m, msSeq_m, msAsgF_m, msDrop_m, msRet_m, msRetF_m, msRetC_m, msRetN_m, msBrk_m, msCont_m, msRaise_m, msFor_m, mtYes_m, mtOne_m, mLc_m, mcNil_m, mcCel_m, mCall_m, moNone_m, moSome_m, mSlL_m, mBi_m, mBiF_m, miList_m, miTup_m, miRng1_m, miRng2_m, miEnum_m, miZip_m, mMeth_m, mMeth0_m, msSet_m, mCat_m, mRepeat_m, mChain_m, mIsi_m, msAug_m, mRev_m, mListRng_m, mCallF_m, msParVV_m, msParFV_m, msParVF_m, mMethD_m, mNew_m, mCMeth_m, mConC_m, msTry_m, mSup_m, okE_some, okE_none, opE_ok, opE_ex, opF_ok, opF_ex, mOp_e, mOpK_e, mIx_e, unE_ok, mUn_e, coE_ok, coE_ex, coF_ok, coF_ex, mCons_e, bindAE_ok, bindAE_ex, mTup_e, tupF_e, mFr_e, lstF_ok, mLst_e, tsE_ok, tsE_ex, mTest_e, okT_some, truE_ok, truE_ex, mTru_e, anE_t, anE_f, anE_ok, orE_t, orE_f, orE_ok, mAnd_e, mOr_e, noE_ok, noE_ex, mNot_e, blV_ok, blV_ex, anV_t, anV_f, anV_ok, orV_t, orV_f, orV_ok, mAndV_e, mOrV_e, noV_ok, noV_ex, mNotV_e, ifV_t, ifV_f, ifV_ok, mIf_e, ifS_t, ifS_f, ifS_ok, ifS_ex, msIf_e, nxO_some, asE_ok, asE_ex, msAsg_e, gcE_some, mgCons_e, mgNil_e, mgTup_e, mgName_e, cvE_ok, cvE_ex, consC_ok, mcVal_e, thenS_nx, thenS_bk, thenS_ct, thenS_rt, thenS_ex, bindES_ok, bindES_ex, bindAS_ok, bindAS_ex, bindE_ok, bindE_ex, mfOf_e, mfOf0_e, noX_val, noX_cel, coM_some, fin_val, fin_cel, fin_nx, fin_ex, oAdd_i, oSub_i, oMul_l, oMul_r, oMod_i, oDiv_i, oPow_i, oLt_i, oLe_i, oGt_i, oGe_i, oEqI_i, oNeI_i, oIx_l, oIx_f, oIx_t, at1_0, at2_0, at2_1, at3_0, at3_1, at3_2, at4_0, at4_1, at4_2, at4_3, ix3_0, ix3_1, ix3_2, oIsN_non, oNotN_non, oNotN_lst, oIsN_lst, oMax2_i, oMin2_i, oAbs_i, oInt_b, oLen_l, oLen_f, oLen_t, oNeg_i, truU_i, truU_l, truU_b, truU_n, lstU_l, lstU_f, ipAdd_i, ipSub_i, oAppend_u, lstF_0, tupF_0, lstF_1, tupF_1, lstF_2, tupF_2, lstF_3, tupF_3, lstF_4, tupF_4, lstF_5, tupF_5, lstF_6, tupF_6, isi_NoneType_bool, isi_NoneType_int, isi_NoneType_str, isi_NoneType_list, isi_NoneType_tuple, isi_NoneType_dict, isi_bool_bool, isi_bool_int, isi_bool_str, isi_bool_list, isi_bool_tuple, isi_bool_dict, isi_int_bool, isi_int_int, isi_int_str, isi_int_list, isi_int_tuple, isi_int_dict, isi_str_bool, isi_str_int, isi_str_str, isi_str_list, isi_str_tuple, isi_str_dict, isi_list_bool, isi_list_int, isi_list_str, isi_list_list, isi_list_tuple, isi_list_dict, isi_tuple_bool, isi_tuple_int, isi_tuple_str, isi_tuple_list, isi_tuple_tuple, isi_tuple_dict, isi_dict_bool, isi_dict_int, isi_dict_str, isi_dict_list, isi_dict_tuple, isi_dict_dict, tyU_n, tyU_b, tyU_i, tyU_s, tyU_l, tyU_t, rngOk_i, zipU_map, intsU_map, blsU_map, oAll_l, oSum_l, oMax_l, cutU_1, cutU_m1, drop_map, reverse_map, length_map', dropLast_map, oEq_i, oNe_i, oEq_b, oNe_b, oEq_nn, oNe_nn, oEq_tt, oNe_tt, oEq_tn, oNe_tn, oEq_nt, oNe_nt, oEq_pp, oNe_pp, oEq_ii, oNe_ii, mIsiT_m, mCallL_m, lendM_ok, lendM_ex, lendA_some, lendR_b, lendR_i, lendR_n, lendR_ex, resolveL_nil, resolveL_v, resolveL_c, resC_c, mDict_m, dicO_ok, mpNil_m, mpCons_m, mpC_ok, mpC2_ok, mGet2_m, getO_some, keyU_i, keyU_s, mSortSet_m, setO_l, msTupVF_m, isiAny, List.zip_cons_cons, List.zip_nil_left, oEqS_s, oNeS_s, mCallF_m, oMul_s, miZipA_m, zpO_ok, zpP_ok, zpU_l, zpU_t, oIsN_i, oIsN_b, oIsN_t, unown, kills, cellAt, List.map_cons, List.map_nil, List.length_cons, List.length_nil, List.cons_append, List.nil_append, List.replicate, List.getElem?_cons_succ, List.getElem?_cons_zero, List.set_cons_zero, List.set_cons_succ, Option.map_some, Option.map_none, Option.bind_some, Option.bind_none, Nat.reduceAdd, Nat.reduceSub, Nat.reduceLeDiff, Int.reduceLT, Int.reduceLE, Int.reduceNeg, Int.reduceToNat, Int.reducePow, decide_eq_true_eq, reduceIte, eq_self, ite_true, ite_false, Bool.false_eq_true, reduceCtorEq, resolve, celJ, nCel, Slot.isC, List.filter, putJ, callM, callMF, List.append_eq, Nat.reduceLT, Int.reduceMul, Int.reduceAdd, Int.reduceSub, ne_eq, not_true_eq_false, not_false_eq_true, Bool.not_false, Bool.not_true, decide_true, decide_false, frF, Int.cast_ofNat_Int, Bool.and_true, Bool.true_and, Bool.false_and, Bool.and_false, Bool.or_false, Bool.false_or, Bool.true_or, Bool.or_true, G__law_far_0, G__law_numbers_0, T__law_numbers_1, E__law_numbers_2, G__law_long_0, T__law_long_1, E__law_long_2, G__law_long_3, T__law_long_4, E__law_long_5, G__law_long_6, T__law_long_7, E__law_long_8, G__law_long_9, G__law_due_far_0, T__law_due_far_1, E__law_due_far_2, G__law_due_far_3, G__law_due_far_5, T__law_due_far_6, E__law_due_far_7, G__law_same_0, T__law_same_1, E__law_same_2, G__law_same_3, T__law_same_4, E__law_same_5, G_is_run_0, T_is_run_1, E_is_run_2, G_are_runs_0, T_are_runs_1, E_are_runs_2, G_are_runs_3, T_are_runs_4, E_are_runs_5, G_Plain_signs_0, T_Plain_signs_1, E_Plain_signs_2, G_Next_signs_0, G_Single_signs_0, G_Block_signs_0, G_Later_signs_0, G_Rule_total_0, T_Rule_total_1, E_Rule_total_2, G__law_worth_0, T__law_worth_1, E__law_worth_2, G__law_right_0, G_law_0, G_law_2, G_law_4, T_law_5, E_law_6, G_law_7, T_law_8, E_law_9]; try rfl))
abbrev minusN (v : Int) : List (Int × Int) → Int
  | [] => 0
  | q :: _ => if v < q.1 then 1 else 0
def nextS : List (Int × Int) → List (Int × Int × Int)
  | [] => []
  | p :: r => (p.1, p.2 - minusN p.1 r, minusN p.1 r) :: nextS r
theorem at_mid (pre : List (Int × Int)) (p q : Int × Int) (r : List (Int × Int)) : atI ((pre ++ p :: q :: r).map pU) ((pre.length : Int) + 1) = some (pU q) := by
  have : ((pre ++ p :: q :: r).map pU)[pre.length + 1]? = some (pU q) := by
    rw [List.getElem?_map, List.getElem?_append_right (by omega)]
    simp
  exact atI_nat (j := pre.length + 1) this
theorem next_w (o : U) (w : List (Int × Int)) (h : WordOk w) : mf_Next_signs K [.val o, .val (.lst (w.map pU))] = some (.val (.lst ((nextS w).map tU)) none) := by
  have e := need_runs_w (K := K) w h
  have ht := h.top
  unfold mf_Next_signs M_Next_signs
  trivial
  have st := @loopM_inv (G_Next_signs_0 K).m (B_Next_signs_1 K).m [3, 4, 5, 6]
    (fun us ρ => ∃ pre suf acc, pre ++ suf = w ∧ us = enumU pre.length (suf.map pU) ∧ acc ++ nextS suf = nextS w ∧ acc.length = pre.length ∧ ρ = [.val o, .val (.lst (w.map pU)), .cel true (acc.map tU), .non, .non, .non, .non])
  obtain ⟨ρ', e2, e3⟩ := st (by
    rintro u us ρ ⟨pre, suf, acc, hw, hu, ha, hl, rfl⟩
    cases suf with
    | nil => cases hu
    | cons p r =>
      obtain ⟨rfl, rfl⟩ := List.cons.inj hu
      clear hu st
      have hlen : w.length = pre.length + 1 + r.length := by rw [← hw, List.length_append, List.length_cons]; omega
      have hacc : (List.map tU acc).length < 16777216 := by rw [List.length_map]; omega
      cases r with
      | nil =>
        have c1 : ¬ (((pre.length : Nat) : Int) + 1 < (w.length : Int)) := by rw [hlen]; simp
        clear hlen
        refine ⟨_, [.val o, .val (.lst (w.map pU)), .cel true ((acc ++ [(p.1, p.2 - 0, 0)]).map tU), .val (.int pre.length), .val (.int p.1), .val (.int p.2), .val (.int 0)], (by ac_rfl), .inl ?_, pre ++ [p], [], acc ++ [(p.1, p.2 - 0, 0)], by rw [← hw]; simp, by simp [enumU], ?_, by simp [hl], rfl⟩
        · unfold B_Next_signs_1
          trivial
          simp
        · rw [← ha]; simp [nextS]
      | cons q r =>
        have c1 : ((pre.length : Nat) : Int) + 1 < (w.length : Int) := by rw [List.length_cons] at hlen; omega
        clear hlen
        have c2 : atI (w.map pU) ((pre.length : Int) + 1) = some (U.tup [.int q.1, .int q.2]) := by rw [← hw]; exact at_mid pre p q r
        refine ⟨_, [.val o, .val (.lst (w.map pU)), .cel true ((acc ++ [(p.1, p.2 - minusN p.1 (q :: r), minusN p.1 (q :: r))]).map tU), .val (.int pre.length), .val (.int p.1), .val (.int p.2), .val (.int (minusN p.1 (q :: r)))], (by ac_rfl), .inl ?_, pre ++ [p], q :: r, acc ++ [(p.1, p.2 - minusN p.1 (q :: r), minusN p.1 (q :: r))], by rw [← hw]; simp, by simp [enumU], ?_, by simp [hl], rfl⟩
        · by_cases c3 : p.1 < q.1
          · unfold B_Next_signs_1
            trivial
            simp [minusN, c3]
          · unfold B_Next_signs_1
            trivial
            simp [minusN, c3]
        · rw [← ha]; simp [nextS])
    (enumU 0 (w.map pU)) [.val o, .val (.lst (w.map pU)), .cel true [], .non, .non, .non, .non] ⟨[], w, [], rfl, rfl, rfl, rfl, rfl⟩
  rw [e2]
  obtain ⟨pre, suf, acc, hw, hu, ha, hl, rfl⟩ := e3
  cases suf with
  | cons p r => cases hu
  | nil =>
    rw [nextS, List.append_nil] at ha
    subst ha
    trivial
end Sg

set_option Elab.async false
set_option linter.all false
set_option maxRecDepth 100000
set_option maxHeartbeats 1000000
namespace Sg
open PySem L2
variable {K : PySem.W.Frag}
local macro_rules | `(tactic| trivial) => `(tactic| simp (disch := omega) only [*, mC_m, mVar_m, mLook_m, mLet_m, mSc_m, mNil_m, msNil_m, msSeq_m, msAsgF_m, msDrop_m, msRet_m, msRetF_m, msRetC_m, msRetN_m, msBrk_m, msCont_m, msRaise_m, msFor_m, mtYes_m, mtOne_m, mLc_m, mcNil_m, mcCel_m, mCall_m, moNone_m, moSome_m, mSlL_m, mBi_m, mBiF_m, miList_m, miTup_m, miRng1_m, miRng2_m, miEnum_m, miZip_m, mMeth_m, mMeth0_m, msSet_m, mCat_m, mRepeat_m, mChain_m, mIsi_m, msAug_m, mRev_m, mListRng_m, mCallF_m, msParVV_m, msParFV_m, msParVF_m, mMethD_m, mNew_m, mCMeth_m, mConC_m, msTry_m, mSup_m, okE_some, okE_none, opE_ok, opE_ex, opF_ok, opF_ex, mOp_e, mOpK_e, mIx_e, unE_ok, mUn_e, coE_ok, coE_ex, coF_ok, coF_ex, mCons_e, bindAE_ok, bindAE_ex, mTup_e, tupF_e, mFr_e, lstF_ok, mLst_e, tsE_ok, tsE_ex, mTest_e, okT_some, truE_ok, truE_ex, mTru_e, anE_t, anE_f, anE_ok, orE_t, orE_f, orE_ok, mAnd_e, mOr_e, noE_ok, noE_ex, mNot_e, blV_ok, blV_ex, anV_t, anV_f, anV_ok, orV_t, orV_f, orV_ok, mAndV_e, mOrV_e, noV_ok, noV_ex, mNotV_e, ifV_t, ifV_f, ifV_ok, mIf_e, ifS_t, ifS_f, ifS_ok, ifS_ex, msIf_e, nxO_some, asE_ok, asE_ex, msAsg_e, gcE_some, mgCons_e, mgNil_e, mgTup_e, mgName_e, cvE_ok, cvE_ex, consC_ok, mcVal_e, thenS_nx, thenS_bk, thenS_ct, thenS_rt, thenS_ex, bindES_ok, bindES_ex, bindAS_ok, bindAS_ex, bindE_ok, bindE_ex, mfOf_e, mfOf0_e, noX_val, noX_cel, coM_some, fin_val, fin_cel, fin_nx, fin_ex, oAdd_i, oSub_i, oMul_l, oMul_r, oMod_i, oDiv_i, oPow_i, oLt_i, oLe_i, oGt_i, oGe_i, oEqI_i, oNeI_i, oIx_l, oIx_f, oIx_t, at1_0, at2_0, at2_1, at3_0, at3_1, at3_2, at4_0, at4_1, at4_2, at4_3, ix3_0, ix3_1, ix3_2, oIsN_non, oNotN_non, oNotN_lst, oIsN_lst, oMax2_i, oMin2_i, oAbs_i, oInt_b, oLen_l, oLen_f, oLen_t, oNeg_i, truU_i, truU_l, truU_b, truU_n, lstU_l, lstU_f, ipAdd_i, ipSub_i, oAppend_u, lstF_0, tupF_0, lstF_1, tupF_1, lstF_2, tupF_2, lstF_3, tupF_3, lstF_4, tupF_4, lstF_5, tupF_5, lstF_6, tupF_6, isi_NoneType_bool, isi_NoneType_int, isi_NoneType_str, isi_NoneType_list, isi_NoneType_tuple, isi_NoneType_dict, isi_bool_bool, isi_bool_int, isi_bool_str, isi_bool_list, isi_bool_tuple, isi_bool_dict, isi_int_bool, isi_int_int, isi_int_str, isi_int_list, isi_int_tuple, isi_int_dict, isi_str_bool, isi_str_int, isi_str_str, isi_str_list, isi_str_tuple, isi_str_dict, isi_list_bool, isi_list_int, isi_list_str, isi_list_list, isi_list_tuple, isi_list_dict, isi_tuple_bool, isi_tuple_int, isi_tuple_str, isi_tuple_list, isi_tuple_tuple, isi_tuple_dict, isi_dict_bool, isi_dict_int, isi_dict_str, isi_dict_list, isi_dict_tuple, isi_dict_dict, tyU_n, tyU_b, tyU_i, tyU_s, tyU_l, tyU_t, rngOk_i, zipU_map, intsU_map, blsU_map, oAll_l, oSum_l, oMax_l, cutU_1, cutU_m1, drop_map, reverse_map, length_map', dropLast_map, oEq_i, oNe_i, oEq_b, oNe_b, oEq_nn, oNe_nn, oEq_tt, oNe_tt, oEq_tn, oNe_tn, oEq_nt, oNe_nt, oEq_pp, oNe_pp, oEq_ii, oNe_ii, mIsiT_m, mCallL_m, lendM_ok, lendM_ex, lendA_some, lendR_b, lendR_i, lendR_n, lendR_ex, resolveL_nil, resolveL_v, resolveL_c, resC_c, mDict_m, dicO_ok, mpNil_m, mpCons_m, mpC_ok, mpC2_ok, mGet2_m, getO_some, keyU_i, keyU_s, mSortSet_m, setO_l, msTupVF_m, isiAny, List.zip_cons_cons, List.zip_nil_left, oEqS_s, oNeS_s, mCallF_m, oMul_s, miZipA_m, zpO_ok, zpP_ok, zpU_l, zpU_t, oIsN_i, oIsN_b, oIsN_t, unown, kills, cellAt, List.map_cons, List.map_nil, List.length_cons, List.length_nil, List.cons_append, List.nil_append, List.replicate, List.getElem?_cons_succ, List.getElem?_cons_zero, List.set_cons_zero, List.set_cons_succ, Option.map_some, Option.map_none, Option.bind_some, Option.bind_none, Nat.reduceAdd, Nat.reduceSub, Nat.reduceLeDiff, Int.reduceLT, Int.reduceLE, Int.reduceNeg, Int.reduceToNat, Int.reducePow, decide_eq_true_eq, reduceIte, eq_self, ite_true, ite_false, Bool.false_eq_true, reduceCtorEq, resolve, celJ, nCel, Slot.isC, List.filter, putJ, callM, callMF, List.append_eq, Nat.reduceLT, Int.reduceMul, Int.reduceAdd, Int.reduceSub, ne_eq, not_true_eq_false, not_false_eq_true, Bool.not_false, Bool.not_true, decide_true, decide_false, frF, Int.cast_ofNat_Int, Bool.and_true, Bool.true_and, Bool.false_and, Bool.and_false, Bool.or_false, Bool.false_or, Bool.true_or, Bool.or_true])
local macro_rules | `(tactic| ac_rfl) => `(tactic| (simp (disch := omega) only [*, mC_m, mVar_m, mLook_m, mLet_m, mSc_m, mNil_m, msNil_m, msSeq_m, msAsgF_m, msDrop_m, msRet_m, msRetF_m, msRetC_m, msRetN_m, msBrk_m, msCont_m, msRaise_m, msFor_m, mtYes_m, mtOne_m, mLc_m, mcNil_m, mcCel_m, mCall_m, moNone_m, moSome_m, mSlL_m, mBi_m, mBiF_m, miList_m, miTup_m, miRng1_m, miRng2_m, miEnum_m, miZip_m, mMeth_m, mMeth0_m, msSet_m, mCat_m, mRepeat_m, mChain_m, mIsi_m, msAug_m, mRev_m, mListRng_m, mCallF_m, msParVV_m, msParFV_m, msParVF_m, mMethD_m, mNew_m, mCMeth_m, mConC_m, msTry_m, mSup_m, okE_some, okE_none, opE_ok, opE_ex, opF_ok, opF_ex, mOp_e, mOpK_e, mIx_e, unE_ok, mUn_e, coE_ok, coE_ex, coF_ok, coF_ex, mCons_e, bindAE_ok, bindAE_ex, mTup_e, tupF_e, mFr_e, lstF_ok, mLst_e, tsE_ok, tsE_ex, mTest_e, okT_some, truE_ok, truE_ex, mTru_e, anE_t, anE_f, anE_ok, orE_t, orE_f, orE_ok, mAnd_e, mOr_e, noE_ok, noE_ex, mNot_e, blV_ok, blV_ex, anV_t, anV_f, anV_ok, orV_t, orV_f, orV_ok, mAndV_e, mOrV_e, noV_ok, noV_ex, mNotV_e, ifV_t, ifV_f, ifV_ok, mIf_e, ifS_t, ifS_f, ifS_ok, ifS_ex, msIf_e, nxO_some, asE_ok, asE_ex, msAsg_e, gcE_some, mgCons_e, mgNil_e, mgTup_e, mgName_e, cvE_ok, cvE_ex, consC_ok, mcVal_e, thenS_nx, thenS_bk, thenS_ct, thenS_rt, thenS_ex, bindES_ok, bindES_ex, bindAS_ok, bindAS_ex, bindE_ok, bindE_ex, mfOf_e, mfOf0_e, noX_val, noX_cel, coM_some, fin_val, fin_cel, fin_nx, fin_ex, oAdd_i, oSub_i, oMul_l, oMul_r, oMod_i, oDiv_i, oPow_i, oLt_i, oLe_i, oGt_i, oGe_i, oEqI_i, oNeI_i, oIx_l, oIx_f, oIx_t, at1_0, at2_0, at2_1, at3_0, at3_1, at3_2, at4_0, at4_1, at4_2, at4_3, ix3_0, ix3_1, ix3_2, oIsN_non, oNotN_non, oNotN_lst, oIsN_lst, oMax2_i, oMin2_i, oAbs_i, oInt_b, oLen_l, oLen_f, oLen_t, oNeg_i, truU_i, truU_l, truU_b, truU_n, lstU_l, lstU_f, ipAdd_i, ipSub_i, oAppend_u, lstF_0, tupF_0, lstF_1, tupF_1, lstF_2, tupF_2, lstF_3, tupF_3, lstF_4, tupF_4, lstF_5, tupF_5, lstF_6, tupF_6, isi_NoneType_bool, isi_NoneType_int, isi_NoneType_str, isi_NoneType_list, isi_NoneType_tuple, isi_NoneType_dict, isi_bool_bool, isi_bool_int, isi_bool_str, isi_bool_list, isi_bool_tuple, isi_bool_dict, isi_int_bool, isi_int_int, isi_int_str, isi_int_list, isi_int_tuple, isi_int_dict, isi_str_bool, isi_str_int, isi_str_str, isi_str_list, isi_str_tuple, isi_str_dict, isi_list_bool, isi_list_int, isi_list_str, isi_list_list, isi_list_tuple, isi_list_dict, isi_tuple_bool, isi_tuple_int, isi_tuple_str, isi_tuple_list, isi_tuple_tuple, isi_tuple_dict, isi_dict_bool, isi_dict_int, isi_dict_str, isi_dict_list, isi_dict_tuple, isi_dict_dict, tyU_n, tyU_b, tyU_i, tyU_s, tyU_l, tyU_t, rngOk_i, zipU_map, intsU_map, blsU_map, oAll_l, oSum_l, oMax_l, cutU_1, cutU_m1, drop_map, reverse_map, length_map', dropLast_map, oEq_i, oNe_i, oEq_b, oNe_b, oEq_nn, oNe_nn, oEq_tt, oNe_tt, oEq_tn, oNe_tn, oEq_nt, oNe_nt, oEq_pp, oNe_pp, oEq_ii, oNe_ii, mIsiT_m, mCallL_m, lendM_ok, lendM_ex, lendA_some, lendR_b, lendR_i, lendR_n, lendR_ex, resolveL_nil, resolveL_v, resolveL_c, resC_c, mDict_m, dicO_ok, mpNil_m, mpCons_m, mpC_ok, mpC2_ok, mGet2_m, getO_some, keyU_i, keyU_s, mSortSet_m, setO_l, msTupVF_m, isiAny, List.zip_cons_cons, List.zip_nil_left, oEqS_s, oNeS_s, mCallF_m, oMul_s, miZipA_m, zpO_ok, zpP_ok, zpU_l, zpU_t, oIsN_i, oIsN_b, oIsN_t, unown, kills, cellAt, List.map_cons, List.map_nil, List.length_cons, List.length_nil, List.cons_append, List.nil_append, List.replicate, List.getElem?_cons_succ, List.getElem?_cons_zero, List.set_cons_zero, List.set_cons_succ, Option.map_some, Option.map_none, Option.bind_some, Option.bind_none, Nat.reduceAdd, Nat.reduceSub, Nat.reduceLeDiff, Int.reduceLT, Int.reduceLE, Int.reduceNeg, Int.reduceToNat, Int.reducePow, decide_eq_true_eq, reduceIte, eq_self, ite_true, ite_false, Bool.false_eq_true, reduceCtorEq, resolve, celJ, nCel, Slot.isC, List.filter, putJ, callM, callMF, List.append_eq, Nat.reduceLT, Int.reduceMul, Int.reduceAdd, Int.reduceSub, ne_eq, not_true_eq_false, not_false_eq_true, Bool.not_false, Bool.not_true, decide_true, decide_false, frF, Int.cast_ofNat_Int, Bool.and_true, Bool.true_and, Bool.false_and, Bool.and_false, Bool.or_false, Bool.false_or, Bool.true_or, Bool.or_true, G__law_far_0, G__law_numbers_0, T__law_numbers_1, E__law_numbers_2, G__law_long_0, T__law_long_1, E__law_long_2, G__law_long_3, T__law_long_4, E__law_long_5, G__law_long_6, T__law_long_7, E__law_long_8, G__law_long_9, G__law_due_far_0, T__law_due_far_1, E__law_due_far_2, G__law_due_far_3, G__law_due_far_5, T__law_due_far_6, E__law_due_far_7, G__law_same_0, T__law_same_1, E__law_same_2, G__law_same_3, T__law_same_4, E__law_same_5, G_is_run_0, T_is_run_1, E_is_run_2, G_are_runs_0, T_are_runs_1, E_are_runs_2, G_are_runs_3, T_are_runs_4, E_are_runs_5, G_Plain_signs_0, T_Plain_signs_1, E_Plain_signs_2, G_Next_signs_0, G_Single_signs_0, G_Block_signs_0, G_Later_signs_0, G_Rule_total_0, T_Rule_total_1, E_Rule_total_2, G__law_worth_0, T__law_worth_1, E__law_worth_2, G__law_right_0, G_law_0, G_law_2, G_law_4, T_law_5, E_law_6, G_law_7, T_law_8, E_law_9]; try rfl))
abbrev headv : List (Int × Int) → Int
  | [] => 0
  | q :: _ => q.1
abbrev sign (b : Bool) (p : Int × Int) : Int × Int × Int := if b then (p.1, 0, p.2) else (p.1, p.2, 0)
def blockS : List (Int × Int) → List (Int × Int × Int)
  | [] => []
  | p :: r => sign (decide (p.1 < headv r)) p :: blockS r
def maxv : List (Int × Int) → Int
  | [] => 0
  | p :: r => if p.1 > maxv r then p.1 else maxv r
def laterS : List (Int × Int) → List (Int × Int × Int)
  | [] => []
  | p :: r => sign (decide (p.1 < maxv r)) p :: laterS r
theorem blockS_length : ∀ w, (blockS w).length = w.length
  | [] => rfl
  | p :: r => by rw [blockS, List.length_cons, List.length_cons, blockS_length r]
theorem laterS_length : ∀ w, (laterS w).length = w.length
  | [] => rfl
  | p :: r => by rw [laterS, List.length_cons, List.length_cons, laterS_length r]
theorem nextS_length : ∀ w, (nextS w).length = w.length
  | [] => rfl
  | p :: r => by rw [nextS, List.length_cons, List.length_cons, nextS_length r]
theorem block_w (o : U) (w : List (Int × Int)) (h : WordOk w) : mf_Block_signs K [.val o, .val (.lst (w.map pU))] = some (.val (.lst ((blockS w).map tU)) none) := by
  have e := need_runs_w (K := K) w h
  have ht := h.top
  unfold mf_Block_signs M_Block_signs
  trivial
  have st := @loopM_inv (G_Block_signs_0 K).m (B_Block_signs_1 K).m [4, 5]
    (fun us ρ => ∃ rp suf : List (Int × Int), rp.reverse ++ suf = w ∧ us = rp.map pU ∧ ρ = [.val o, .val (.lst (w.map pU)), .cel true ((blockS suf).reverse.map tU), .val (.int (headv suf)), .non, .non])
  obtain ⟨ρ', e2, e3⟩ := st (by
    rintro u us ρ ⟨rp, suf, hw, hu, rfl⟩
    cases rp with
    | nil => cases hu
    | cons p r =>
      obtain ⟨rfl, rfl⟩ := List.cons.inj hu
      have hlen : suf.length ≤ 200 := by
        have := congrArg List.length hw
        rw [List.length_append] at this
        omega
      have hacc : (List.map tU (blockS suf).reverse).length < 16777216 := by rw [List.length_map, List.length_reverse, blockS_length]; omega
      clear hu st hlen
      refine ⟨_, [.val o, .val (.lst (w.map pU)), .cel true ((blockS (p :: suf)).reverse.map tU), .val (.int p.1), .val (.int p.1), .val (.int p.2)], (by ac_rfl), .inl ?_, r, p :: suf, by rw [← hw]; simp, rfl, rfl⟩
      clear hw
      unfold B_Block_signs_1
      by_cases c : p.1 < headv suf
      · trivial
        simp [blockS, c, sign]
      · trivial
        simp [blockS, c, sign]) (w.reverse.map pU) [.val o, .val (.lst (w.map pU)), .cel true [], .val (.int 0), .non, .non] ⟨w.reverse, [], by simp, rfl, rfl⟩
  clear st
  rw [e2]
  obtain ⟨rp, suf, hw, hu, rfl⟩ := e3
  cases rp with
  | cons p r => cases hu
  | nil =>
    have : suf = w := by simpa using hw
    subst this
    clear hu hw e2
    trivial
    simp
abbrev runT (t : Int × Int × Int) : Int × Int := (t.1, t.2.1 + t.2.2)
theorem sign_run (b : Bool) (p : Int × Int) : runT (sign b p) = p := by cases b <;> simp [sign, runT]
theorem blockS_run : ∀ w, (blockS w).map runT = w
  | [] => rfl
  | p :: r => by rw [blockS, List.map_cons, sign_run, blockS_run r]
theorem later_w (w : List (Int × Int)) (h : WordOk w) : mf_Later_signs K [.val (.ins "Later" []), .val (.lst (w.map pU))] = some (.val (.lst ((laterS w).map tU)) none) := by
  have e := block_w (K := K) (.ins "Later" []) w h
  have ht := h.top
  unfold mf_Later_signs M_Later_signs
  trivial
  have st := @loopM_inv (G_Later_signs_0 K).m (B_Later_signs_1 K).m [5, 6, 7, 8]
    (fun us ρ => ∃ (rb : List (Int × Int × Int)) (suf : List (Int × Int)), (rb.map runT).reverse ++ suf = w ∧ us = rb.map tU ∧ ρ = [.val (.ins "Later" []), .val (.lst (w.map pU)), .non, .cel true ((laterS suf).reverse.map tU), .val (.int (maxv suf)), .non, .non, .non, .non])
  obtain ⟨ρ', e2, e3⟩ := st (by
    rintro u us ρ ⟨rb, suf, hw, hu, rfl⟩
    cases rb with
    | nil => cases hu
    | cons b r =>
      obtain ⟨rfl, rfl⟩ := List.cons.inj hu
      have hlen : suf.length ≤ 200 := by
        have := congrArg List.length hw
        rw [List.length_append] at this
        omega
      have hacc : (List.map tU (laterS suf).reverse).length < 16777216 := by rw [List.length_map, List.length_reverse, laterS_length]; omega
      clear hu st hlen
      refine ⟨_, [.val (.ins "Later" []), .val (.lst (w.map pU)), .non, .cel true ((laterS (runT b :: suf)).reverse.map tU), .val (.int (maxv (runT b :: suf))), .val (.int b.1), .val (.int b.2.1), .val (.int b.2.2), .val (.int (b.2.1 + b.2.2))], (by ac_rfl), .inl ?_, r, runT b :: suf, by rw [← hw]; simp, rfl, rfl⟩
      clear hw
      unfold B_Later_signs_1
      by_cases c : b.1 < maxv suf
      · have c2 : ¬ (b.1 > maxv suf) := by omega
        trivial
        simp [laterS, maxv, c, c2, sign, runT]
      · by_cases c2 : b.1 > maxv suf
        · trivial
          simp [laterS, maxv, c, c2, sign, runT]
        · trivial
          simp [laterS, maxv, c, c2, sign, runT]) ((blockS w).reverse.map tU) [.val (.ins "Later" []), .val (.lst (w.map pU)), .non, .cel true [], .val (.int 0), .non, .non, .non, .non]
        ⟨(blockS w).reverse, [], by rw [List.map_reverse, List.reverse_reverse, blockS_run]; simp, rfl, rfl⟩
  clear st
  rw [e2]
  obtain ⟨rb, suf, hw, hu, rfl⟩ := e3
  cases rb with
  | cons p r => cases hu
  | nil =>
    have : suf = w := by simpa using hw
    subst this
    clear hu hw e2
    trivial
    simp
/-- single's rule: two neighbouring signs subtracted -/
def clash (x : (Int × Int × Int) × (Int × Int × Int)) : Bool := decide (0 < x.1.2.2) && decide (x.2.2.1 = 0)
def singleS (w : List (Int × Int)) : Option (List (Int × Int × Int)) := if ((nextS w).zip ((nextS w).drop 1)).any clash then none else some (nextS w)
theorem single_w (w : List (Int × Int)) (h : WordOk w) : mf_Single_signs K [.val (.ins "Single" []), .val (.lst (w.map pU))] =
    some (match singleS w with
      | some t => .val (.lst (t.map tU)) none
      | none => .ex ⟨"InvalidWord", none⟩ none) := by
  have e := next_w (K := K) (.ins "Single" []) w h
  unfold mf_Single_signs M_Single_signs
  trivial
  have st : ∀ (zs : List ((Int × Int × Int) × (Int × Int × Int))), ∃ ρ', loopM (G_Single_signs_0 K).m (B_Single_signs_1 K).m [4, 5, 6, 7, 8, 9] (zs.map fun p => U.tup [tU p.1, tU p.2]) [.val (.ins "Single" []), .val (.lst (w.map pU)), .non, .val (.lst ((nextS w).map tU)), .non, .non, .non, .non, .non, .non] =
      some (if zs.any clash then .ex ⟨"InvalidWord", none⟩ (.val (.ins "Single" []) :: .val (.lst (w.map pU)) :: ρ') else .nx [.val (.ins "Single" []), .val (.lst (w.map pU)), .non, .val (.lst ((nextS w).map tU)), .non, .non, .non, .non, .non, .non]) := by
    intro zs
    induction zs with
    | nil => exact ⟨[], rfl⟩
    | cons z zs ih =>
      obtain ⟨ρ', ih⟩ := ih
      have eg : (G_Single_signs_0 K).m (U.tup [tU z.1, tU z.2]) [.val (.ins "Single" []), .val (.lst (w.map pU)), .non, .val (.lst ((nextS w).map tU)), .non, .non, .non, .non, .non, .non] =
        some [.val (.ins "Single" []), .val (.lst (w.map pU)), .non, .val (.lst ((nextS w).map tU)), .val (.int z.1.1), .val (.int z.1.2.1), .val (.int z.1.2.2), .val (.int z.2.1), .val (.int z.2.2.1), .val (.int z.2.2.2)] := by ac_rfl
      have eb : (B_Single_signs_1 K).m [.val (.ins "Single" []), .val (.lst (w.map pU)), .non, .val (.lst ((nextS w).map tU)), .val (.int z.1.1), .val (.int z.1.2.1), .val (.int z.1.2.2), .val (.int z.2.1), .val (.int z.2.2.1), .val (.int z.2.2.2)] =
        some (if clash z then .ex ⟨"InvalidWord", none⟩ [.val (.ins "Single" []), .val (.lst (w.map pU)), .non, .val (.lst ((nextS w).map tU)), .val (.int z.1.1), .val (.int z.1.2.1), .val (.int z.1.2.2), .val (.int z.2.1), .val (.int z.2.2.1), .val (.int z.2.2.2)] else .nx [.val (.ins "Single" []), .val (.lst (w.map pU)), .non, .val (.lst ((nextS w).map tU)), .val (.int z.1.1), .val (.int z.1.2.1), .val (.int z.1.2.2), .val (.int z.2.1), .val (.int z.2.2.1), .val (.int z.2.2.2)]) := by
        unfold B_Single_signs_1 clash
        by_cases c1 : 0 < z.1.2.2
        · by_cases c2 : z.2.2.1 = 0
          · trivial
          · trivial
        · trivial
      cases hz : clash z with
      | true =>
        rw [hz] at eb
        refine ⟨[.non, .val (.lst ((nextS w).map tU)), .val (.int z.1.1), .val (.int z.1.2.1), .val (.int z.1.2.2), .val (.int z.2.1), .val (.int z.2.2.1), .val (.int z.2.2.2)], ?_⟩
        rw [List.map_cons]
        unfold loopM
        rw [eg]
        dsimp only
        rw [eb]
        simp [hz]
      | false =>
        rw [hz] at eb
        refine ⟨ρ', ?_⟩
        rw [List.map_cons]
        unfold loopM
        rw [eg]
        dsimp only
        rw [eb]
        simp only [Bool.false_eq_true, if_false, kills, List.set_cons_zero, List.set_cons_succ, List.any_cons, hz, Bool.false_or]
        exact ih
  obtain ⟨ρ', e2⟩ := st ((nextS w).zip ((nextS w).drop 1))
  clear st
  rw [e2]
  unfold singleS
  cases hc : ((nextS w).zip ((nextS w).drop 1)).any clash with
  | true =>
    trivial
  | false =>
    trivial
end Sg

set_option Elab.async false
set_option linter.all false
set_option maxRecDepth 100000
set_option maxHeartbeats 1000000
namespace Sg
open PySem L2
variable {K : PySem.W.Frag}
theorem eq_plain_plain : (oEq (K := K)).f (.str "plain") (.str "plain") = some (.bl true) := by rw [oEq_s _ _ (by decide +kernel) (by decide +kernel)]; rfl
theorem eq_plain_single : (oEq (K := K)).f (.str "plain") (.str "single") = some (.bl false) := by rw [oEq_s _ _ (by decide +kernel) (by decide +kernel)]; rfl
theorem eq_plain_next : (oEq (K := K)).f (.str "plain") (.str "next") = some (.bl false) := by rw [oEq_s _ _ (by decide +kernel) (by decide +kernel)]; rfl
theorem eq_plain_block : (oEq (K := K)).f (.str "plain") (.str "block") = some (.bl false) := by rw [oEq_s _ _ (by decide +kernel) (by decide +kernel)]; rfl
theorem in_plain : (oIn (K := K) true).f (.str "plain") (.tup [.str "plain", .str "single", .str "next", .str "block", .str "later"]) = some (.bl false) := rfl
theorem look_plain : List.lookup ("Plain" : Str) (tab_signs K) = some (mf_Plain_signs K) := rfl
theorem lookT_plain : List.lookup ("Plain" : Str) (tab_total K) = some (mf_Rule_total K) := rfl
theorem eq_single_plain : (oEq (K := K)).f (.str "single") (.str "plain") = some (.bl false) := by rw [oEq_s _ _ (by decide +kernel) (by decide +kernel)]; rfl
theorem eq_single_single : (oEq (K := K)).f (.str "single") (.str "single") = some (.bl true) := by rw [oEq_s _ _ (by decide +kernel) (by decide +kernel)]; rfl
theorem eq_single_next : (oEq (K := K)).f (.str "single") (.str "next") = some (.bl false) := by rw [oEq_s _ _ (by decide +kernel) (by decide +kernel)]; rfl
theorem eq_single_block : (oEq (K := K)).f (.str "single") (.str "block") = some (.bl false) := by rw [oEq_s _ _ (by decide +kernel) (by decide +kernel)]; rfl
theorem in_single : (oIn (K := K) true).f (.str "single") (.tup [.str "plain", .str "single", .str "next", .str "block", .str "later"]) = some (.bl false) := rfl
theorem look_single : List.lookup ("Single" : Str) (tab_signs K) = some (mf_Single_signs K) := rfl
theorem lookT_single : List.lookup ("Single" : Str) (tab_total K) = some (mf_Rule_total K) := rfl
theorem eq_next_plain : (oEq (K := K)).f (.str "next") (.str "plain") = some (.bl false) := by rw [oEq_s _ _ (by decide +kernel) (by decide +kernel)]; rfl
theorem eq_next_single : (oEq (K := K)).f (.str "next") (.str "single") = some (.bl false) := by rw [oEq_s _ _ (by decide +kernel) (by decide +kernel)]; rfl
theorem eq_next_next : (oEq (K := K)).f (.str "next") (.str "next") = some (.bl true) := by rw [oEq_s _ _ (by decide +kernel) (by decide +kernel)]; rfl
theorem eq_next_block : (oEq (K := K)).f (.str "next") (.str "block") = some (.bl false) := by rw [oEq_s _ _ (by decide +kernel) (by decide +kernel)]; rfl
theorem in_next : (oIn (K := K) true).f (.str "next") (.tup [.str "plain", .str "single", .str "next", .str "block", .str "later"]) = some (.bl false) := rfl
theorem look_next : List.lookup ("Next" : Str) (tab_signs K) = some (mf_Next_signs K) := rfl
theorem lookT_next : List.lookup ("Next" : Str) (tab_total K) = some (mf_Rule_total K) := rfl
theorem eq_block_plain : (oEq (K := K)).f (.str "block") (.str "plain") = some (.bl false) := by rw [oEq_s _ _ (by decide +kernel) (by decide +kernel)]; rfl
theorem eq_block_single : (oEq (K := K)).f (.str "block") (.str "single") = some (.bl false) := by rw [oEq_s _ _ (by decide +kernel) (by decide +kernel)]; rfl
theorem eq_block_next : (oEq (K := K)).f (.str "block") (.str "next") = some (.bl false) := by rw [oEq_s _ _ (by decide +kernel) (by decide +kernel)]; rfl
theorem eq_block_block : (oEq (K := K)).f (.str "block") (.str "block") = some (.bl true) := by rw [oEq_s _ _ (by decide +kernel) (by decide +kernel)]; rfl
theorem in_block : (oIn (K := K) true).f (.str "block") (.tup [.str "plain", .str "single", .str "next", .str "block", .str "later"]) = some (.bl false) := rfl
theorem look_block : List.lookup ("Block" : Str) (tab_signs K) = some (mf_Block_signs K) := rfl
theorem lookT_block : List.lookup ("Block" : Str) (tab_total K) = some (mf_Rule_total K) := rfl
theorem eq_later_plain : (oEq (K := K)).f (.str "later") (.str "plain") = some (.bl false) := by rw [oEq_s _ _ (by decide +kernel) (by decide +kernel)]; rfl
theorem eq_later_single : (oEq (K := K)).f (.str "later") (.str "single") = some (.bl false) := by rw [oEq_s _ _ (by decide +kernel) (by decide +kernel)]; rfl
theorem eq_later_next : (oEq (K := K)).f (.str "later") (.str "next") = some (.bl false) := by rw [oEq_s _ _ (by decide +kernel) (by decide +kernel)]; rfl
theorem eq_later_block : (oEq (K := K)).f (.str "later") (.str "block") = some (.bl false) := by rw [oEq_s _ _ (by decide +kernel) (by decide +kernel)]; rfl
theorem in_later : (oIn (K := K) true).f (.str "later") (.tup [.str "plain", .str "single", .str "next", .str "block", .str "later"]) = some (.bl false) := rfl
theorem look_later : List.lookup ("Later" : Str) (tab_signs K) = some (mf_Later_signs K) := rfl
theorem lookT_later : List.lookup ("Later" : Str) (tab_total K) = some (mf_Rule_total K) := rfl
local macro_rules | `(tactic| trivial) => `(tactic| simp (disch := omega) only [*, mC_m, mVar_m, mLook_m, mLet_m, mSc_m, mNil_m, msNil_m, msSeq_m, msAsgF_m, msDrop_m, msRet_m, msRetF_m, msRetC_m, msRetN_m, msBrk_m, msCont_m, msRaise_m, msFor_m, mtYes_m, mtOne_m, mLc_m, mcNil_m, mcCel_m, mCall_m, moNone_m, moSome_m, mSlL_m, mBi_m, mBiF_m, miList_m, miTup_m, miRng1_m, miRng2_m, miEnum_m, miZip_m, mMeth_m, mMeth0_m, msSet_m, mCat_m, mRepeat_m, mChain_m, mIsi_m, msAug_m, mRev_m, mListRng_m, mCallF_m, msParVV_m, msParFV_m, msParVF_m, mMethD_m, mNew_m, mCMeth_m, mConC_m, msTry_m, mSup_m, okE_some, okE_none, opE_ok, opE_ex, opF_ok, opF_ex, mOp_e, mOpK_e, mIx_e, unE_ok, mUn_e, coE_ok, coE_ex, coF_ok, coF_ex, mCons_e, bindAE_ok, bindAE_ex, mTup_e, tupF_e, mFr_e, lstF_ok, mLst_e, tsE_ok, tsE_ex, mTest_e, okT_some, truE_ok, truE_ex, mTru_e, anE_t, anE_f, anE_ok, orE_t, orE_f, orE_ok, mAnd_e, mOr_e, noE_ok, noE_ex, mNot_e, blV_ok, blV_ex, anV_t, anV_f, anV_ok, orV_t, orV_f, orV_ok, mAndV_e, mOrV_e, noV_ok, noV_ex, mNotV_e, ifV_t, ifV_f, ifV_ok, mIf_e, ifS_t, ifS_f, ifS_ok, ifS_ex, msIf_e, nxO_some, asE_ok, asE_ex, msAsg_e, gcE_some, mgCons_e, mgNil_e, mgTup_e, mgName_e, cvE_ok, cvE_ex, consC_ok, mcVal_e, thenS_nx, thenS_bk, thenS_ct, thenS_rt, thenS_ex, bindES_ok, bindES_ex, bindAS_ok, bindAS_ex, bindE_ok, bindE_ex, mfOf_e, mfOf0_e, noX_val, noX_cel, coM_some, fin_val, fin_cel, fin_nx, fin_ex, oAdd_i, oSub_i, oMul_l, oMul_r, oMod_i, oDiv_i, oPow_i, oLt_i, oLe_i, oGt_i, oGe_i, oEqI_i, oNeI_i, oIx_l, oIx_f, oIx_t, at1_0, at2_0, at2_1, at3_0, at3_1, at3_2, at4_0, at4_1, at4_2, at4_3, ix3_0, ix3_1, ix3_2, oIsN_non, oNotN_non, oNotN_lst, oIsN_lst, oMax2_i, oMin2_i, oAbs_i, oInt_b, oLen_l, oLen_f, oLen_t, oNeg_i, truU_i, truU_l, truU_b, truU_n, lstU_l, lstU_f, ipAdd_i, ipSub_i, oAppend_u, lstF_0, tupF_0, lstF_1, tupF_1, lstF_2, tupF_2, lstF_3, tupF_3, lstF_4, tupF_4, lstF_5, tupF_5, lstF_6, tupF_6, isi_NoneType_bool, isi_NoneType_int, isi_NoneType_str, isi_NoneType_list, isi_NoneType_tuple, isi_NoneType_dict, isi_bool_bool, isi_bool_int, isi_bool_str, isi_bool_list, isi_bool_tuple, isi_bool_dict, isi_int_bool, isi_int_int, isi_int_str, isi_int_list, isi_int_tuple, isi_int_dict, isi_str_bool, isi_str_int, isi_str_str, isi_str_list, isi_str_tuple, isi_str_dict, isi_list_bool, isi_list_int, isi_list_str, isi_list_list, isi_list_tuple, isi_list_dict, isi_tuple_bool, isi_tuple_int, isi_tuple_str, isi_tuple_list, isi_tuple_tuple, isi_tuple_dict, isi_dict_bool, isi_dict_int, isi_dict_str, isi_dict_list, isi_dict_tuple, isi_dict_dict, tyU_n, tyU_b, tyU_i, tyU_s, tyU_l, tyU_t, rngOk_i, zipU_map, intsU_map, blsU_map, oAll_l, oSum_l, oMax_l, cutU_1, cutU_m1, drop_map, reverse_map, length_map', dropLast_map, oEq_i, oNe_i, oEq_b, oNe_b, oEq_nn, oNe_nn, oEq_tt, oNe_tt, oEq_tn, oNe_tn, oEq_nt, oNe_nt, oEq_pp, oNe_pp, oEq_ii, oNe_ii, mIsiT_m, mCallL_m, lendM_ok, lendM_ex, lendA_some, lendR_b, lendR_i, lendR_n, lendR_ex, resolveL_nil, resolveL_v, resolveL_c, resC_c, mDict_m, dicO_ok, mpNil_m, mpCons_m, mpC_ok, mpC2_ok, mGet2_m, getO_some, keyU_i, keyU_s, mSortSet_m, setO_l, msTupVF_m, isiAny, List.zip_cons_cons, List.zip_nil_left, oEqS_s, oNeS_s, mCallF_m, oMul_s, miZipA_m, zpO_ok, zpP_ok, zpU_l, zpU_t, oIsN_i, oIsN_b, oIsN_t, unown, kills, cellAt, List.map_cons, List.map_nil, List.length_cons, List.length_nil, List.cons_append, List.nil_append, List.replicate, List.getElem?_cons_succ, List.getElem?_cons_zero, List.set_cons_zero, List.set_cons_succ, Option.map_some, Option.map_none, Option.bind_some, Option.bind_none, Nat.reduceAdd, Nat.reduceSub, Nat.reduceLeDiff, Int.reduceLT, Int.reduceLE, Int.reduceNeg, Int.reduceToNat, Int.reducePow, decide_eq_true_eq, reduceIte, eq_self, ite_true, ite_false, Bool.false_eq_true, reduceCtorEq, resolve, celJ, nCel, Slot.isC, List.filter, putJ, callM, callMF, List.append_eq, Nat.reduceLT, Int.reduceMul, Int.reduceAdd, Int.reduceSub, ne_eq, not_true_eq_false, not_false_eq_true, Bool.not_false, Bool.not_true, decide_true, decide_false, frF, Int.cast_ofNat_Int, Bool.and_true, Bool.true_and, Bool.false_and, Bool.and_false, Bool.or_false, Bool.false_or, Bool.true_or, Bool.or_true, eq_plain_plain, eq_plain_single, eq_plain_next, eq_plain_block, in_plain, look_plain, lookT_plain, eq_single_plain, eq_single_single, eq_single_next, eq_single_block, in_single, look_single, lookT_single, eq_next_plain, eq_next_single, eq_next_next, eq_next_block, in_next, look_next, lookT_next, eq_block_plain, eq_block_single, eq_block_next, eq_block_block, in_block, look_block, lookT_block, eq_later_plain, eq_later_single, eq_later_next, eq_later_block, in_later, look_later, lookT_later])
local macro_rules | `(tactic| ac_rfl) => `(tactic| (simp (disch := omega) only [*, mC_m, mVar_m, mLook_m, mLet_m, mSc_m, mNil_m, msNil_m, msSeq_m, msAsgF_m, msDrop_m, msRet_m, msRetF_m, msRetC_m, msRetN_m, msBrk_m, msCont_m, msRaise_m, msFor_m, mtYes_m, mtOne_m, mLc_m, mcNil_m, mcCel_m, mCall_m, moNone_m, moSome_m, mSlL_m, mBi_m, mBiF_m, miList_m, miTup_m, miRng1_m, miRng2_m, miEnum_m, miZip_m, mMeth_m, mMeth0_m, msSet_m, mCat_m, mRepeat_m, mChain_m, mIsi_m, msAug_m, mRev_m, mListRng_m, mCallF_m, msParVV_m, msParFV_m, msParVF_m, mMethD_m, mNew_m, mCMeth_m, mConC_m, msTry_m, mSup_m, okE_some, okE_none, opE_ok, opE_ex, opF_ok, opF_ex, mOp_e, mOpK_e, mIx_e, unE_ok, mUn_e, coE_ok, coE_ex, coF_ok, coF_ex, mCons_e, bindAE_ok, bindAE_ex, mTup_e, tupF_e, mFr_e, lstF_ok, mLst_e, tsE_ok, tsE_ex, mTest_e, okT_some, truE_ok, truE_ex, mTru_e, anE_t, anE_f, anE_ok, orE_t, orE_f, orE_ok, mAnd_e, mOr_e, noE_ok, noE_ex, mNot_e, blV_ok, blV_ex, anV_t, anV_f, anV_ok, orV_t, orV_f, orV_ok, mAndV_e, mOrV_e, noV_ok, noV_ex, mNotV_e, ifV_t, ifV_f, ifV_ok, mIf_e, ifS_t, ifS_f, ifS_ok, ifS_ex, msIf_e, nxO_some, asE_ok, asE_ex, msAsg_e, gcE_some, mgCons_e, mgNil_e, mgTup_e, mgName_e, cvE_ok, cvE_ex, consC_ok, mcVal_e, thenS_nx, thenS_bk, thenS_ct, thenS_rt, thenS_ex, bindES_ok, bindES_ex, bindAS_ok, bindAS_ex, bindE_ok, bindE_ex, mfOf_e, mfOf0_e, noX_val, noX_cel, coM_some, fin_val, fin_cel, fin_nx, fin_ex, oAdd_i, oSub_i, oMul_l, oMul_r, oMod_i, oDiv_i, oPow_i, oLt_i, oLe_i, oGt_i, oGe_i, oEqI_i, oNeI_i, oIx_l, oIx_f, oIx_t, at1_0, at2_0, at2_1, at3_0, at3_1, at3_2, at4_0, at4_1, at4_2, at4_3, ix3_0, ix3_1, ix3_2, oIsN_non, oNotN_non, oNotN_lst, oIsN_lst, oMax2_i, oMin2_i, oAbs_i, oInt_b, oLen_l, oLen_f, oLen_t, oNeg_i, truU_i, truU_l, truU_b, truU_n, lstU_l, lstU_f, ipAdd_i, ipSub_i, oAppend_u, lstF_0, tupF_0, lstF_1, tupF_1, lstF_2, tupF_2, lstF_3, tupF_3, lstF_4, tupF_4, lstF_5, tupF_5, lstF_6, tupF_6, isi_NoneType_bool, isi_NoneType_int, isi_NoneType_str, isi_NoneType_list, isi_NoneType_tuple, isi_NoneType_dict, isi_bool_bool, isi_bool_int, isi_bool_str, isi_bool_list, isi_bool_tuple, isi_bool_dict, isi_int_bool, isi_int_int, isi_int_str, isi_int_list, isi_int_tuple, isi_int_dict, isi_str_bool, isi_str_int, isi_str_str, isi_str_list, isi_str_tuple, isi_str_dict, isi_list_bool, isi_list_int, isi_list_str, isi_list_list, isi_list_tuple, isi_list_dict, isi_tuple_bool, isi_tuple_int, isi_tuple_str, isi_tuple_list, isi_tuple_tuple, isi_tuple_dict, isi_dict_bool, isi_dict_int, isi_dict_str, isi_dict_list, isi_dict_tuple, isi_dict_dict, tyU_n, tyU_b, tyU_i, tyU_s, tyU_l, tyU_t, rngOk_i, zipU_map, intsU_map, blsU_map, oAll_l, oSum_l, oMax_l, cutU_1, cutU_m1, drop_map, reverse_map, length_map', dropLast_map, oEq_i, oNe_i, oEq_b, oNe_b, oEq_nn, oNe_nn, oEq_tt, oNe_tt, oEq_tn, oNe_tn, oEq_nt, oNe_nt, oEq_pp, oNe_pp, oEq_ii, oNe_ii, mIsiT_m, mCallL_m, lendM_ok, lendM_ex, lendA_some, lendR_b, lendR_i, lendR_n, lendR_ex, resolveL_nil, resolveL_v, resolveL_c, resC_c, mDict_m, dicO_ok, mpNil_m, mpCons_m, mpC_ok, mpC2_ok, mGet2_m, getO_some, keyU_i, keyU_s, mSortSet_m, setO_l, msTupVF_m, isiAny, List.zip_cons_cons, List.zip_nil_left, oEqS_s, oNeS_s, mCallF_m, oMul_s, miZipA_m, zpO_ok, zpP_ok, zpU_l, zpU_t, oIsN_i, oIsN_b, oIsN_t, unown, kills, cellAt, List.map_cons, List.map_nil, List.length_cons, List.length_nil, List.cons_append, List.nil_append, List.replicate, List.getElem?_cons_succ, List.getElem?_cons_zero, List.set_cons_zero, List.set_cons_succ, Option.map_some, Option.map_none, Option.bind_some, Option.bind_none, Nat.reduceAdd, Nat.reduceSub, Nat.reduceLeDiff, Int.reduceLT, Int.reduceLE, Int.reduceNeg, Int.reduceToNat, Int.reducePow, decide_eq_true_eq, reduceIte, eq_self, ite_true, ite_false, Bool.false_eq_true, reduceCtorEq, resolve, celJ, nCel, Slot.isC, List.filter, putJ, callM, callMF, List.append_eq, Nat.reduceLT, Int.reduceMul, Int.reduceAdd, Int.reduceSub, ne_eq, not_true_eq_false, not_false_eq_true, Bool.not_false, Bool.not_true, decide_true, decide_false, frF, Int.cast_ofNat_Int, Bool.and_true, Bool.true_and, Bool.false_and, Bool.and_false, Bool.or_false, Bool.false_or, Bool.true_or, Bool.or_true, G__law_far_0, G__law_numbers_0, T__law_numbers_1, E__law_numbers_2, G__law_long_0, T__law_long_1, E__law_long_2, G__law_long_3, T__law_long_4, E__law_long_5, G__law_long_6, T__law_long_7, E__law_long_8, G__law_long_9, G__law_due_far_0, T__law_due_far_1, E__law_due_far_2, G__law_due_far_3, G__law_due_far_5, T__law_due_far_6, E__law_due_far_7, G__law_same_0, T__law_same_1, E__law_same_2, G__law_same_3, T__law_same_4, E__law_same_5, G_is_run_0, T_is_run_1, E_is_run_2, G_are_runs_0, T_are_runs_1, E_are_runs_2, G_are_runs_3, T_are_runs_4, E_are_runs_5, G_Plain_signs_0, T_Plain_signs_1, E_Plain_signs_2, G_Next_signs_0, G_Single_signs_0, G_Block_signs_0, G_Later_signs_0, G_Rule_total_0, T_Rule_total_1, E_Rule_total_2, G__law_worth_0, T__law_worth_1, E__law_worth_2, G__law_right_0, G_law_0, G_law_2, G_law_4, T_law_5, E_law_6, G_law_7, T_law_8, E_law_9, eq_plain_plain, eq_plain_single, eq_plain_next, eq_plain_block, in_plain, look_plain, lookT_plain, eq_single_plain, eq_single_single, eq_single_next, eq_single_block, in_single, look_single, lookT_single, eq_next_plain, eq_next_single, eq_next_next, eq_next_block, in_next, look_next, lookT_next, eq_block_plain, eq_block_single, eq_block_next, eq_block_block, in_block, look_block, lookT_block, eq_later_plain, eq_later_single, eq_later_next, eq_later_block, in_later, look_later, lookT_later]; try rfl))

inductive Kd where
  | plain | single | next | block | later
def Kd.s : Kd → Str
  | .plain => "plain" | .single => "single" | .next => "next" | .block => "block" | .later => "later"
def Kd.c : Kd → Str
  | .plain => "Plain" | .single => "Single" | .next => "Next" | .block => "Block" | .later => "Later"
def signsN : Kd → List (Int × Int) → Option (List (Int × Int × Int))
  | .plain, w => some (plainS w)
  | .single, w => singleS w
  | .next, w => some (nextS w)
  | .block, w => some (blockS w)
  | .later, w => some (laterS w)
theorem rule_of_k (k : Kd) : mf_rule_of K [.val (.str k.s)] = some (.val (.ins k.c []) none) := by
  unfold mf_rule_of M_rule_of
  cases k <;> (dsimp only [Kd.s, Kd.c]; trivial)
theorem named_k (k : Kd) : mf_Rule_named K [.val (.ref (He.ga K "Rule")), .val (.str k.s)] = some (.val (.ins k.c []) none) := by
  have e := rule_of_k (K := K) k
  unfold mf_Rule_named M_Rule_named
  cases k <;> (dsimp only [Kd.s, Kd.c] at e ⊢; trivial)
def sigO (o : Option (List (Int × Int × Int))) : CO := match o with
  | some t => .val (.lst (t.map tU)) none
  | none => .ex ⟨"InvalidWord", none⟩ none
theorem signs_k (k : Kd) (w : List (Int × Int)) (h : WordOk w) : ∃ mf, List.lookup k.c (tab_signs K) = some mf ∧ mf [.val (.ins k.c []), .val (.lst (w.map pU))] = some (sigO (signsN k w)) := by
  cases k with
  | plain => exact ⟨_, rfl, plain_w _ w h⟩
  | single => exact ⟨_, rfl, by rw [show Kd.single.c = "Single" from rfl, single_w w h]; simp only [signsN, sigO]; try (cases singleS w <;> rfl)⟩
  | next => exact ⟨_, rfl, next_w _ w h⟩
  | block => exact ⟨_, rfl, block_w _ w h⟩
  | later => exact ⟨_, rfl, later_w w h⟩
def toldU (o : Option (List (Int × Int × Int))) : U := match o with
  | some t => .lst (t.map tU)
  | none => .non
def valT (t : Int × Int × Int) : Int := t.1 * (t.2.1 - t.2.2)
theorem total_k (k : Kd) (w : List (Int × Int)) (h : WordOk w) (t : List (Int × Int × Int)) (hs : signsN k w = some t) (hl : t.length ≤ 200) (hb : ∀ x ∈ t, (-100000000000000000000000000000000000000000000000000000000000000 < x.1 ∧ x.1 < 100000000000000000000000000000000000000000000000000000000000000) ∧ -100000000000000000000000000000000000000000000000000000000000000 < x.2.1 - x.2.2 ∧ x.2.1 - x.2.2 < 100000000000000000000000000000000000000000000000000000000000000) :
    mf_Rule_total K [.val (.ins k.c []), .val (.lst (w.map pU))] = some (.val (.int (t.map valT).sum) none) := by
  obtain ⟨mf, e1, e2⟩ := signs_k (K := K) k w h
  rw [hs] at e2
  dsimp only [sigO] at e2
  have e3 : List.lookup (Str.ofString "signs") ([] : List (Str × U)) = none := rfl
  unfold mf_Rule_total M_Rule_total
  trivial
  rw [lcM_all tU (fun x => U.int (valT x)) t ?hl ?hh]
  case hl => omega
  case hh =>
    intro x hx
    obtain ⟨⟨b1, b2⟩, b3, b4⟩ := hb x hx
    clear e1 e2 e3
    exact ⟨_, _, _, (by ac_rfl), (by ac_rfl), (by ac_rfl), rfl⟩
  have e4 := oSum_l (K := K) (t.map valT)
  rw [List.map_map] at e4
  have e5 : (t.map fun x => U.int (valT x)) = t.map (U.int ∘ valT) := rfl
  rw [e5]
  trivial
abbrev Tr := Int × Int × Int
def rowN : Kd → List (Int × Int) → List Tr
  | .plain, w => plainS w
  | .single, w => nextS w
  | .next, w => nextS w
  | .block, w => blockS w
  | .later, w => laterS w
theorem signs_row (k : Kd) (w : List (Int × Int)) (h : k ≠ .single) : signsN k w = some (rowN k w) := by
  cases k <;> first | rfl | exact absurd rfl h
theorem signs_some (k : Kd) (w : List (Int × Int)) (t : List Tr) (h : signsN k w = some t) : t = rowN k w := by
  cases k with
  | single =>
    have h' : singleS w = some t := h
    unfold singleS at h'
    split at h'
    · cases h'
    · cases h'; rfl
  | _ => cases h; rfl
theorem lookT_k (k : Kd) : List.lookup k.c (tab_total K) = some (mf_Rule_total K) := by cases k <;> rfl
theorem look_none (m : Str) : List.lookup m ([] : List (Str × U)) = none := rfl
theorem plainS_run (w : List (Int × Int)) : (plainS w).map runT = w := by
  unfold plainS
  rw [List.map_map]
  have : (runT ∘ fun p : Int × Int => (p.1, p.2, (0 : Int))) = id := by funext p; simp [runT]
  rw [this, List.map_id]
theorem nextS_run : ∀ w, (nextS w).map runT = w
  | [] => rfl
  | p :: r => by rw [nextS, List.map_cons, nextS_run r]; simp [runT]
theorem laterS_run : ∀ w, (laterS w).map runT = w
  | [] => rfl
  | p :: r => by rw [laterS, List.map_cons, sign_run, laterS_run r]
theorem row_len (k : Kd) (w : List (Int × Int)) : (rowN k w).length = w.length := by
  cases k with
  | plain => simp [rowN, plainS]
  | single => exact nextS_length w
  | next => exact nextS_length w
  | block => exact blockS_length w
  | later => exact laterS_length w
theorem row_run (k : Kd) (w : List (Int × Int)) : (rowN k w).map runT = w := by
  cases k with
  | plain => exact plainS_run w
  | single => exact nextS_run w
  | next => exact nextS_run w
  | block => exact blockS_run w
  | later => exact laterS_run w
/-- what is added and subtracted of a run lies between nothing and its count -/
theorem sign_part (b : Bool) (p : Int × Int) (h : 0 ≤ p.2) : 0 ≤ (sign b p).2.1 ∧ 0 ≤ (sign b p).2.2 := by cases b <;> simp [sign, h]
theorem next_part : ∀ (w : List (Int × Int)), (∀ p ∈ w, 1 ≤ p.2) → ∀ x ∈ nextS w, 0 ≤ x.2.1 ∧ 0 ≤ x.2.2
  | [], _, x, hx => by simp [nextS] at hx
  | p :: r, h, x, hx => by
    rcases List.mem_cons.mp (show x ∈ (p.1, p.2 - minusN p.1 r, minusN p.1 r) :: nextS r from hx) with z | z
    · have := h p List.mem_cons_self
      rw [z]
      have m : minusN p.1 r = 0 ∨ minusN p.1 r = 1 := by
        cases r with
        | nil => exact .inl rfl
        | cons q r => simp only [minusN]; split <;> simp
      rcases m with m | m <;> simp only [m] <;> omega
    · exact next_part r (fun q hq => h q (List.mem_cons_of_mem _ hq)) x z
theorem row_part (k : Kd) (w : List (Int × Int)) (h : ∀ p ∈ w, 1 ≤ p.2) : ∀ x ∈ rowN k w, 0 ≤ x.2.1 ∧ 0 ≤ x.2.2 := by
  cases k with
  | plain =>
    intro x hx
    obtain ⟨p, hp, rfl⟩ := List.mem_map.mp (show x ∈ plainS w from hx)
    have := h p hp
    exact ⟨by show 0 ≤ p.2; omega, Int.le_refl 0⟩
  | single => exact next_part w h
  | next => exact next_part w h
  | block =>
    have key : ∀ w : List (Int × Int), (∀ p ∈ w, 1 ≤ p.2) → ∀ x ∈ blockS w, 0 ≤ x.2.1 ∧ 0 ≤ x.2.2 := by
      intro w
      induction w with
      | nil => intro _ x hx; simp [blockS] at hx
      | cons p r ih =>
        intro h x hx
        rcases List.mem_cons.mp (show x ∈ sign (decide (p.1 < headv r)) p :: blockS r from hx) with z | z
        · rw [z]; exact sign_part _ p (by have := h p List.mem_cons_self; omega)
        · exact ih (fun q hq => h q (List.mem_cons_of_mem _ hq)) x z
    exact key w h
  | later =>
    have key : ∀ w : List (Int × Int), (∀ p ∈ w, 1 ≤ p.2) → ∀ x ∈ laterS w, 0 ≤ x.2.1 ∧ 0 ≤ x.2.2 := by
      intro w
      induction w with
      | nil => intro _ x hx; simp [laterS] at hx
      | cons p r ih =>
        intro h x hx
        rcases List.mem_cons.mp (show x ∈ sign (decide (p.1 < maxv r)) p :: laterS r from hx) with z | z
        · rw [z]; exact sign_part _ p (by have := h p List.mem_cons_self; omega)
        · exact ih (fun q hq => h q (List.mem_cons_of_mem _ hq)) x z
    exact key w h
/-- a word whose numbers are not too large -/
structure WordS (w : List (Int × Int)) : Prop where
  ok : WordOk w
  sm : ∀ p ∈ w, p.1 < 100000000000000000000000000000000000000000000000000000000000000 ∧ p.2 < 100000000000000000000000000000000000000000000000000000000000000
theorem row_bd (k : Kd) (w : List (Int × Int)) (h : WordS w) : ∀ x ∈ rowN k w, (-100000000000000000000000000000000000000000000000000000000000000 < x.1 ∧ x.1 < 100000000000000000000000000000000000000000000000000000000000000) ∧ -100000000000000000000000000000000000000000000000000000000000000 < x.2.1 - x.2.2 ∧ x.2.1 - x.2.2 < 100000000000000000000000000000000000000000000000000000000000000 := fun x hx => by
  have h1 : runT x ∈ w := by rw [← row_run k w]; exact List.mem_map_of_mem hx
  obtain ⟨a, b⟩ := h.sm _ h1
  obtain ⟨c, d⟩ := h.ok.runs _ h1
  obtain ⟨e, f⟩ := row_part k w (fun p hp => (h.ok.runs p hp).2) x hx
  have b' : x.2.1 + x.2.2 < 100000000000000000000000000000000000000000000000000000000000000 := b
  have a' : x.1 < 100000000000000000000000000000000000000000000000000000000000000 := a
  have c' : 1 ≤ x.1 := c
  omega
def sumN (k : Kd) (w : List (Int × Int)) : Int := ((rowN k w).map valT).sum
theorem total_s (k : Kd) (w : List (Int × Int)) (h : WordS w) (t : List Tr) (hs : signsN k w = some t) : mf_Rule_total K [.val (.ins k.c []), .val (.lst (w.map pU))] = some (.val (.int (sumN k w)) none) := by
  have e := signs_some k w t hs
  subst e
  exact total_k k w h.ok _ hs (by rw [row_len]; exact h.ok.top) (row_bd k w h)

end Sg

set_option Elab.async false
set_option linter.all false
set_option maxRecDepth 100000
set_option maxHeartbeats 1000000
namespace Sg
open PySem L2
variable {K : PySem.W.Frag}
local macro_rules | `(tactic| trivial) => `(tactic| simp (disch := omega) only [*, mC_m, mVar_m, mLook_m, mLet_m, mSc_m, mNil_m, msNil_m, msSeq_m, msAsgF_m, msDrop_m, msRet_m, msRetF_m, msRetC_m, msRetN_m, msBrk_m, msCont_m, msRaise_m, msFor_m, mtYes_m, mtOne_m, mLc_m, mcNil_m, mcCel_m, mCall_m, moNone_m, moSome_m, mSlL_m, mBi_m, mBiF_m, miList_m, miTup_m, miRng1_m, miRng2_m, miEnum_m, miZip_m, mMeth_m, mMeth0_m, msSet_m, mCat_m, mRepeat_m, mChain_m, mIsi_m, msAug_m, mRev_m, mListRng_m, mCallF_m, msParVV_m, msParFV_m, msParVF_m, mMethD_m, mNew_m, mCMeth_m, mConC_m, msTry_m, mSup_m, okE_some, okE_none, opE_ok, opE_ex, opF_ok, opF_ex, mOp_e, mOpK_e, mIx_e, unE_ok, mUn_e, coE_ok, coE_ex, coF_ok, coF_ex, mCons_e, bindAE_ok, bindAE_ex, mTup_e, tupF_e, mFr_e, lstF_ok, mLst_e, tsE_ok, tsE_ex, mTest_e, okT_some, truE_ok, truE_ex, mTru_e, anE_t, anE_f, anE_ok, orE_t, orE_f, orE_ok, mAnd_e, mOr_e, noE_ok, noE_ex, mNot_e, blV_ok, blV_ex, anV_t, anV_f, anV_ok, orV_t, orV_f, orV_ok, mAndV_e, mOrV_e, noV_ok, noV_ex, mNotV_e, ifV_t, ifV_f, ifV_ok, mIf_e, ifS_t, ifS_f, ifS_ok, ifS_ex, msIf_e, nxO_some, asE_ok, asE_ex, msAsg_e, gcE_some, mgCons_e, mgNil_e, mgTup_e, mgName_e, cvE_ok, cvE_ex, consC_ok, mcVal_e, thenS_nx, thenS_bk, thenS_ct, thenS_rt, thenS_ex, bindES_ok, bindES_ex, bindAS_ok, bindAS_ex, bindE_ok, bindE_ex, mfOf_e, mfOf0_e, noX_val, noX_cel, coM_some, fin_val, fin_cel, fin_nx, fin_ex, oAdd_i, oSub_i, oMul_l, oMul_r, oMod_i, oDiv_i, oPow_i, oLt_i, oLe_i, oGt_i, oGe_i, oEqI_i, oNeI_i, oIx_l, oIx_f, oIx_t, at1_0, at2_0, at2_1, at3_0, at3_1, at3_2, at4_0, at4_1, at4_2, at4_3, ix3_0, ix3_1, ix3_2, oIsN_non, oNotN_non, oNotN_lst, oIsN_lst, oMax2_i, oMin2_i, oAbs_i, oInt_b, oLen_l, oLen_f, oLen_t, oNeg_i, truU_i, truU_l, truU_b, truU_n, lstU_l, lstU_f, ipAdd_i, ipSub_i, oAppend_u, lstF_0, tupF_0, lstF_1, tupF_1, lstF_2, tupF_2, lstF_3, tupF_3, lstF_4, tupF_4, lstF_5, tupF_5, lstF_6, tupF_6, isi_NoneType_bool, isi_NoneType_int, isi_NoneType_str, isi_NoneType_list, isi_NoneType_tuple, isi_NoneType_dict, isi_bool_bool, isi_bool_int, isi_bool_str, isi_bool_list, isi_bool_tuple, isi_bool_dict, isi_int_bool, isi_int_int, isi_int_str, isi_int_list, isi_int_tuple, isi_int_dict, isi_str_bool, isi_str_int, isi_str_str, isi_str_list, isi_str_tuple, isi_str_dict, isi_list_bool, isi_list_int, isi_list_str, isi_list_list, isi_list_tuple, isi_list_dict, isi_tuple_bool, isi_tuple_int, isi_tuple_str, isi_tuple_list, isi_tuple_tuple, isi_tuple_dict, isi_dict_bool, isi_dict_int, isi_dict_str, isi_dict_list, isi_dict_tuple, isi_dict_dict, tyU_n, tyU_b, tyU_i, tyU_s, tyU_l, tyU_t, rngOk_i, zipU_map, intsU_map, blsU_map, oAll_l, oSum_l, oMax_l, cutU_1, cutU_m1, drop_map, reverse_map, length_map', dropLast_map, oEq_i, oNe_i, oEq_b, oNe_b, oEq_nn, oNe_nn, oEq_tt, oNe_tt, oEq_tn, oNe_tn, oEq_nt, oNe_nt, oEq_pp, oNe_pp, oEq_ii, oNe_ii, mIsiT_m, mCallL_m, lendM_ok, lendM_ex, lendA_some, lendR_b, lendR_i, lendR_n, lendR_ex, resolveL_nil, resolveL_v, resolveL_c, resC_c, mDict_m, dicO_ok, mpNil_m, mpCons_m, mpC_ok, mpC2_ok, mGet2_m, getO_some, keyU_i, keyU_s, mSortSet_m, setO_l, msTupVF_m, isiAny, List.zip_cons_cons, List.zip_nil_left, oEqS_s, oNeS_s, mCallF_m, oMul_s, miZipA_m, zpO_ok, zpP_ok, zpU_l, zpU_t, oIsN_i, oIsN_b, oIsN_t, unown, kills, cellAt, List.map_cons, List.map_nil, List.length_cons, List.length_nil, List.cons_append, List.nil_append, List.replicate, List.getElem?_cons_succ, List.getElem?_cons_zero, List.set_cons_zero, List.set_cons_succ, Option.map_some, Option.map_none, Option.bind_some, Option.bind_none, Nat.reduceAdd, Nat.reduceSub, Nat.reduceLeDiff, Int.reduceLT, Int.reduceLE, Int.reduceNeg, Int.reduceToNat, Int.reducePow, decide_eq_true_eq, reduceIte, eq_self, ite_true, ite_false, Bool.false_eq_true, reduceCtorEq, resolve, celJ, nCel, Slot.isC, List.filter, putJ, callM, callMF, List.append_eq, Nat.reduceLT, Int.reduceMul, Int.reduceAdd, Int.reduceSub, ne_eq, not_true_eq_false, not_false_eq_true, Bool.not_false, Bool.not_true, decide_true, decide_false, frF, Int.cast_ofNat_Int, Bool.and_true, Bool.true_and, Bool.false_and, Bool.and_false, Bool.or_false, Bool.false_or, Bool.true_or, Bool.or_true])
local macro_rules | `(tactic| ac_rfl) => `(tactic| (simp (disch := omega) only [*, mC_m, mVar_m, mLook_m, mLet_m, mSc_m, mNil_m, msNil_m, msSeq_m, msAsgF_m, msDrop_m, msRet_m, msRetF_m, msRetC_m, msRetN_m, msBrk_m, msCont_m, msRaise_m, msFor_m, mtYes_m, mtOne_m, mLc_m, mcNil_m, mcCel_m, mCall_m, moNone_m, moSome_m, mSlL_m, mBi_m, mBiF_m, miList_m, miTup_m, miRng1_m, miRng2_m, miEnum_m, miZip_m, mMeth_m, mMeth0_m, msSet_m, mCat_m, mRepeat_m, mChain_m, mIsi_m, msAug_m, mRev_m, mListRng_m, mCallF_m, msParVV_m, msParFV_m, msParVF_m, mMethD_m, mNew_m, mCMeth_m, mConC_m, msTry_m, mSup_m, okE_some, okE_none, opE_ok, opE_ex, opF_ok, opF_ex, mOp_e, mOpK_e, mIx_e, unE_ok, mUn_e, coE_ok, coE_ex, coF_ok, coF_ex, mCons_e, bindAE_ok, bindAE_ex, mTup_e, tupF_e, mFr_e, lstF_ok, mLst_e, tsE_ok, tsE_ex, mTest_e, okT_some, truE_ok, truE_ex, mTru_e, anE_t, anE_f, anE_ok, orE_t, orE_f, orE_ok, mAnd_e, mOr_e, noE_ok, noE_ex, mNot_e, blV_ok, blV_ex, anV_t, anV_f, anV_ok, orV_t, orV_f, orV_ok, mAndV_e, mOrV_e, noV_ok, noV_ex, mNotV_e, ifV_t, ifV_f, ifV_ok, mIf_e, ifS_t, ifS_f, ifS_ok, ifS_ex, msIf_e, nxO_some, asE_ok, asE_ex, msAsg_e, gcE_some, mgCons_e, mgNil_e, mgTup_e, mgName_e, cvE_ok, cvE_ex, consC_ok, mcVal_e, thenS_nx, thenS_bk, thenS_ct, thenS_rt, thenS_ex, bindES_ok, bindES_ex, bindAS_ok, bindAS_ex, bindE_ok, bindE_ex, mfOf_e, mfOf0_e, noX_val, noX_cel, coM_some, fin_val, fin_cel, fin_nx, fin_ex, oAdd_i, oSub_i, oMul_l, oMul_r, oMod_i, oDiv_i, oPow_i, oLt_i, oLe_i, oGt_i, oGe_i, oEqI_i, oNeI_i, oIx_l, oIx_f, oIx_t, at1_0, at2_0, at2_1, at3_0, at3_1, at3_2, at4_0, at4_1, at4_2, at4_3, ix3_0, ix3_1, ix3_2, oIsN_non, oNotN_non, oNotN_lst, oIsN_lst, oMax2_i, oMin2_i, oAbs_i, oInt_b, oLen_l, oLen_f, oLen_t, oNeg_i, truU_i, truU_l, truU_b, truU_n, lstU_l, lstU_f, ipAdd_i, ipSub_i, oAppend_u, lstF_0, tupF_0, lstF_1, tupF_1, lstF_2, tupF_2, lstF_3, tupF_3, lstF_4, tupF_4, lstF_5, tupF_5, lstF_6, tupF_6, isi_NoneType_bool, isi_NoneType_int, isi_NoneType_str, isi_NoneType_list, isi_NoneType_tuple, isi_NoneType_dict, isi_bool_bool, isi_bool_int, isi_bool_str, isi_bool_list, isi_bool_tuple, isi_bool_dict, isi_int_bool, isi_int_int, isi_int_str, isi_int_list, isi_int_tuple, isi_int_dict, isi_str_bool, isi_str_int, isi_str_str, isi_str_list, isi_str_tuple, isi_str_dict, isi_list_bool, isi_list_int, isi_list_str, isi_list_list, isi_list_tuple, isi_list_dict, isi_tuple_bool, isi_tuple_int, isi_tuple_str, isi_tuple_list, isi_tuple_tuple, isi_tuple_dict, isi_dict_bool, isi_dict_int, isi_dict_str, isi_dict_list, isi_dict_tuple, isi_dict_dict, tyU_n, tyU_b, tyU_i, tyU_s, tyU_l, tyU_t, rngOk_i, zipU_map, intsU_map, blsU_map, oAll_l, oSum_l, oMax_l, cutU_1, cutU_m1, drop_map, reverse_map, length_map', dropLast_map, oEq_i, oNe_i, oEq_b, oNe_b, oEq_nn, oNe_nn, oEq_tt, oNe_tt, oEq_tn, oNe_tn, oEq_nt, oNe_nt, oEq_pp, oNe_pp, oEq_ii, oNe_ii, mIsiT_m, mCallL_m, lendM_ok, lendM_ex, lendA_some, lendR_b, lendR_i, lendR_n, lendR_ex, resolveL_nil, resolveL_v, resolveL_c, resC_c, mDict_m, dicO_ok, mpNil_m, mpCons_m, mpC_ok, mpC2_ok, mGet2_m, getO_some, keyU_i, keyU_s, mSortSet_m, setO_l, msTupVF_m, isiAny, List.zip_cons_cons, List.zip_nil_left, oEqS_s, oNeS_s, mCallF_m, oMul_s, miZipA_m, zpO_ok, zpP_ok, zpU_l, zpU_t, oIsN_i, oIsN_b, oIsN_t, unown, kills, cellAt, List.map_cons, List.map_nil, List.length_cons, List.length_nil, List.cons_append, List.nil_append, List.replicate, List.getElem?_cons_succ, List.getElem?_cons_zero, List.set_cons_zero, List.set_cons_succ, Option.map_some, Option.map_none, Option.bind_some, Option.bind_none, Nat.reduceAdd, Nat.reduceSub, Nat.reduceLeDiff, Int.reduceLT, Int.reduceLE, Int.reduceNeg, Int.reduceToNat, Int.reducePow, decide_eq_true_eq, reduceIte, eq_self, ite_true, ite_false, Bool.false_eq_true, reduceCtorEq, resolve, celJ, nCel, Slot.isC, List.filter, putJ, callM, callMF, List.append_eq, Nat.reduceLT, Int.reduceMul, Int.reduceAdd, Int.reduceSub, ne_eq, not_true_eq_false, not_false_eq_true, Bool.not_false, Bool.not_true, decide_true, decide_false, frF, Int.cast_ofNat_Int, Bool.and_true, Bool.true_and, Bool.false_and, Bool.and_false, Bool.or_false, Bool.false_or, Bool.true_or, Bool.or_true, G__law_far_0, G__law_numbers_0, T__law_numbers_1, E__law_numbers_2, G__law_long_0, T__law_long_1, E__law_long_2, G__law_long_3, T__law_long_4, E__law_long_5, G__law_long_6, T__law_long_7, E__law_long_8, G__law_long_9, G__law_due_far_0, T__law_due_far_1, E__law_due_far_2, G__law_due_far_3, G__law_due_far_5, T__law_due_far_6, E__law_due_far_7, G__law_same_0, T__law_same_1, E__law_same_2, G__law_same_3, T__law_same_4, E__law_same_5, G_is_run_0, T_is_run_1, E_is_run_2, G_are_runs_0, T_are_runs_1, E_are_runs_2, G_are_runs_3, T_are_runs_4, E_are_runs_5, G_Plain_signs_0, T_Plain_signs_1, E_Plain_signs_2, G_Next_signs_0, G_Single_signs_0, G_Block_signs_0, G_Later_signs_0, G_Rule_total_0, T_Rule_total_1, E_Rule_total_2, G__law_worth_0, T__law_worth_1, E__law_worth_2, G__law_right_0, G_law_0, G_law_2, G_law_4, T_law_5, E_law_6, G_law_7, T_law_8, E_law_9]; try rfl))
def Feed (f : List U) : Prop := ∃ a b c : Int, f = [.int a, .int b, .int c]
theorem pick_k (own : Bool) (f : List U) (wide : Int) (hf : Feed f) (h1 : 0 < wide) (h2 : wide < 1000000000000000000000000000000000000000000000000000000000000000000000000) :
    ∃ d f', 0 ≤ d ∧ d < wide ∧ Feed f' ∧ mf__law_pick K [.cel own f, .val (.int wide)] = some (.val (.int d) (some f')) := by
  obtain ⟨a, b, c, rfl⟩ := hf
  by_cases ha : 0 < a
  · refine ⟨a % wide, [.int (a / wide), .int b, .int c], Int.emod_nonneg _ (by omega), Int.emod_lt_of_pos _ h1, ⟨_, _, _, rfl⟩, ?_⟩
    unfold mf__law_pick M__law_pick
    ac_rfl
  · have key : ∀ r, mf__law_pick K [.cel own [.int a, .int b, .int c], .val (.int wide)] = r → ∃ m, r = some (.val (.int (m % wide)) (some [.int a, .int b, .int (c + 1)])) := by
      intro r
      unfold mf__law_pick M__law_pick
      trivial
      intro hr
      exact ⟨_, hr.symm⟩
    obtain ⟨m, e⟩ := key _ rfl
    exact ⟨m % wide, _, Int.emod_nonneg _ (by omega), Int.emod_lt_of_pos _ h1, ⟨_, _, _, rfl⟩, e⟩
theorem mod_bound (x : Int) : -18446744073709551616 < x % 2305843009213693951 ∧ x % 2305843009213693951 < 18446744073709551616 := by omega
theorem feed_k (ns : List Int) (k : Int) (hk : 0 ≤ k) (hk2 : k < 1000) : ∃ f, Feed f ∧ mf__law_feed K [.val (.frl (ns.map U.int)), .val (.int k)] = some (.cel f none) := by
  by_cases h : k < ns.length
  · obtain ⟨x, hx, _, e⟩ := atI_map U.int (xs := ns) hk h
    have key : ∀ r, mf__law_feed K [.val (.frl (ns.map U.int)), .val (.int k)] = r → ∃ a b c : Int, r = some (.cel [.int a, .int b, .int c] none) := by
      intro r
      unfold mf__law_feed M__law_feed
      trivial
      intro hr
      exact ⟨_, _, _, hr.symm⟩
    obtain ⟨a, b, c, e⟩ := key _ rfl
    exact ⟨_, ⟨a, b, c, rfl⟩, e⟩
  · have key : ∀ r, mf__law_feed K [.val (.frl (ns.map U.int)), .val (.int k)] = r → ∃ a b c : Int, r = some (.cel [.int a, .int b, .int c] none) := by
      intro r
      unfold mf__law_feed M__law_feed
      trivial
      intro hr
      exact ⟨_, _, _, hr.symm⟩
    obtain ⟨a, b, c, e⟩ := key _ rfl
    exact ⟨_, ⟨a, b, c, rfl⟩, e⟩
end Sg

set_option Elab.async false
set_option linter.all false
set_option maxRecDepth 100000
set_option maxHeartbeats 1000000
namespace Sg
open PySem L2
variable {K : PySem.W.Frag}
local macro_rules | `(tactic| trivial) => `(tactic| simp (disch := omega) only [*, mC_m, mVar_m, mLook_m, mLet_m, mSc_m, mNil_m, msNil_m, msSeq_m, msAsgF_m, msDrop_m, msRet_m, msRetF_m, msRetC_m, msRetN_m, msBrk_m, msCont_m, msRaise_m, msFor_m, mtYes_m, mtOne_m, mLc_m, mcNil_m, mcCel_m, mCall_m, moNone_m, moSome_m, mSlL_m, mBi_m, mBiF_m, miList_m, miTup_m, miRng1_m, miRng2_m, miEnum_m, miZip_m, mMeth_m, mMeth0_m, msSet_m, mCat_m, mRepeat_m, mChain_m, mIsi_m, msAug_m, mRev_m, mListRng_m, mCallF_m, msParVV_m, msParFV_m, msParVF_m, mMethD_m, mNew_m, mCMeth_m, mConC_m, msTry_m, mSup_m, okE_some, okE_none, opE_ok, opE_ex, opF_ok, opF_ex, mOp_e, mOpK_e, mIx_e, unE_ok, mUn_e, coE_ok, coE_ex, coF_ok, coF_ex, mCons_e, bindAE_ok, bindAE_ex, mTup_e, tupF_e, mFr_e, lstF_ok, mLst_e, tsE_ok, tsE_ex, mTest_e, okT_some, truE_ok, truE_ex, mTru_e, anE_t, anE_f, anE_ok, orE_t, orE_f, orE_ok, mAnd_e, mOr_e, noE_ok, noE_ex, mNot_e, blV_ok, blV_ex, anV_t, anV_f, anV_ok, orV_t, orV_f, orV_ok, mAndV_e, mOrV_e, noV_ok, noV_ex, mNotV_e, ifV_t, ifV_f, ifV_ok, mIf_e, ifS_t, ifS_f, ifS_ok, ifS_ex, msIf_e, nxO_some, asE_ok, asE_ex, msAsg_e, gcE_some, mgCons_e, mgNil_e, mgTup_e, mgName_e, cvE_ok, cvE_ex, consC_ok, mcVal_e, thenS_nx, thenS_bk, thenS_ct, thenS_rt, thenS_ex, bindES_ok, bindES_ex, bindAS_ok, bindAS_ex, bindE_ok, bindE_ex, mfOf_e, mfOf0_e, noX_val, noX_cel, coM_some, fin_val, fin_cel, fin_nx, fin_ex, oAdd_i, oSub_i, oMul_l, oMul_r, oMod_i, oDiv_i, oPow_i, oLt_i, oLe_i, oGt_i, oGe_i, oEqI_i, oNeI_i, oIx_l, oIx_f, oIx_t, at1_0, at2_0, at2_1, at3_0, at3_1, at3_2, at4_0, at4_1, at4_2, at4_3, ix3_0, ix3_1, ix3_2, oIsN_non, oNotN_non, oNotN_lst, oIsN_lst, oMax2_i, oMin2_i, oAbs_i, oInt_b, oLen_l, oLen_f, oLen_t, oNeg_i, truU_i, truU_l, truU_b, truU_n, lstU_l, lstU_f, ipAdd_i, ipSub_i, oAppend_u, lstF_0, tupF_0, lstF_1, tupF_1, lstF_2, tupF_2, lstF_3, tupF_3, lstF_4, tupF_4, lstF_5, tupF_5, lstF_6, tupF_6, isi_NoneType_bool, isi_NoneType_int, isi_NoneType_str, isi_NoneType_list, isi_NoneType_tuple, isi_NoneType_dict, isi_bool_bool, isi_bool_int, isi_bool_str, isi_bool_list, isi_bool_tuple, isi_bool_dict, isi_int_bool, isi_int_int, isi_int_str, isi_int_list, isi_int_tuple, isi_int_dict, isi_str_bool, isi_str_int, isi_str_str, isi_str_list, isi_str_tuple, isi_str_dict, isi_list_bool, isi_list_int, isi_list_str, isi_list_list, isi_list_tuple, isi_list_dict, isi_tuple_bool, isi_tuple_int, isi_tuple_str, isi_tuple_list, isi_tuple_tuple, isi_tuple_dict, isi_dict_bool, isi_dict_int, isi_dict_str, isi_dict_list, isi_dict_tuple, isi_dict_dict, tyU_n, tyU_b, tyU_i, tyU_s, tyU_l, tyU_t, rngOk_i, zipU_map, intsU_map, blsU_map, oAll_l, oSum_l, oMax_l, cutU_1, cutU_m1, drop_map, reverse_map, length_map', dropLast_map, oEq_i, oNe_i, oEq_b, oNe_b, oEq_nn, oNe_nn, oEq_tt, oNe_tt, oEq_tn, oNe_tn, oEq_nt, oNe_nt, oEq_pp, oNe_pp, oEq_ii, oNe_ii, mIsiT_m, mCallL_m, lendM_ok, lendM_ex, lendA_some, lendR_b, lendR_i, lendR_n, lendR_ex, resolveL_nil, resolveL_v, resolveL_c, resC_c, mDict_m, dicO_ok, mpNil_m, mpCons_m, mpC_ok, mpC2_ok, mGet2_m, getO_some, keyU_i, keyU_s, mSortSet_m, setO_l, msTupVF_m, isiAny, List.zip_cons_cons, List.zip_nil_left, oEqS_s, oNeS_s, mCallF_m, oMul_s, miZipA_m, zpO_ok, zpP_ok, zpU_l, zpU_t, oIsN_i, oIsN_b, oIsN_t, unown, kills, cellAt, List.map_cons, List.map_nil, List.length_cons, List.length_nil, List.cons_append, List.nil_append, List.replicate, List.getElem?_cons_succ, List.getElem?_cons_zero, List.set_cons_zero, List.set_cons_succ, Option.map_some, Option.map_none, Option.bind_some, Option.bind_none, Nat.reduceAdd, Nat.reduceSub, Nat.reduceLeDiff, Int.reduceLT, Int.reduceLE, Int.reduceNeg, Int.reduceToNat, Int.reducePow, decide_eq_true_eq, reduceIte, eq_self, ite_true, ite_false, Bool.false_eq_true, reduceCtorEq, resolve, celJ, nCel, Slot.isC, List.filter, putJ, callM, callMF, List.append_eq, Nat.reduceLT, Int.reduceMul, Int.reduceAdd, Int.reduceSub, ne_eq, not_true_eq_false, not_false_eq_true, Bool.not_false, Bool.not_true, decide_true, decide_false, frF, Int.cast_ofNat_Int, Bool.and_true, Bool.true_and, Bool.false_and, Bool.and_false, Bool.or_false, Bool.false_or, Bool.true_or, Bool.or_true])
local macro_rules | `(tactic| ac_rfl) => `(tactic| (simp (disch := omega) only [*, mC_m, mVar_m, mLook_m, mLet_m, mSc_m, mNil_m, msNil_m, msSeq_m, msAsgF_m, msDrop_m, msRet_m, msRetF_m, msRetC_m, msRetN_m, msBrk_m, msCont_m, msRaise_m, msFor_m, mtYes_m, mtOne_m, mLc_m, mcNil_m, mcCel_m, mCall_m, moNone_m, moSome_m, mSlL_m, mBi_m, mBiF_m, miList_m, miTup_m, miRng1_m, miRng2_m, miEnum_m, miZip_m, mMeth_m, mMeth0_m, msSet_m, mCat_m, mRepeat_m, mChain_m, mIsi_m, msAug_m, mRev_m, mListRng_m, mCallF_m, msParVV_m, msParFV_m, msParVF_m, mMethD_m, mNew_m, mCMeth_m, mConC_m, msTry_m, mSup_m, okE_some, okE_none, opE_ok, opE_ex, opF_ok, opF_ex, mOp_e, mOpK_e, mIx_e, unE_ok, mUn_e, coE_ok, coE_ex, coF_ok, coF_ex, mCons_e, bindAE_ok, bindAE_ex, mTup_e, tupF_e, mFr_e, lstF_ok, mLst_e, tsE_ok, tsE_ex, mTest_e, okT_some, truE_ok, truE_ex, mTru_e, anE_t, anE_f, anE_ok, orE_t, orE_f, orE_ok, mAnd_e, mOr_e, noE_ok, noE_ex, mNot_e, blV_ok, blV_ex, anV_t, anV_f, anV_ok, orV_t, orV_f, orV_ok, mAndV_e, mOrV_e, noV_ok, noV_ex, mNotV_e, ifV_t, ifV_f, ifV_ok, mIf_e, ifS_t, ifS_f, ifS_ok, ifS_ex, msIf_e, nxO_some, asE_ok, asE_ex, msAsg_e, gcE_some, mgCons_e, mgNil_e, mgTup_e, mgName_e, cvE_ok, cvE_ex, consC_ok, mcVal_e, thenS_nx, thenS_bk, thenS_ct, thenS_rt, thenS_ex, bindES_ok, bindES_ex, bindAS_ok, bindAS_ex, bindE_ok, bindE_ex, mfOf_e, mfOf0_e, noX_val, noX_cel, coM_some, fin_val, fin_cel, fin_nx, fin_ex, oAdd_i, oSub_i, oMul_l, oMul_r, oMod_i, oDiv_i, oPow_i, oLt_i, oLe_i, oGt_i, oGe_i, oEqI_i, oNeI_i, oIx_l, oIx_f, oIx_t, at1_0, at2_0, at2_1, at3_0, at3_1, at3_2, at4_0, at4_1, at4_2, at4_3, ix3_0, ix3_1, ix3_2, oIsN_non, oNotN_non, oNotN_lst, oIsN_lst, oMax2_i, oMin2_i, oAbs_i, oInt_b, oLen_l, oLen_f, oLen_t, oNeg_i, truU_i, truU_l, truU_b, truU_n, lstU_l, lstU_f, ipAdd_i, ipSub_i, oAppend_u, lstF_0, tupF_0, lstF_1, tupF_1, lstF_2, tupF_2, lstF_3, tupF_3, lstF_4, tupF_4, lstF_5, tupF_5, lstF_6, tupF_6, isi_NoneType_bool, isi_NoneType_int, isi_NoneType_str, isi_NoneType_list, isi_NoneType_tuple, isi_NoneType_dict, isi_bool_bool, isi_bool_int, isi_bool_str, isi_bool_list, isi_bool_tuple, isi_bool_dict, isi_int_bool, isi_int_int, isi_int_str, isi_int_list, isi_int_tuple, isi_int_dict, isi_str_bool, isi_str_int, isi_str_str, isi_str_list, isi_str_tuple, isi_str_dict, isi_list_bool, isi_list_int, isi_list_str, isi_list_list, isi_list_tuple, isi_list_dict, isi_tuple_bool, isi_tuple_int, isi_tuple_str, isi_tuple_list, isi_tuple_tuple, isi_tuple_dict, isi_dict_bool, isi_dict_int, isi_dict_str, isi_dict_list, isi_dict_tuple, isi_dict_dict, tyU_n, tyU_b, tyU_i, tyU_s, tyU_l, tyU_t, rngOk_i, zipU_map, intsU_map, blsU_map, oAll_l, oSum_l, oMax_l, cutU_1, cutU_m1, drop_map, reverse_map, length_map', dropLast_map, oEq_i, oNe_i, oEq_b, oNe_b, oEq_nn, oNe_nn, oEq_tt, oNe_tt, oEq_tn, oNe_tn, oEq_nt, oNe_nt, oEq_pp, oNe_pp, oEq_ii, oNe_ii, mIsiT_m, mCallL_m, lendM_ok, lendM_ex, lendA_some, lendR_b, lendR_i, lendR_n, lendR_ex, resolveL_nil, resolveL_v, resolveL_c, resC_c, mDict_m, dicO_ok, mpNil_m, mpCons_m, mpC_ok, mpC2_ok, mGet2_m, getO_some, keyU_i, keyU_s, mSortSet_m, setO_l, msTupVF_m, isiAny, List.zip_cons_cons, List.zip_nil_left, oEqS_s, oNeS_s, mCallF_m, oMul_s, miZipA_m, zpO_ok, zpP_ok, zpU_l, zpU_t, oIsN_i, oIsN_b, oIsN_t, unown, kills, cellAt, List.map_cons, List.map_nil, List.length_cons, List.length_nil, List.cons_append, List.nil_append, List.replicate, List.getElem?_cons_succ, List.getElem?_cons_zero, List.set_cons_zero, List.set_cons_succ, Option.map_some, Option.map_none, Option.bind_some, Option.bind_none, Nat.reduceAdd, Nat.reduceSub, Nat.reduceLeDiff, Int.reduceLT, Int.reduceLE, Int.reduceNeg, Int.reduceToNat, Int.reducePow, decide_eq_true_eq, reduceIte, eq_self, ite_true, ite_false, Bool.false_eq_true, reduceCtorEq, resolve, celJ, nCel, Slot.isC, List.filter, putJ, callM, callMF, List.append_eq, Nat.reduceLT, Int.reduceMul, Int.reduceAdd, Int.reduceSub, ne_eq, not_true_eq_false, not_false_eq_true, Bool.not_false, Bool.not_true, decide_true, decide_false, frF, Int.cast_ofNat_Int, Bool.and_true, Bool.true_and, Bool.false_and, Bool.and_false, Bool.or_false, Bool.false_or, Bool.true_or, Bool.or_true, G__law_far_0, G__law_numbers_0, T__law_numbers_1, E__law_numbers_2, G__law_long_0, T__law_long_1, E__law_long_2, G__law_long_3, T__law_long_4, E__law_long_5, G__law_long_6, T__law_long_7, E__law_long_8, G__law_long_9, G__law_due_far_0, T__law_due_far_1, E__law_due_far_2, G__law_due_far_3, G__law_due_far_5, T__law_due_far_6, E__law_due_far_7, G__law_same_0, T__law_same_1, E__law_same_2, G__law_same_3, T__law_same_4, E__law_same_5, G_is_run_0, T_is_run_1, E_is_run_2, G_are_runs_0, T_are_runs_1, E_are_runs_2, G_are_runs_3, T_are_runs_4, E_are_runs_5, G_Plain_signs_0, T_Plain_signs_1, E_Plain_signs_2, G_Next_signs_0, G_Single_signs_0, G_Block_signs_0, G_Later_signs_0, G_Rule_total_0, T_Rule_total_1, E_Rule_total_2, G__law_worth_0, T__law_worth_1, E__law_worth_2, G__law_right_0, G_law_0, G_law_2, G_law_4, T_law_5, E_law_6, G_law_7, T_law_8, E_law_9]; try rfl))
theorem sortI_perm' : ∀ l : List Int, (sortI l).Perm l
  | [] => .refl _
  | x :: r => (insI_perm x (sortI r)).trans ((sortI_perm' r).cons x)
theorem oSorted_l (is : List Int) : (oSorted (K := K)).f [.lst (is.map U.int)] = some ((sortI is).map U.int) := by
  show (intsU (is.map U.int)).map _ = _
  rw [intsU_map]
  rfl
theorem eraseIdx_map' {α : Type} (r : α → U) (xs : List α) (k : Nat) : (xs.map r).eraseIdx k = (xs.eraseIdx k).map r := by
  induction xs generalizing k with
  | nil => rfl
  | cons x xs ih =>
    cases k with
    | zero => rfl
    | succ k => simp [ih]
theorem oPopAt_l (xs : List Int) (i : Int) (h0 : 0 ≤ i) (h1 : i < xs.length) (h2 : xs.length < 1000000) : ∃ x ∈ xs, xs[i.toNat]? = some x ∧ (oPopAt (K := K)).f (xs.map U.int) [.int i] = some (.int x, (xs.eraseIdx i.toNat).map U.int) := by
  have hl : i.toNat < xs.length := by omega
  refine ⟨xs[i.toNat], List.getElem_mem hl, List.getElem?_eq_getElem hl, ?_⟩
  show (if -(2 ^ 63) ≤ i ∧ i < 2 ^ 63 then (seqIndex? i (xs.map U.int).length).bind fun k => (xs.map U.int)[k]?.map fun u => (u, (xs.map U.int).eraseIdx k) else none) = _
  rw [if_pos (by omega)]
  have e : seqIndex? i (xs.map U.int).length = some i.toNat := by
    have n0 : ¬ i < 0 := by omega
    unfold seqIndex?
    simp [n0, h0, h1]
  rw [e, Option.bind_some, List.getElem?_map, List.getElem?_eq_getElem hl, eraseIdx_map']
  rfl
theorem numbers_k (own : Bool) (f : List U) (many top : Int) (hf : Feed f) (h1 : 1 ≤ many) (h2 : many ≤ top) (h3 : top ≤ 1000) :
    ∃ (ns : List Int) (f' : List U), Feed f' ∧ (ns.length : Int) = many ∧ (∀ n ∈ ns, 1 ≤ n ∧ n ≤ top) ∧ ns.Nodup ∧ mf__law_numbers K [.cel own f, .val (.int many), .val (.int top)] = some (.val (.lst (ns.map U.int)) (some f')) := by
  have hr : rgLok 1 (top + 1) = true := decide_eq_true ⟨by omega, by omega, by omega, by omega, by omega⟩
  have hr2 : rngOk 0 many = true := rngOk_i 0 many (by omega) (by omega) (by omega) (by omega)
  have hrange : rangeU 1 (top + 1 - 1).toNat = ((List.range top.toNat).map fun i => (1 + (i : Nat) : Int)).map U.int := by
    rw [rangeU_map, List.map_map, show top + 1 - 1 = top from by omega]
    rfl
  have hnd : (((List.range top.toNat).map fun i => (1 + (i : Nat) : Int)) ++ []).Nodup := by
    rw [List.append_nil]
    exact List.Pairwise.map _ (fun x y (h : x ≠ y) => by omega) List.nodup_range
  have st := @lcM_inv (G__law_numbers_0 K).m (T__law_numbers_1 K).m (E__law_numbers_2 K).m [4]
    (fun us acc ρ => ∃ (g : List U) (l a : List Int), Feed g ∧ (us.length : Int) + a.length = many ∧ (l.length : Int) + a.length = top ∧ (∀ n ∈ l, 1 ≤ n ∧ n ≤ top) ∧ (∀ n ∈ a, 1 ≤ n ∧ n ≤ top) ∧ (l ++ a).Nodup ∧ acc = a.map U.int ∧ ρ = [.cel false g, .val (.int many), .val (.int top), .cel true (l.map U.int), .non])
  obtain ⟨acc', ρ', e2, g, l, a, hg, q1, q2, q3, q4, q5, rfl, rfl⟩ := st (by
    rintro u us acc ρ ⟨g, l, a, hg, q1, q2, q3, q4, q5, rfl, rfl⟩
    have q1' : (us.length : Int) + 1 + a.length = many := by rw [List.length_cons] at q1; omega
    obtain ⟨d, g', d1, d2, hg', e⟩ := pick_k (K := K) false g (l.length : Int) hg (by omega) (by omega)
    obtain ⟨x, hx, hxi, ep⟩ := oPopAt_l (K := K) l d d1 d2 (by omega)
    have hlen : (l.eraseIdx d.toNat).length = l.length - 1 := List.length_eraseIdx_of_lt (by omega)
    clear st
    have e3 : (E__law_numbers_2 K).m [.cel false g, .val (.int many), .val (.int top), .cel true (l.map U.int), .val u] = some (.ok (.int x) [.cel false g', .val (.int many), .val (.int top), .cel true ((l.eraseIdx d.toNat).map U.int), .val u]) := by
      clear q1 q1' q2 q3 q4 q5 hlen hxi
      ac_rfl
    refine ⟨[.cel false g, .val (.int many), .val (.int top), .cel true (l.map U.int), .val u], rfl, .inr ⟨_, .int x, [.cel false g', .val (.int many), .val (.int top), .cel true ((l.eraseIdx d.toNat).map U.int), .val u], rfl, e3, by rw [List.length_map]; omega,
      g', l.eraseIdx d.toNat, a ++ [x], hg', ?_, ?_, fun n hn => q3 n (List.mem_of_mem_eraseIdx hn), fun n hn => ?_, ?_, by simp, rfl⟩⟩
    · rw [List.length_append, List.length_singleton]; omega
    · rw [List.length_append, List.length_singleton, hlen]; omega
    · rcases List.mem_append.mp hn with z | z
      · exact q4 n z
      · rw [List.mem_singleton.mp z]; exact q3 x hx
    · have p1 := L2.erase_perm l d.toNat x hxi
      have p2 : (l.eraseIdx d.toNat ++ (a ++ [x])).Perm (l ++ a) := by
        rw [← List.append_assoc]
        refine (List.perm_append_comm (l₁ := l.eraseIdx d.toNat ++ a) (l₂ := [x])).trans ?_
        exact (p1.append_right a)
      exact p2.nodup_iff.mpr q5)
    (rangeU 0 many.toNat) [] [.cel false f, .val (.int many), .val (.int top), .cel true (((List.range top.toNat).map fun i => (1 + (i : Nat) : Int)).map U.int), .non]
    ⟨f, (List.range top.toNat).map fun i => (1 + (i : Nat) : Int), [], hf, by rw [rangeU_map]; simp; omega, by simp; omega, by simp; omega, by simp, hnd, rfl, rfl⟩
  clear st
  refine ⟨sortI a, g, hg, ?_, fun n hn => q4 n ((sortI_perm' a).mem_iff.mp hn), (sortI_perm' a).nodup_iff.mpr (List.nodup_append.mp q5).2.1, ?_⟩
  · rw [(sortI_perm' a).length_eq]; simp at q1; omega
  · have e5 := oSorted_l (K := K) a
    clear q1 q2 q3 q4 q5
    unfold mf__law_numbers M__law_numbers
    trivial
end Sg

set_option Elab.async false
set_option linter.all false
set_option maxRecDepth 100000
set_option maxHeartbeats 1000000
namespace Sg
open PySem L2
variable {K : PySem.W.Frag}
theorem eq_plain_later : (oEq (K := K)).f (.str "plain") (.str "later") = some (.bl false) := by rw [oEq_s _ _ (by decide +kernel) (by decide +kernel)]; rfl
theorem eq_single_later : (oEq (K := K)).f (.str "single") (.str "later") = some (.bl false) := by rw [oEq_s _ _ (by decide +kernel) (by decide +kernel)]; rfl
theorem eq_next_later : (oEq (K := K)).f (.str "next") (.str "later") = some (.bl false) := by rw [oEq_s _ _ (by decide +kernel) (by decide +kernel)]; rfl
theorem eq_block_later : (oEq (K := K)).f (.str "block") (.str "later") = some (.bl false) := by rw [oEq_s _ _ (by decide +kernel) (by decide +kernel)]; rfl
theorem eq_later_later : (oEq (K := K)).f (.str "later") (.str "later") = some (.bl true) := by rw [oEq_s _ _ (by decide +kernel) (by decide +kernel)]; rfl
theorem get_plain (a b c d z : U) : (valU [(.inr "plain", a), (.inr "next", b), (.inr "single", c), (.inr "block", d)] (.inr "plain")).getD z = a := rfl
theorem get_next (a b c d z : U) : (valU [(.inr "plain", a), (.inr "next", b), (.inr "single", c), (.inr "block", d)] (.inr "next")).getD z = b := rfl
theorem get_single (a b c d z : U) : (valU [(.inr "plain", a), (.inr "next", b), (.inr "single", c), (.inr "block", d)] (.inr "single")).getD z = c := rfl
theorem get_block (a b c d z : U) : (valU [(.inr "plain", a), (.inr "next", b), (.inr "single", c), (.inr "block", d)] (.inr "block")).getD z = d := rfl
theorem get_later (a b c d z : U) : (valU [(.inr "plain", a), (.inr "next", b), (.inr "single", c), (.inr "block", d)] (.inr "later")).getD z = z := rfl
local macro_rules | `(tactic| trivial) => `(tactic| simp (disch := omega) only [*, mC_m, mVar_m, mLook_m, mLet_m, mSc_m, mNil_m, msNil_m, msSeq_m, msAsgF_m, msDrop_m, msRet_m, msRetF_m, msRetC_m, msRetN_m, msBrk_m, msCont_m, msRaise_m, msFor_m, mtYes_m, mtOne_m, mLc_m, mcNil_m, mcCel_m, mCall_m, moNone_m, moSome_m, mSlL_m, mBi_m, mBiF_m, miList_m, miTup_m, miRng1_m, miRng2_m, miEnum_m, miZip_m, mMeth_m, mMeth0_m, msSet_m, mCat_m, mRepeat_m, mChain_m, mIsi_m, msAug_m, mRev_m, mListRng_m, mCallF_m, msParVV_m, msParFV_m, msParVF_m, mMethD_m, mNew_m, mCMeth_m, mConC_m, msTry_m, mSup_m, okE_some, okE_none, opE_ok, opE_ex, opF_ok, opF_ex, mOp_e, mOpK_e, mIx_e, unE_ok, mUn_e, coE_ok, coE_ex, coF_ok, coF_ex, mCons_e, bindAE_ok, bindAE_ex, mTup_e, tupF_e, mFr_e, lstF_ok, mLst_e, tsE_ok, tsE_ex, mTest_e, okT_some, truE_ok, truE_ex, mTru_e, anE_t, anE_f, anE_ok, orE_t, orE_f, orE_ok, mAnd_e, mOr_e, noE_ok, noE_ex, mNot_e, blV_ok, blV_ex, anV_t, anV_f, anV_ok, orV_t, orV_f, orV_ok, mAndV_e, mOrV_e, noV_ok, noV_ex, mNotV_e, ifV_t, ifV_f, ifV_ok, mIf_e, ifS_t, ifS_f, ifS_ok, ifS_ex, msIf_e, nxO_some, asE_ok, asE_ex, msAsg_e, gcE_some, mgCons_e, mgNil_e, mgTup_e, mgName_e, cvE_ok, cvE_ex, consC_ok, mcVal_e, thenS_nx, thenS_bk, thenS_ct, thenS_rt, thenS_ex, bindES_ok, bindES_ex, bindAS_ok, bindAS_ex, bindE_ok, bindE_ex, mfOf_e, mfOf0_e, noX_val, noX_cel, coM_some, fin_val, fin_cel, fin_nx, fin_ex, oAdd_i, oSub_i, oMul_l, oMul_r, oMod_i, oDiv_i, oPow_i, oLt_i, oLe_i, oGt_i, oGe_i, oEqI_i, oNeI_i, oIx_l, oIx_f, oIx_t, at1_0, at2_0, at2_1, at3_0, at3_1, at3_2, at4_0, at4_1, at4_2, at4_3, ix3_0, ix3_1, ix3_2, oIsN_non, oNotN_non, oNotN_lst, oIsN_lst, oMax2_i, oMin2_i, oAbs_i, oInt_b, oLen_l, oLen_f, oLen_t, oNeg_i, truU_i, truU_l, truU_b, truU_n, lstU_l, lstU_f, ipAdd_i, ipSub_i, oAppend_u, lstF_0, tupF_0, lstF_1, tupF_1, lstF_2, tupF_2, lstF_3, tupF_3, lstF_4, tupF_4, lstF_5, tupF_5, lstF_6, tupF_6, isi_NoneType_bool, isi_NoneType_int, isi_NoneType_str, isi_NoneType_list, isi_NoneType_tuple, isi_NoneType_dict, isi_bool_bool, isi_bool_int, isi_bool_str, isi_bool_list, isi_bool_tuple, isi_bool_dict, isi_int_bool, isi_int_int, isi_int_str, isi_int_list, isi_int_tuple, isi_int_dict, isi_str_bool, isi_str_int, isi_str_str, isi_str_list, isi_str_tuple, isi_str_dict, isi_list_bool, isi_list_int, isi_list_str, isi_list_list, isi_list_tuple, isi_list_dict, isi_tuple_bool, isi_tuple_int, isi_tuple_str, isi_tuple_list, isi_tuple_tuple, isi_tuple_dict, isi_dict_bool, isi_dict_int, isi_dict_str, isi_dict_list, isi_dict_tuple, isi_dict_dict, tyU_n, tyU_b, tyU_i, tyU_s, tyU_l, tyU_t, rngOk_i, zipU_map, intsU_map, blsU_map, oAll_l, oSum_l, oMax_l, cutU_1, cutU_m1, drop_map, reverse_map, length_map', dropLast_map, oEq_i, oNe_i, oEq_b, oNe_b, oEq_nn, oNe_nn, oEq_tt, oNe_tt, oEq_tn, oNe_tn, oEq_nt, oNe_nt, oEq_pp, oNe_pp, oEq_ii, oNe_ii, mIsiT_m, mCallL_m, lendM_ok, lendM_ex, lendA_some, lendR_b, lendR_i, lendR_n, lendR_ex, resolveL_nil, resolveL_v, resolveL_c, resC_c, mDict_m, dicO_ok, mpNil_m, mpCons_m, mpC_ok, mpC2_ok, mGet2_m, getO_some, keyU_i, keyU_s, mSortSet_m, setO_l, msTupVF_m, isiAny, List.zip_cons_cons, List.zip_nil_left, oEqS_s, oNeS_s, mCallF_m, oMul_s, miZipA_m, zpO_ok, zpP_ok, zpU_l, zpU_t, oIsN_i, oIsN_b, oIsN_t, unown, kills, cellAt, List.map_cons, List.map_nil, List.length_cons, List.length_nil, List.cons_append, List.nil_append, List.replicate, List.getElem?_cons_succ, List.getElem?_cons_zero, List.set_cons_zero, List.set_cons_succ, Option.map_some, Option.map_none, Option.bind_some, Option.bind_none, Nat.reduceAdd, Nat.reduceSub, Nat.reduceLeDiff, Int.reduceLT, Int.reduceLE, Int.reduceNeg, Int.reduceToNat, Int.reducePow, decide_eq_true_eq, reduceIte, eq_self, ite_true, ite_false, Bool.false_eq_true, reduceCtorEq, resolve, celJ, nCel, Slot.isC, List.filter, putJ, callM, callMF, List.append_eq, Nat.reduceLT, Int.reduceMul, Int.reduceAdd, Int.reduceSub, ne_eq, not_true_eq_false, not_false_eq_true, Bool.not_false, Bool.not_true, decide_true, decide_false, frF, Int.cast_ofNat_Int, Bool.and_true, Bool.true_and, Bool.false_and, Bool.and_false, Bool.or_false, Bool.false_or, Bool.true_or, Bool.or_true, eq_plain_later, eq_single_later, eq_next_later, eq_block_later, eq_later_later, get_plain, get_next, get_single, get_block, get_later, eq_plain_single, eq_single_single, eq_next_single, eq_block_single, eq_later_single])
local macro_rules | `(tactic| ac_rfl) => `(tactic| (simp (disch := omega) only [*, mC_m, mVar_m, mLook_m, mLet_m, mSc_m, mNil_m, msNil_m, msSeq_m, msAsgF_m, msDrop_m, msRet_m, msRetF_m, msRetC_m, msRetN_m, msBrk_m, msCont_m, msRaise_m, msFor_m, mtYes_m, mtOne_m, mLc_m, mcNil_m, mcCel_m, mCall_m, moNone_m, moSome_m, mSlL_m, mBi_m, mBiF_m, miList_m, miTup_m, miRng1_m, miRng2_m, miEnum_m, miZip_m, mMeth_m, mMeth0_m, msSet_m, mCat_m, mRepeat_m, mChain_m, mIsi_m, msAug_m, mRev_m, mListRng_m, mCallF_m, msParVV_m, msParFV_m, msParVF_m, mMethD_m, mNew_m, mCMeth_m, mConC_m, msTry_m, mSup_m, okE_some, okE_none, opE_ok, opE_ex, opF_ok, opF_ex, mOp_e, mOpK_e, mIx_e, unE_ok, mUn_e, coE_ok, coE_ex, coF_ok, coF_ex, mCons_e, bindAE_ok, bindAE_ex, mTup_e, tupF_e, mFr_e, lstF_ok, mLst_e, tsE_ok, tsE_ex, mTest_e, okT_some, truE_ok, truE_ex, mTru_e, anE_t, anE_f, anE_ok, orE_t, orE_f, orE_ok, mAnd_e, mOr_e, noE_ok, noE_ex, mNot_e, blV_ok, blV_ex, anV_t, anV_f, anV_ok, orV_t, orV_f, orV_ok, mAndV_e, mOrV_e, noV_ok, noV_ex, mNotV_e, ifV_t, ifV_f, ifV_ok, mIf_e, ifS_t, ifS_f, ifS_ok, ifS_ex, msIf_e, nxO_some, asE_ok, asE_ex, msAsg_e, gcE_some, mgCons_e, mgNil_e, mgTup_e, mgName_e, cvE_ok, cvE_ex, consC_ok, mcVal_e, thenS_nx, thenS_bk, thenS_ct, thenS_rt, thenS_ex, bindES_ok, bindES_ex, bindAS_ok, bindAS_ex, bindE_ok, bindE_ex, mfOf_e, mfOf0_e, noX_val, noX_cel, coM_some, fin_val, fin_cel, fin_nx, fin_ex, oAdd_i, oSub_i, oMul_l, oMul_r, oMod_i, oDiv_i, oPow_i, oLt_i, oLe_i, oGt_i, oGe_i, oEqI_i, oNeI_i, oIx_l, oIx_f, oIx_t, at1_0, at2_0, at2_1, at3_0, at3_1, at3_2, at4_0, at4_1, at4_2, at4_3, ix3_0, ix3_1, ix3_2, oIsN_non, oNotN_non, oNotN_lst, oIsN_lst, oMax2_i, oMin2_i, oAbs_i, oInt_b, oLen_l, oLen_f, oLen_t, oNeg_i, truU_i, truU_l, truU_b, truU_n, lstU_l, lstU_f, ipAdd_i, ipSub_i, oAppend_u, lstF_0, tupF_0, lstF_1, tupF_1, lstF_2, tupF_2, lstF_3, tupF_3, lstF_4, tupF_4, lstF_5, tupF_5, lstF_6, tupF_6, isi_NoneType_bool, isi_NoneType_int, isi_NoneType_str, isi_NoneType_list, isi_NoneType_tuple, isi_NoneType_dict, isi_bool_bool, isi_bool_int, isi_bool_str, isi_bool_list, isi_bool_tuple, isi_bool_dict, isi_int_bool, isi_int_int, isi_int_str, isi_int_list, isi_int_tuple, isi_int_dict, isi_str_bool, isi_str_int, isi_str_str, isi_str_list, isi_str_tuple, isi_str_dict, isi_list_bool, isi_list_int, isi_list_str, isi_list_list, isi_list_tuple, isi_list_dict, isi_tuple_bool, isi_tuple_int, isi_tuple_str, isi_tuple_list, isi_tuple_tuple, isi_tuple_dict, isi_dict_bool, isi_dict_int, isi_dict_str, isi_dict_list, isi_dict_tuple, isi_dict_dict, tyU_n, tyU_b, tyU_i, tyU_s, tyU_l, tyU_t, rngOk_i, zipU_map, intsU_map, blsU_map, oAll_l, oSum_l, oMax_l, cutU_1, cutU_m1, drop_map, reverse_map, length_map', dropLast_map, oEq_i, oNe_i, oEq_b, oNe_b, oEq_nn, oNe_nn, oEq_tt, oNe_tt, oEq_tn, oNe_tn, oEq_nt, oNe_nt, oEq_pp, oNe_pp, oEq_ii, oNe_ii, mIsiT_m, mCallL_m, lendM_ok, lendM_ex, lendA_some, lendR_b, lendR_i, lendR_n, lendR_ex, resolveL_nil, resolveL_v, resolveL_c, resC_c, mDict_m, dicO_ok, mpNil_m, mpCons_m, mpC_ok, mpC2_ok, mGet2_m, getO_some, keyU_i, keyU_s, mSortSet_m, setO_l, msTupVF_m, isiAny, List.zip_cons_cons, List.zip_nil_left, oEqS_s, oNeS_s, mCallF_m, oMul_s, miZipA_m, zpO_ok, zpP_ok, zpU_l, zpU_t, oIsN_i, oIsN_b, oIsN_t, unown, kills, cellAt, List.map_cons, List.map_nil, List.length_cons, List.length_nil, List.cons_append, List.nil_append, List.replicate, List.getElem?_cons_succ, List.getElem?_cons_zero, List.set_cons_zero, List.set_cons_succ, Option.map_some, Option.map_none, Option.bind_some, Option.bind_none, Nat.reduceAdd, Nat.reduceSub, Nat.reduceLeDiff, Int.reduceLT, Int.reduceLE, Int.reduceNeg, Int.reduceToNat, Int.reducePow, decide_eq_true_eq, reduceIte, eq_self, ite_true, ite_false, Bool.false_eq_true, reduceCtorEq, resolve, celJ, nCel, Slot.isC, List.filter, putJ, callM, callMF, List.append_eq, Nat.reduceLT, Int.reduceMul, Int.reduceAdd, Int.reduceSub, ne_eq, not_true_eq_false, not_false_eq_true, Bool.not_false, Bool.not_true, decide_true, decide_false, frF, Int.cast_ofNat_Int, Bool.and_true, Bool.true_and, Bool.false_and, Bool.and_false, Bool.or_false, Bool.false_or, Bool.true_or, Bool.or_true, G__law_far_0, G__law_numbers_0, T__law_numbers_1, E__law_numbers_2, G__law_long_0, T__law_long_1, E__law_long_2, G__law_long_3, T__law_long_4, E__law_long_5, G__law_long_6, T__law_long_7, E__law_long_8, G__law_long_9, G__law_due_far_0, T__law_due_far_1, E__law_due_far_2, G__law_due_far_3, G__law_due_far_5, T__law_due_far_6, E__law_due_far_7, G__law_same_0, T__law_same_1, E__law_same_2, G__law_same_3, T__law_same_4, E__law_same_5, G_is_run_0, T_is_run_1, E_is_run_2, G_are_runs_0, T_are_runs_1, E_are_runs_2, G_are_runs_3, T_are_runs_4, E_are_runs_5, G_Plain_signs_0, T_Plain_signs_1, E_Plain_signs_2, G_Next_signs_0, G_Single_signs_0, G_Block_signs_0, G_Later_signs_0, G_Rule_total_0, T_Rule_total_1, E_Rule_total_2, G__law_worth_0, T__law_worth_1, E__law_worth_2, G__law_right_0, G_law_0, G_law_2, G_law_4, T_law_5, E_law_6, G_law_7, T_law_8, E_law_9, eq_plain_later, eq_single_later, eq_next_later, eq_block_later, eq_later_later, get_plain, get_next, get_single, get_block, get_later, eq_plain_single, eq_single_single, eq_next_single, eq_block_single, eq_later_single]; try rfl))

abbrev lessN : Kd → Int × Int → List (Int × Int) → Int
  | .plain, _, _ => 0
  | .single, p, r => minusN p.1 r
  | .next, p, r => minusN p.1 r
  | .block, p, r => if p.1 < headv r then p.2 else 0
  | .later, p, r => if p.1 < maxv r then p.2 else 0
theorem row_cons (k : Kd) (p : Int × Int) (r : List (Int × Int)) : rowN k (p :: r) = (p.1, p.2 - lessN k p r, lessN k p r) :: rowN k r := by
  cases k with
  | plain => simp [rowN, plainS]
  | single => rfl
  | next => rfl
  | block => show sign _ p :: _ = (p.1, p.2 - (if p.1 < headv r then p.2 else 0), (if p.1 < headv r then p.2 else 0)) :: _; by_cases c : p.1 < headv r <;> simp [sign, c, rowN]
  | later => show sign _ p :: _ = (p.1, p.2 - (if p.1 < maxv r then p.2 else 0), (if p.1 < maxv r then p.2 else 0)) :: _; by_cases c : p.1 < maxv r <;> simp [sign, c, rowN]
theorem le_maxv : ∀ (r : List (Int × Int)), ∀ p ∈ r, p.1 ≤ maxv r
  | [], p, h => by simp at h
  | q :: r, p, h => by
    have ih := le_maxv r
    unfold maxv
    rcases List.mem_cons.mp h with e | e
    · subst e; split <;> omega
    · have := ih p e; split <;> omega
theorem maxv_mem : ∀ (r : List (Int × Int)), r ≠ [] → (∀ p ∈ r, 1 ≤ p.1) → ∃ p ∈ r, p.1 = maxv r
  | [], h, _ => absurd rfl h
  | q :: r, _, h => by
    have hq := h q List.mem_cons_self
    by_cases c : q.1 > maxv r
    · exact ⟨q, List.mem_cons_self, by unfold maxv; rw [if_pos c]⟩
    · cases r with
      | nil => exact absurd (show q.1 > 0 by omega) c
      | cons s r =>
        obtain ⟨p, hp, e⟩ := maxv_mem (s :: r) (by simp) fun x hx => h x (List.mem_cons_of_mem _ hx)
        exact ⟨p, List.mem_cons_of_mem _ hp, by rw [e, show maxv (q :: s :: r) = if q.1 > maxv (s :: r) then q.1 else maxv (s :: r) from rfl, if_neg c]⟩
theorem maxI_maxv (r : List (Int × Int)) (hn : r ≠ []) (h : ∀ p ∈ r, 1 ≤ p.1) : maxI (r.map (·.1)) = maxv r := by
  obtain ⟨m1, m2⟩ := maxI_mem (l := r.map (·.1)) (by simpa using hn)
  obtain ⟨p, hp, e⟩ := List.mem_map.mp m1
  obtain ⟨q, hq, e2⟩ := maxv_mem r hn h
  have a := le_maxv r p hp
  have b := m2 q.1 (List.mem_map_of_mem hq)
  have e' : p.1 = maxI (r.map (·.1)) := e
  omega
abbrev dueE (k : Kd) (W : List U) (acc : List U) (a b c : Slot) : Env := [.val (.str k.s), .val (.lst W), .cel true acc, a, b, c, .non, .non, .non, .non, .non, .non, .non]
theorem due_body (k : Kd) (W : List U) (n : Int) (acc : List Tr) (p : Int × Int) (r : List (Int × Int)) (hn : 0 ≤ n) (hcut : cutU W (some (n + 1)) none = r.map pU) (hp : 1 ≤ p.1) (hr : ∀ q ∈ r, 1 ≤ q.1) (hl : r.length ≤ 300) (ha : acc.length ≤ 300) :
    ∃ x y z : Slot, (B__law_due_far_4 K).m (dueE k W (acc.map tU) (.val (.int n)) (.val (.int p.1)) (.val (.int p.2))) =
      some (.nx [.val (.str k.s), .val (.lst W), .cel true ((acc ++ [(p.1, p.2 - lessN k p r, lessN k p r)]).map tU), .val (.int n), .val (.int p.1), .val (.int p.2), .non, x, y, z, .non, .non, .non]) := by
  have hacc : (acc.map tU).length < 16777216 := by rw [List.length_map]; omega
  have hm : ((acc ++ [(p.1, p.2 - lessN k p r, lessN k p r)]).map tU) = acc.map tU ++ [U.tup [.int p.1, .int (p.2 - lessN k p r), .int (lessN k p r)]] := by rw [List.map_append]; rfl
  rw [hm]
  clear hm ha
  generalize acc.map tU = AC at *
  unfold B__law_due_far_4 dueE
  cases r with
  | nil =>
    rw [List.map_nil] at hcut
    have e0 := oEq_ii (K := K) [] []
    have e1 := oNe_ii (K := K) [] []
    simp only [List.map_nil, decide_true, Bool.not_true] at e0 e1
    have el : lcM (G__law_due_far_0 K).m (T__law_due_far_1 K).m (E__law_due_far_2 K).m [10, 11] [] [] [.val (.str k.s), .val (.lst W), .cel true AC, .val (.int n), .val (.int p.1), .val (.int p.2), .non, .non, .non, .non, .non, .non, .non] = some (.ok [] [.val (.str k.s), .val (.lst W), .cel true AC, .val (.int n), .val (.int p.1), .val (.int p.2), .non, .non, .non, .non, .non, .non, .non]) := rfl
    have c0 : ¬ p.1 < 0 := by omega
    clear hr hl hn hp
    refine ⟨.val (.lst []), .val (.bl false), .val (.int (lessN k p [])), ?_⟩
    cases k <;> dsimp only [Kd.s] at el ⊢
    all_goals first | (trivial; done) | (trivial; simp [lessN, headv, maxv, c0])
  | cons q r =>
    have e0 := oEq_ii (K := K) ((q :: r).map (·.1)) []
    have e1 := oNe_ii (K := K) ((q :: r).map (·.1)) []
    have e2 := oMax_l (K := K) ((q :: r).map (·.1)) (by simp)
    rw [maxI_maxv (q :: r) (by simp) hr] at e2
    have ez : decide ((q :: r).map (·.1) = []) = false := by simp
    rw [ez] at e0 e1
    have em : ((q :: r).map (·.1)).map U.int = (q :: r).map fun x => U.int x.1 := by rw [List.map_map]; rfl
    rw [em] at e0 e1 e2
    have h0 : atI ((q :: r).map fun x => U.int x.1) 0 = some (.int q.1) := atI_get' (Int.le_refl 0) rfl
    have el : lcM (G__law_due_far_0 K).m (T__law_due_far_1 K).m (E__law_due_far_2 K).m [10, 11] ((q :: r).map pU) [] [.val (.str k.s), .val (.lst W), .cel true AC, .val (.int n), .val (.int p.1), .val (.int p.2), .non, .non, .non, .non, .non, .non, .non] =
        some (.ok ((q :: r).map fun x => U.int x.1) [.val (.str k.s), .val (.lst W), .cel true AC, .val (.int n), .val (.int p.1), .val (.int p.2), .non, .non, .non, .non, .non, .non, .non]) := by
      refine lcM_all pU (fun x => U.int x.1) (q :: r) (by omega) fun x hx => ?_
      clear e0 e1 e2 em h0 hcut ez hacc hr hl hn hp hx
      exact ⟨_, _, _, (by ac_rfl), (by ac_rfl), (by ac_rfl), rfl⟩
    have hless : ∀ z, lessN k p (q :: r) = z → lessN k p (q :: r) = z := fun _ h => h
    have e3 : (!false) = true := rfl
    rw [e3] at e1
    clear em ez hr hl hn hp hless e3
    rw [List.map_nil] at e0 e1
    generalize ((q :: r).map fun x => U.int x.1) = L at *
    generalize (q :: r).map pU = R1 at *
    generalize hM : maxv (q :: r) = M at *
    by_cases c : p.1 < q.1
    · by_cases c2 : p.1 < M
      · have c3 : ¬ M ≤ p.1 := by omega
        refine ⟨.val (.lst L), .val (.bl true), .val (.int (lessN k p (q :: r))), ?_⟩
        cases k <;> dsimp only [Kd.s] at el ⊢
        all_goals first | (trivial; done) | (trivial; simp [lessN, headv, minusN, hM, c, c2])
      · have c3 : M ≤ p.1 := by omega
        refine ⟨.val (.lst L), .val (.bl true), .val (.int (lessN k p (q :: r))), ?_⟩
        cases k <;> dsimp only [Kd.s] at el ⊢
        all_goals first | (trivial; done) | (trivial; simp [lessN, headv, minusN, hM, c, c2])
    · by_cases c2 : p.1 < M
      · have c3 : ¬ M ≤ p.1 := by omega
        refine ⟨.val (.lst L), .val (.bl false), .val (.int (lessN k p (q :: r))), ?_⟩
        cases k <;> dsimp only [Kd.s] at el ⊢
        all_goals first | (trivial; done) | (trivial; simp [lessN, headv, minusN, hM, c, c2])
      · have c3 : M ≤ p.1 := by omega
        refine ⟨.val (.lst L), .val (.bl false), .val (.int (lessN k p (q :: r))), ?_⟩
        cases k <;> dsimp only [Kd.s] at el ⊢
        all_goals first | (trivial; done) | (trivial; simp [lessN, headv, minusN, hM, c, c2])

end Sg

set_option Elab.async false
set_option linter.all false
set_option maxRecDepth 100000
set_option maxHeartbeats 1000000
namespace Sg
open PySem L2
variable {K : PySem.W.Frag}
local macro_rules | `(tactic| trivial) => `(tactic| simp (disch := omega) only [*, mC_m, mVar_m, mLook_m, mLet_m, mSc_m, mNil_m, msNil_m, msSeq_m, msAsgF_m, msDrop_m, msRet_m, msRetF_m, msRetC_m, msRetN_m, msBrk_m, msCont_m, msRaise_m, msFor_m, mtYes_m, mtOne_m, mLc_m, mcNil_m, mcCel_m, mCall_m, moNone_m, moSome_m, mSlL_m, mBi_m, mBiF_m, miList_m, miTup_m, miRng1_m, miRng2_m, miEnum_m, miZip_m, mMeth_m, mMeth0_m, msSet_m, mCat_m, mRepeat_m, mChain_m, mIsi_m, msAug_m, mRev_m, mListRng_m, mCallF_m, msParVV_m, msParFV_m, msParVF_m, mMethD_m, mNew_m, mCMeth_m, mConC_m, msTry_m, mSup_m, okE_some, okE_none, opE_ok, opE_ex, opF_ok, opF_ex, mOp_e, mOpK_e, mIx_e, unE_ok, mUn_e, coE_ok, coE_ex, coF_ok, coF_ex, mCons_e, bindAE_ok, bindAE_ex, mTup_e, tupF_e, mFr_e, lstF_ok, mLst_e, tsE_ok, tsE_ex, mTest_e, okT_some, truE_ok, truE_ex, mTru_e, anE_t, anE_f, anE_ok, orE_t, orE_f, orE_ok, mAnd_e, mOr_e, noE_ok, noE_ex, mNot_e, blV_ok, blV_ex, anV_t, anV_f, anV_ok, orV_t, orV_f, orV_ok, mAndV_e, mOrV_e, noV_ok, noV_ex, mNotV_e, ifV_t, ifV_f, ifV_ok, mIf_e, ifS_t, ifS_f, ifS_ok, ifS_ex, msIf_e, nxO_some, asE_ok, asE_ex, msAsg_e, gcE_some, mgCons_e, mgNil_e, mgTup_e, mgName_e, cvE_ok, cvE_ex, consC_ok, mcVal_e, thenS_nx, thenS_bk, thenS_ct, thenS_rt, thenS_ex, bindES_ok, bindES_ex, bindAS_ok, bindAS_ex, bindE_ok, bindE_ex, mfOf_e, mfOf0_e, noX_val, noX_cel, coM_some, fin_val, fin_cel, fin_nx, fin_ex, oAdd_i, oSub_i, oMul_l, oMul_r, oMod_i, oDiv_i, oPow_i, oLt_i, oLe_i, oGt_i, oGe_i, oEqI_i, oNeI_i, oIx_l, oIx_f, oIx_t, at1_0, at2_0, at2_1, at3_0, at3_1, at3_2, at4_0, at4_1, at4_2, at4_3, ix3_0, ix3_1, ix3_2, oIsN_non, oNotN_non, oNotN_lst, oIsN_lst, oMax2_i, oMin2_i, oAbs_i, oInt_b, oLen_l, oLen_f, oLen_t, oNeg_i, truU_i, truU_l, truU_b, truU_n, lstU_l, lstU_f, ipAdd_i, ipSub_i, oAppend_u, lstF_0, tupF_0, lstF_1, tupF_1, lstF_2, tupF_2, lstF_3, tupF_3, lstF_4, tupF_4, lstF_5, tupF_5, lstF_6, tupF_6, isi_NoneType_bool, isi_NoneType_int, isi_NoneType_str, isi_NoneType_list, isi_NoneType_tuple, isi_NoneType_dict, isi_bool_bool, isi_bool_int, isi_bool_str, isi_bool_list, isi_bool_tuple, isi_bool_dict, isi_int_bool, isi_int_int, isi_int_str, isi_int_list, isi_int_tuple, isi_int_dict, isi_str_bool, isi_str_int, isi_str_str, isi_str_list, isi_str_tuple, isi_str_dict, isi_list_bool, isi_list_int, isi_list_str, isi_list_list, isi_list_tuple, isi_list_dict, isi_tuple_bool, isi_tuple_int, isi_tuple_str, isi_tuple_list, isi_tuple_tuple, isi_tuple_dict, isi_dict_bool, isi_dict_int, isi_dict_str, isi_dict_list, isi_dict_tuple, isi_dict_dict, tyU_n, tyU_b, tyU_i, tyU_s, tyU_l, tyU_t, rngOk_i, zipU_map, intsU_map, blsU_map, oAll_l, oSum_l, oMax_l, cutU_1, cutU_m1, drop_map, reverse_map, length_map', dropLast_map, oEq_i, oNe_i, oEq_b, oNe_b, oEq_nn, oNe_nn, oEq_tt, oNe_tt, oEq_tn, oNe_tn, oEq_nt, oNe_nt, oEq_pp, oNe_pp, oEq_ii, oNe_ii, mIsiT_m, mCallL_m, lendM_ok, lendM_ex, lendA_some, lendR_b, lendR_i, lendR_n, lendR_ex, resolveL_nil, resolveL_v, resolveL_c, resC_c, mDict_m, dicO_ok, mpNil_m, mpCons_m, mpC_ok, mpC2_ok, mGet2_m, getO_some, keyU_i, keyU_s, mSortSet_m, setO_l, msTupVF_m, isiAny, List.zip_cons_cons, List.zip_nil_left, oEqS_s, oNeS_s, mCallF_m, oMul_s, miZipA_m, zpO_ok, zpP_ok, zpU_l, zpU_t, oIsN_i, oIsN_b, oIsN_t, unown, kills, cellAt, List.map_cons, List.map_nil, List.length_cons, List.length_nil, List.cons_append, List.nil_append, List.replicate, List.getElem?_cons_succ, List.getElem?_cons_zero, List.set_cons_zero, List.set_cons_succ, Option.map_some, Option.map_none, Option.bind_some, Option.bind_none, Nat.reduceAdd, Nat.reduceSub, Nat.reduceLeDiff, Int.reduceLT, Int.reduceLE, Int.reduceNeg, Int.reduceToNat, Int.reducePow, decide_eq_true_eq, reduceIte, eq_self, ite_true, ite_false, Bool.false_eq_true, reduceCtorEq, resolve, celJ, nCel, Slot.isC, List.filter, putJ, callM, callMF, List.append_eq, Nat.reduceLT, Int.reduceMul, Int.reduceAdd, Int.reduceSub, ne_eq, not_true_eq_false, not_false_eq_true, Bool.not_false, Bool.not_true, decide_true, decide_false, frF, Int.cast_ofNat_Int, Bool.and_true, Bool.true_and, Bool.false_and, Bool.and_false, Bool.or_false, Bool.false_or, Bool.true_or, Bool.or_true, eq_plain_later, eq_single_later, eq_next_later, eq_block_later, eq_later_later, eq_plain_single, eq_single_single, eq_next_single, eq_block_single, eq_later_single])
local macro_rules | `(tactic| ac_rfl) => `(tactic| (simp (disch := omega) only [*, mC_m, mVar_m, mLook_m, mLet_m, mSc_m, mNil_m, msNil_m, msSeq_m, msAsgF_m, msDrop_m, msRet_m, msRetF_m, msRetC_m, msRetN_m, msBrk_m, msCont_m, msRaise_m, msFor_m, mtYes_m, mtOne_m, mLc_m, mcNil_m, mcCel_m, mCall_m, moNone_m, moSome_m, mSlL_m, mBi_m, mBiF_m, miList_m, miTup_m, miRng1_m, miRng2_m, miEnum_m, miZip_m, mMeth_m, mMeth0_m, msSet_m, mCat_m, mRepeat_m, mChain_m, mIsi_m, msAug_m, mRev_m, mListRng_m, mCallF_m, msParVV_m, msParFV_m, msParVF_m, mMethD_m, mNew_m, mCMeth_m, mConC_m, msTry_m, mSup_m, okE_some, okE_none, opE_ok, opE_ex, opF_ok, opF_ex, mOp_e, mOpK_e, mIx_e, unE_ok, mUn_e, coE_ok, coE_ex, coF_ok, coF_ex, mCons_e, bindAE_ok, bindAE_ex, mTup_e, tupF_e, mFr_e, lstF_ok, mLst_e, tsE_ok, tsE_ex, mTest_e, okT_some, truE_ok, truE_ex, mTru_e, anE_t, anE_f, anE_ok, orE_t, orE_f, orE_ok, mAnd_e, mOr_e, noE_ok, noE_ex, mNot_e, blV_ok, blV_ex, anV_t, anV_f, anV_ok, orV_t, orV_f, orV_ok, mAndV_e, mOrV_e, noV_ok, noV_ex, mNotV_e, ifV_t, ifV_f, ifV_ok, mIf_e, ifS_t, ifS_f, ifS_ok, ifS_ex, msIf_e, nxO_some, asE_ok, asE_ex, msAsg_e, gcE_some, mgCons_e, mgNil_e, mgTup_e, mgName_e, cvE_ok, cvE_ex, consC_ok, mcVal_e, thenS_nx, thenS_bk, thenS_ct, thenS_rt, thenS_ex, bindES_ok, bindES_ex, bindAS_ok, bindAS_ex, bindE_ok, bindE_ex, mfOf_e, mfOf0_e, noX_val, noX_cel, coM_some, fin_val, fin_cel, fin_nx, fin_ex, oAdd_i, oSub_i, oMul_l, oMul_r, oMod_i, oDiv_i, oPow_i, oLt_i, oLe_i, oGt_i, oGe_i, oEqI_i, oNeI_i, oIx_l, oIx_f, oIx_t, at1_0, at2_0, at2_1, at3_0, at3_1, at3_2, at4_0, at4_1, at4_2, at4_3, ix3_0, ix3_1, ix3_2, oIsN_non, oNotN_non, oNotN_lst, oIsN_lst, oMax2_i, oMin2_i, oAbs_i, oInt_b, oLen_l, oLen_f, oLen_t, oNeg_i, truU_i, truU_l, truU_b, truU_n, lstU_l, lstU_f, ipAdd_i, ipSub_i, oAppend_u, lstF_0, tupF_0, lstF_1, tupF_1, lstF_2, tupF_2, lstF_3, tupF_3, lstF_4, tupF_4, lstF_5, tupF_5, lstF_6, tupF_6, isi_NoneType_bool, isi_NoneType_int, isi_NoneType_str, isi_NoneType_list, isi_NoneType_tuple, isi_NoneType_dict, isi_bool_bool, isi_bool_int, isi_bool_str, isi_bool_list, isi_bool_tuple, isi_bool_dict, isi_int_bool, isi_int_int, isi_int_str, isi_int_list, isi_int_tuple, isi_int_dict, isi_str_bool, isi_str_int, isi_str_str, isi_str_list, isi_str_tuple, isi_str_dict, isi_list_bool, isi_list_int, isi_list_str, isi_list_list, isi_list_tuple, isi_list_dict, isi_tuple_bool, isi_tuple_int, isi_tuple_str, isi_tuple_list, isi_tuple_tuple, isi_tuple_dict, isi_dict_bool, isi_dict_int, isi_dict_str, isi_dict_list, isi_dict_tuple, isi_dict_dict, tyU_n, tyU_b, tyU_i, tyU_s, tyU_l, tyU_t, rngOk_i, zipU_map, intsU_map, blsU_map, oAll_l, oSum_l, oMax_l, cutU_1, cutU_m1, drop_map, reverse_map, length_map', dropLast_map, oEq_i, oNe_i, oEq_b, oNe_b, oEq_nn, oNe_nn, oEq_tt, oNe_tt, oEq_tn, oNe_tn, oEq_nt, oNe_nt, oEq_pp, oNe_pp, oEq_ii, oNe_ii, mIsiT_m, mCallL_m, lendM_ok, lendM_ex, lendA_some, lendR_b, lendR_i, lendR_n, lendR_ex, resolveL_nil, resolveL_v, resolveL_c, resC_c, mDict_m, dicO_ok, mpNil_m, mpCons_m, mpC_ok, mpC2_ok, mGet2_m, getO_some, keyU_i, keyU_s, mSortSet_m, setO_l, msTupVF_m, isiAny, List.zip_cons_cons, List.zip_nil_left, oEqS_s, oNeS_s, mCallF_m, oMul_s, miZipA_m, zpO_ok, zpP_ok, zpU_l, zpU_t, oIsN_i, oIsN_b, oIsN_t, unown, kills, cellAt, List.map_cons, List.map_nil, List.length_cons, List.length_nil, List.cons_append, List.nil_append, List.replicate, List.getElem?_cons_succ, List.getElem?_cons_zero, List.set_cons_zero, List.set_cons_succ, Option.map_some, Option.map_none, Option.bind_some, Option.bind_none, Nat.reduceAdd, Nat.reduceSub, Nat.reduceLeDiff, Int.reduceLT, Int.reduceLE, Int.reduceNeg, Int.reduceToNat, Int.reducePow, decide_eq_true_eq, reduceIte, eq_self, ite_true, ite_false, Bool.false_eq_true, reduceCtorEq, resolve, celJ, nCel, Slot.isC, List.filter, putJ, callM, callMF, List.append_eq, Nat.reduceLT, Int.reduceMul, Int.reduceAdd, Int.reduceSub, ne_eq, not_true_eq_false, not_false_eq_true, Bool.not_false, Bool.not_true, decide_true, decide_false, frF, Int.cast_ofNat_Int, Bool.and_true, Bool.true_and, Bool.false_and, Bool.and_false, Bool.or_false, Bool.false_or, Bool.true_or, Bool.or_true, G__law_far_0, G__law_numbers_0, T__law_numbers_1, E__law_numbers_2, G__law_long_0, T__law_long_1, E__law_long_2, G__law_long_3, T__law_long_4, E__law_long_5, G__law_long_6, T__law_long_7, E__law_long_8, G__law_long_9, G__law_due_far_0, T__law_due_far_1, E__law_due_far_2, G__law_due_far_3, G__law_due_far_5, T__law_due_far_6, E__law_due_far_7, G__law_same_0, T__law_same_1, E__law_same_2, G__law_same_3, T__law_same_4, E__law_same_5, G_is_run_0, T_is_run_1, E_is_run_2, G_are_runs_0, T_are_runs_1, E_are_runs_2, G_are_runs_3, T_are_runs_4, E_are_runs_5, G_Plain_signs_0, T_Plain_signs_1, E_Plain_signs_2, G_Next_signs_0, G_Single_signs_0, G_Block_signs_0, G_Later_signs_0, G_Rule_total_0, T_Rule_total_1, E_Rule_total_2, G__law_worth_0, T__law_worth_1, E__law_worth_2, G__law_right_0, G_law_0, G_law_2, G_law_4, T_law_5, E_law_6, G_law_7, T_law_8, E_law_9, eq_plain_later, eq_single_later, eq_next_later, eq_block_later, eq_later_later, eq_plain_single, eq_single_single, eq_next_single, eq_block_single, eq_later_single]; try rfl))

theorem due_loop (k : Kd) (w : List (Int × Int)) (h : WordOk w) : loopM (G__law_due_far_3 K).m (B__law_due_far_4 K).m [3, 4, 5, 7, 8, 9, 10, 11] (enumU 0 (w.map pU)) (dueE k (w.map pU) [] .non .non .non) =
    some (.nx (dueE k (w.map pU) ((rowN k w).map tU) .non .non .non)) := by
  have ht := h.top
  have st := @loopM_inv (G__law_due_far_3 K).m (B__law_due_far_4 K).m [3, 4, 5, 7, 8, 9, 10, 11]
    (fun us ρ => ∃ pre suf acc, pre ++ suf = w ∧ us = enumU pre.length (suf.map pU) ∧ acc ++ rowN k suf = rowN k w ∧ acc.length = pre.length ∧ ρ = dueE k (w.map pU) (acc.map tU) .non .non .non)
  obtain ⟨ρ', e2, pre, suf, acc, hw, hu, ha, hl, rfl⟩ := st (by
    rintro u us ρ ⟨pre, suf, acc, hw, hu, ha, hl, rfl⟩
    cases suf with
    | nil => cases hu
    | cons p r =>
      obtain ⟨rfl, rfl⟩ := List.cons.inj hu
      clear hu st
      have hlen : w.length = pre.length + 1 + r.length := by rw [← hw, List.length_append, List.length_cons]; omega
      have hcut : cutU (w.map pU) (some ((pre.length : Int) + 1)) none = r.map pU := by
        rw [cutU_from _ _ (by omega), ← List.map_drop, ← hw, show ((pre.length : Int) + 1).toNat = pre.length + 1 from by omega]
        congr 1
        rw [show pre ++ p :: r = (pre ++ [p]) ++ r from by simp]
        exact List.drop_left' (by simp)
      have hr : ∀ q ∈ r, 1 ≤ q.1 := fun q hq => (h.runs q (by rw [← hw]; simp [hq])).1
      obtain ⟨x, y, z, eb⟩ := due_body (K := K) k (w.map pU) pre.length acc p r (by omega) hcut (h.runs p (by rw [← hw]; simp)).1 hr (by omega) (by omega)
      exact ⟨_, _, (by clear eb hr hcut hlen ha hw ht h hl; ac_rfl), .inl eb, pre ++ [p], r, acc ++ [(p.1, p.2 - lessN k p r, lessN k p r)], by rw [← hw]; simp, by simp, by rw [← ha, row_cons]; simp, by simp [hl], rfl⟩)
    (enumU 0 (w.map pU)) (dueE k (w.map pU) [] .non .non .non) ⟨[], w, [], rfl, rfl, rfl, rfl, rfl⟩
  rw [e2]
  cases suf with
  | cons p r => cases hu
  | nil =>
    have e : rowN k [] = [] := by cases k <;> rfl
    rw [e, List.append_nil] at ha
    rw [ha]
theorem oNe_1 {α : Type} (xs : List α) : (oNe (K := K)).f (.lst (xs.map fun _ => U.int 1)) (.lst []) = some (.bl (!decide (xs.map (fun _ => (1 : Int)) = []))) := by
  have h := oNe_ii (K := K) (xs.map fun _ => (1 : Int)) []
  rw [List.map_map] at h
  exact h
theorem due_k (k : Kd) (w : List (Int × Int)) (h : WordOk w) : mf__law_due_far K [.val (.str k.s), .val (.lst (w.map pU))] = some (.val (toldU (signsN k w)) none) := by
  have el := due_loop (K := K) k w h
  have ht := h.top
  have hz : ((rowN k w).zip ((rowN k w).drop 1)).length ≤ 16777216 := by rw [List.length_zip, row_len]; omega
  have ef : ∀ ρ : Env, ρ = dueE k (w.map pU) [] .non .non .non → True := fun _ _ => True.intro
  have ec : lcM (G__law_due_far_5 K).m (T__law_due_far_6 K).m (E__law_due_far_7 K).m [4, 12] (((rowN k w).zip ((rowN k w).drop 1)).map fun x => U.tup [tU x.1, tU x.2]) []
      [.val (.str k.s), .val (.lst (w.map pU)), .val (.lst ((rowN k w).map tU)), .non, .non, .non, .non, .non, .non, .non, .non, .non, .non] =
      some (.ok ((((rowN k w).zip ((rowN k w).drop 1)).filter clash).map fun _ => U.int 1) [.val (.str k.s), .val (.lst (w.map pU)), .val (.lst ((rowN k w).map tU)), .non, .non, .non, .non, .non, .non, .non, .non, .non, .non]) := by
    refine lcM_filter (fun x : Tr × Tr => U.tup [tU x.1, tU x.2]) (fun _ => U.int 1) clash _ hz fun x hx => ?_
    clear hx hz ht el h ef
    refine ⟨[.val (.str k.s), .val (.lst (w.map pU)), .val (.lst ((rowN k w).map tU)), .non, .val (tU x.1), .non, .non, .non, .non, .non, .non, .non, .val (tU x.2)], [.val (.str k.s), .val (.lst (w.map pU)), .val (.lst ((rowN k w).map tU)), .non, .val (tU x.1), .non, .non, .non, .non, .non, .non, .non, .val (tU x.2)], rfl, ?_, fun _ => rfl, fun _ => ⟨_, rfl, rfl⟩⟩
    unfold clash
    by_cases c : 0 < x.1.2.2
    · have z1 : decide (0 < x.1.2.2) = true := decide_eq_true c
      rw [z1, Bool.true_and]
      clear z1
      ac_rfl
    · ac_rfl
  have eo := oNe_1 (K := K) (((rowN k w).zip ((rowN k w).drop 1)).filter clash)
  have hd : ((rowN k w).map tU).drop 1 = ((rowN k w).drop 1).map tU := by rw [List.map_drop]
  have hzu := zipU_map tU tU (rowN k w) ((rowN k w).drop 1)
  unfold mf__law_due_far M__law_due_far
  unfold dueE at el
  clear h ht hz ef
  generalize hR : rowN k w = R at *
  cases k with
  | plain =>
    dsimp only [Kd.s] at el ec ⊢
    trivial
    subst hR
    rfl
  | next =>
    dsimp only [Kd.s] at el ec ⊢
    trivial
    subst hR
    rfl
  | block =>
    dsimp only [Kd.s] at el ec ⊢
    trivial
    subst hR
    rfl
  | later =>
    dsimp only [Kd.s] at el ec ⊢
    trivial
    subst hR
    rfl
  | single =>
    dsimp only [Kd.s] at el ec ⊢
    have hR' : nextS w = R := hR
    have es : signsN .single w = if (R.zip (R.drop 1)).any clash then none else some R := by
      show singleS w = _
      unfold singleS
      rw [hR']
    rw [es]
    clear es hR hR'
    cases hc : (R.zip (R.drop 1)).any clash with
    | false =>
      have z : (R.zip (R.drop 1)).filter clash = [] := by
        rw [List.filter_eq_nil_iff]
        intro x hx
        have := List.any_eq_false.mp hc x hx
        simpa using this
      rw [z] at eo ec
      simp only [List.map_nil, decide_true, Bool.not_true] at eo ec
      clear z hc
      trivial
      rfl
    | true =>
      have z : ¬ (R.zip (R.drop 1)).filter clash = [] := fun q => by
        rw [List.filter_eq_nil_iff] at q
        obtain ⟨x, hx, hy⟩ := List.any_eq_true.mp hc
        exact q x hx hy
      have z3 : decide (((R.zip (R.drop 1)).filter clash).map (fun _ => (1 : Int)) = []) = false := by simp only [List.map_eq_nil_iff, z, decide_false]
      rw [z3] at eo
      clear z z3 hc
      trivial
      rfl

end Sg

set_option Elab.async false
set_option linter.all false
set_option maxRecDepth 100000
set_option maxHeartbeats 1000000
namespace Sg
open PySem L2
variable {K : PySem.W.Frag}
local macro_rules | `(tactic| trivial) => `(tactic| simp (disch := omega) only [*, mC_m, mVar_m, mLook_m, mLet_m, mSc_m, mNil_m, msNil_m, msSeq_m, msAsgF_m, msDrop_m, msRet_m, msRetF_m, msRetC_m, msRetN_m, msBrk_m, msCont_m, msRaise_m, msFor_m, mtYes_m, mtOne_m, mLc_m, mcNil_m, mcCel_m, mCall_m, moNone_m, moSome_m, mSlL_m, mBi_m, mBiF_m, miList_m, miTup_m, miRng1_m, miRng2_m, miEnum_m, miZip_m, mMeth_m, mMeth0_m, msSet_m, mCat_m, mRepeat_m, mChain_m, mIsi_m, msAug_m, mRev_m, mListRng_m, mCallF_m, msParVV_m, msParFV_m, msParVF_m, mMethD_m, mNew_m, mCMeth_m, mConC_m, msTry_m, mSup_m, okE_some, okE_none, opE_ok, opE_ex, opF_ok, opF_ex, mOp_e, mOpK_e, mIx_e, unE_ok, mUn_e, coE_ok, coE_ex, coF_ok, coF_ex, mCons_e, bindAE_ok, bindAE_ex, mTup_e, tupF_e, mFr_e, lstF_ok, mLst_e, tsE_ok, tsE_ex, mTest_e, okT_some, truE_ok, truE_ex, mTru_e, anE_t, anE_f, anE_ok, orE_t, orE_f, orE_ok, mAnd_e, mOr_e, noE_ok, noE_ex, mNot_e, blV_ok, blV_ex, anV_t, anV_f, anV_ok, orV_t, orV_f, orV_ok, mAndV_e, mOrV_e, noV_ok, noV_ex, mNotV_e, ifV_t, ifV_f, ifV_ok, mIf_e, ifS_t, ifS_f, ifS_ok, ifS_ex, msIf_e, nxO_some, asE_ok, asE_ex, msAsg_e, gcE_some, mgCons_e, mgNil_e, mgTup_e, mgName_e, cvE_ok, cvE_ex, consC_ok, mcVal_e, thenS_nx, thenS_bk, thenS_ct, thenS_rt, thenS_ex, bindES_ok, bindES_ex, bindAS_ok, bindAS_ex, bindE_ok, bindE_ex, mfOf_e, mfOf0_e, noX_val, noX_cel, coM_some, fin_val, fin_cel, fin_nx, fin_ex, oAdd_i, oSub_i, oMul_l, oMul_r, oMod_i, oDiv_i, oPow_i, oLt_i, oLe_i, oGt_i, oGe_i, oEqI_i, oNeI_i, oIx_l, oIx_f, oIx_t, at1_0, at2_0, at2_1, at3_0, at3_1, at3_2, at4_0, at4_1, at4_2, at4_3, ix3_0, ix3_1, ix3_2, oIsN_non, oNotN_non, oNotN_lst, oIsN_lst, oMax2_i, oMin2_i, oAbs_i, oInt_b, oLen_l, oLen_f, oLen_t, oNeg_i, truU_i, truU_l, truU_b, truU_n, lstU_l, lstU_f, ipAdd_i, ipSub_i, oAppend_u, lstF_0, tupF_0, lstF_1, tupF_1, lstF_2, tupF_2, lstF_3, tupF_3, lstF_4, tupF_4, lstF_5, tupF_5, lstF_6, tupF_6, isi_NoneType_bool, isi_NoneType_int, isi_NoneType_str, isi_NoneType_list, isi_NoneType_tuple, isi_NoneType_dict, isi_bool_bool, isi_bool_int, isi_bool_str, isi_bool_list, isi_bool_tuple, isi_bool_dict, isi_int_bool, isi_int_int, isi_int_str, isi_int_list, isi_int_tuple, isi_int_dict, isi_str_bool, isi_str_int, isi_str_str, isi_str_list, isi_str_tuple, isi_str_dict, isi_list_bool, isi_list_int, isi_list_str, isi_list_list, isi_list_tuple, isi_list_dict, isi_tuple_bool, isi_tuple_int, isi_tuple_str, isi_tuple_list, isi_tuple_tuple, isi_tuple_dict, isi_dict_bool, isi_dict_int, isi_dict_str, isi_dict_list, isi_dict_tuple, isi_dict_dict, tyU_n, tyU_b, tyU_i, tyU_s, tyU_l, tyU_t, rngOk_i, zipU_map, intsU_map, blsU_map, oAll_l, oSum_l, oMax_l, cutU_1, cutU_m1, drop_map, reverse_map, length_map', dropLast_map, oEq_i, oNe_i, oEq_b, oNe_b, oEq_nn, oNe_nn, oEq_tt, oNe_tt, oEq_tn, oNe_tn, oEq_nt, oNe_nt, oEq_pp, oNe_pp, oEq_ii, oNe_ii, mIsiT_m, mCallL_m, lendM_ok, lendM_ex, lendA_some, lendR_b, lendR_i, lendR_n, lendR_ex, resolveL_nil, resolveL_v, resolveL_c, resC_c, mDict_m, dicO_ok, mpNil_m, mpCons_m, mpC_ok, mpC2_ok, mGet2_m, getO_some, keyU_i, keyU_s, mSortSet_m, setO_l, msTupVF_m, isiAny, List.zip_cons_cons, List.zip_nil_left, oEqS_s, oNeS_s, mCallF_m, oMul_s, miZipA_m, zpO_ok, zpP_ok, zpU_l, zpU_t, oIsN_i, oIsN_b, oIsN_t, unown, kills, cellAt, List.map_cons, List.map_nil, List.length_cons, List.length_nil, List.cons_append, List.nil_append, List.replicate, List.getElem?_cons_succ, List.getElem?_cons_zero, List.set_cons_zero, List.set_cons_succ, Option.map_some, Option.map_none, Option.bind_some, Option.bind_none, Nat.reduceAdd, Nat.reduceSub, Nat.reduceLeDiff, Int.reduceLT, Int.reduceLE, Int.reduceNeg, Int.reduceToNat, Int.reducePow, decide_eq_true_eq, reduceIte, eq_self, ite_true, ite_false, Bool.false_eq_true, reduceCtorEq, resolve, celJ, nCel, Slot.isC, List.filter, putJ, callM, callMF, List.append_eq, Nat.reduceLT, Int.reduceMul, Int.reduceAdd, Int.reduceSub, ne_eq, not_true_eq_false, not_false_eq_true, Bool.not_false, Bool.not_true, decide_true, decide_false, frF, Int.cast_ofNat_Int, Bool.and_true, Bool.true_and, Bool.false_and, Bool.and_false, Bool.or_false, Bool.false_or, Bool.true_or, Bool.or_true])
local macro_rules | `(tactic| ac_rfl) => `(tactic| (simp (disch := omega) only [*, mC_m, mVar_m, mLook_m, mLet_m, mSc_m, mNil_m, msNil_m, msSeq_m, msAsgF_m, msDrop_m, msRet_m, msRetF_m, msRetC_m, msRetN_m, msBrk_m, msCont_m, msRaise_m, msFor_m, mtYes_m, mtOne_m, mLc_m, mcNil_m, mcCel_m, mCall_m, moNone_m, moSome_m, mSlL_m, mBi_m, mBiF_m, miList_m, miTup_m, miRng1_m, miRng2_m, miEnum_m, miZip_m, mMeth_m, mMeth0_m, msSet_m, mCat_m, mRepeat_m, mChain_m, mIsi_m, msAug_m, mRev_m, mListRng_m, mCallF_m, msParVV_m, msParFV_m, msParVF_m, mMethD_m, mNew_m, mCMeth_m, mConC_m, msTry_m, mSup_m, okE_some, okE_none, opE_ok, opE_ex, opF_ok, opF_ex, mOp_e, mOpK_e, mIx_e, unE_ok, mUn_e, coE_ok, coE_ex, coF_ok, coF_ex, mCons_e, bindAE_ok, bindAE_ex, mTup_e, tupF_e, mFr_e, lstF_ok, mLst_e, tsE_ok, tsE_ex, mTest_e, okT_some, truE_ok, truE_ex, mTru_e, anE_t, anE_f, anE_ok, orE_t, orE_f, orE_ok, mAnd_e, mOr_e, noE_ok, noE_ex, mNot_e, blV_ok, blV_ex, anV_t, anV_f, anV_ok, orV_t, orV_f, orV_ok, mAndV_e, mOrV_e, noV_ok, noV_ex, mNotV_e, ifV_t, ifV_f, ifV_ok, mIf_e, ifS_t, ifS_f, ifS_ok, ifS_ex, msIf_e, nxO_some, asE_ok, asE_ex, msAsg_e, gcE_some, mgCons_e, mgNil_e, mgTup_e, mgName_e, cvE_ok, cvE_ex, consC_ok, mcVal_e, thenS_nx, thenS_bk, thenS_ct, thenS_rt, thenS_ex, bindES_ok, bindES_ex, bindAS_ok, bindAS_ex, bindE_ok, bindE_ex, mfOf_e, mfOf0_e, noX_val, noX_cel, coM_some, fin_val, fin_cel, fin_nx, fin_ex, oAdd_i, oSub_i, oMul_l, oMul_r, oMod_i, oDiv_i, oPow_i, oLt_i, oLe_i, oGt_i, oGe_i, oEqI_i, oNeI_i, oIx_l, oIx_f, oIx_t, at1_0, at2_0, at2_1, at3_0, at3_1, at3_2, at4_0, at4_1, at4_2, at4_3, ix3_0, ix3_1, ix3_2, oIsN_non, oNotN_non, oNotN_lst, oIsN_lst, oMax2_i, oMin2_i, oAbs_i, oInt_b, oLen_l, oLen_f, oLen_t, oNeg_i, truU_i, truU_l, truU_b, truU_n, lstU_l, lstU_f, ipAdd_i, ipSub_i, oAppend_u, lstF_0, tupF_0, lstF_1, tupF_1, lstF_2, tupF_2, lstF_3, tupF_3, lstF_4, tupF_4, lstF_5, tupF_5, lstF_6, tupF_6, isi_NoneType_bool, isi_NoneType_int, isi_NoneType_str, isi_NoneType_list, isi_NoneType_tuple, isi_NoneType_dict, isi_bool_bool, isi_bool_int, isi_bool_str, isi_bool_list, isi_bool_tuple, isi_bool_dict, isi_int_bool, isi_int_int, isi_int_str, isi_int_list, isi_int_tuple, isi_int_dict, isi_str_bool, isi_str_int, isi_str_str, isi_str_list, isi_str_tuple, isi_str_dict, isi_list_bool, isi_list_int, isi_list_str, isi_list_list, isi_list_tuple, isi_list_dict, isi_tuple_bool, isi_tuple_int, isi_tuple_str, isi_tuple_list, isi_tuple_tuple, isi_tuple_dict, isi_dict_bool, isi_dict_int, isi_dict_str, isi_dict_list, isi_dict_tuple, isi_dict_dict, tyU_n, tyU_b, tyU_i, tyU_s, tyU_l, tyU_t, rngOk_i, zipU_map, intsU_map, blsU_map, oAll_l, oSum_l, oMax_l, cutU_1, cutU_m1, drop_map, reverse_map, length_map', dropLast_map, oEq_i, oNe_i, oEq_b, oNe_b, oEq_nn, oNe_nn, oEq_tt, oNe_tt, oEq_tn, oNe_tn, oEq_nt, oNe_nt, oEq_pp, oNe_pp, oEq_ii, oNe_ii, mIsiT_m, mCallL_m, lendM_ok, lendM_ex, lendA_some, lendR_b, lendR_i, lendR_n, lendR_ex, resolveL_nil, resolveL_v, resolveL_c, resC_c, mDict_m, dicO_ok, mpNil_m, mpCons_m, mpC_ok, mpC2_ok, mGet2_m, getO_some, keyU_i, keyU_s, mSortSet_m, setO_l, msTupVF_m, isiAny, List.zip_cons_cons, List.zip_nil_left, oEqS_s, oNeS_s, mCallF_m, oMul_s, miZipA_m, zpO_ok, zpP_ok, zpU_l, zpU_t, oIsN_i, oIsN_b, oIsN_t, unown, kills, cellAt, List.map_cons, List.map_nil, List.length_cons, List.length_nil, List.cons_append, List.nil_append, List.replicate, List.getElem?_cons_succ, List.getElem?_cons_zero, List.set_cons_zero, List.set_cons_succ, Option.map_some, Option.map_none, Option.bind_some, Option.bind_none, Nat.reduceAdd, Nat.reduceSub, Nat.reduceLeDiff, Int.reduceLT, Int.reduceLE, Int.reduceNeg, Int.reduceToNat, Int.reducePow, decide_eq_true_eq, reduceIte, eq_self, ite_true, ite_false, Bool.false_eq_true, reduceCtorEq, resolve, celJ, nCel, Slot.isC, List.filter, putJ, callM, callMF, List.append_eq, Nat.reduceLT, Int.reduceMul, Int.reduceAdd, Int.reduceSub, ne_eq, not_true_eq_false, not_false_eq_true, Bool.not_false, Bool.not_true, decide_true, decide_false, frF, Int.cast_ofNat_Int, Bool.and_true, Bool.true_and, Bool.false_and, Bool.and_false, Bool.or_false, Bool.false_or, Bool.true_or, Bool.or_true, G__law_far_0, G__law_numbers_0, T__law_numbers_1, E__law_numbers_2, G__law_long_0, T__law_long_1, E__law_long_2, G__law_long_3, T__law_long_4, E__law_long_5, G__law_long_6, T__law_long_7, E__law_long_8, G__law_long_9, G__law_due_far_0, T__law_due_far_1, E__law_due_far_2, G__law_due_far_3, G__law_due_far_5, T__law_due_far_6, E__law_due_far_7, G__law_same_0, T__law_same_1, E__law_same_2, G__law_same_3, T__law_same_4, E__law_same_5, G_is_run_0, T_is_run_1, E_is_run_2, G_are_runs_0, T_are_runs_1, E_are_runs_2, G_are_runs_3, T_are_runs_4, E_are_runs_5, G_Plain_signs_0, T_Plain_signs_1, E_Plain_signs_2, G_Next_signs_0, G_Single_signs_0, G_Block_signs_0, G_Later_signs_0, G_Rule_total_0, T_Rule_total_1, E_Rule_total_2, G__law_worth_0, T__law_worth_1, E__law_worth_2, G__law_right_0, G_law_0, G_law_2, G_law_4, T_law_5, E_law_6, G_law_7, T_law_8, E_law_9]; try rfl))
/-- data whose own copy _law_same finds equal, of nesting below n -/
inductive SameU : Nat → U → Prop where
  | non {n : Nat} : SameU (n + 1) .non
  | int {n : Nat} (i : Int) : SameU (n + 1) (.int i)
  | bl {n : Nat} (b : Bool) : SameU (n + 1) (.bl b)
  | lst {n : Nat} {us : List U} (h : ∀ u ∈ us, SameU n u) (hl : us.length ≤ 16777216) : SameU (n + 1) (.lst us)
  | tup {n : Nat} {us : List U} (h : ∀ u ∈ us, SameU n u) (hl : us.length ≤ 16777216) : SameU (n + 1) (.tup us)
theorem all_tt (n : Nat) : (oAll (K := K)).f [.lst (List.replicate n (U.bl true))] = some (.bl true) := by
  have h := oAll_l (K := K) (List.replicate n true)
  rw [List.map_replicate] at h
  rw [h]
  simp
theorem zipU_self (us : List U) : zipU us us = us.map fun u => .tup [u, u] := by
  have h := zipU_map (fun u : U => u) (fun u : U => u) us us
  simp only [List.map_id'] at h
  rw [h]
  clear h
  induction us with
  | nil => rfl
  | cons u us ih => simp [ih]
theorem oNe_bb (b c : Bool) : (oNe (K := K)).f (.bl b) (.bl c) = some (.bl (!decide (b = c))) := oNe_b b c
theorem same_n : ∀ (n : Nat) (u : U), SameU n u → mr__law_same K n [.val u, .val u] = some (.val (.bl true) none)
  | 0, u, h => by cases h
  | n + 1, u, h => by
    unfold mr__law_same
    have ih := same_n n
    generalize mr__law_same K n = r at *
    have inner : ∀ (us : List U) (v : U), (∀ u ∈ us, SameU n u) → us.length ≤ 16777216 → lcM (G__law_same_3 K r).m (T__law_same_4 K r).m (E__law_same_5 K r).m [2, 3] (us.map fun u => U.tup [u, u]) [] [.val v, .val v, .non, .non] =
        some (.ok (List.replicate us.length (U.bl true)) [.val v, .val v, .non, .non]) := fun us v h hl => by
      have e := lcM_all (g := (G__law_same_3 K r).m) (tt := (T__law_same_4 K r).m) (e := (E__law_same_5 K r).m) (vs := [2, 3]) (ρ := [.val v, .val v, .non, .non]) (fun u => U.tup [u, u]) (fun _ => U.bl true) us hl fun x hx => by
        have e2 := ih x (h x hx)
        clear ih h hl hx
        exact ⟨_, _, _, (by ac_rfl), (by ac_rfl), (by ac_rfl), rfl⟩
      rw [e]
      congr 2
      exact List.map_const' 
    cases h with
    | non =>
      clear inner ih
      unfold M__law_same
      trivial
    | int i =>
      clear inner ih
      have e1 := oEq_i (K := K) i i
      unfold M__law_same
      trivial
    | bl b =>
      clear inner ih
      have e1 := oEq_b (K := K) b b
      unfold M__law_same
      trivial
    | @lst _ us h hl =>
      have e1 := inner us (.lst us) h hl
      have e2 := all_tt (K := K) us.length
      have e3 := zipU_self us
      clear inner ih h hl
      unfold M__law_same
      trivial
    | @tup _ us h hl =>
      have e1 := inner us (.tup us) h hl
      have e2 := all_tt (K := K) us.length
      have e3 := zipU_self us
      clear inner ih h hl
      unfold M__law_same
      trivial

end Sg

set_option Elab.async false
set_option linter.all false
set_option maxRecDepth 100000
set_option maxHeartbeats 1000000
namespace Sg
open PySem L2
variable {K : PySem.W.Frag}
local macro_rules | `(tactic| trivial) => `(tactic| simp (disch := omega) only [*, mC_m, mVar_m, mLook_m, mLet_m, mSc_m, mNil_m, msNil_m, msSeq_m, msAsgF_m, msDrop_m, msRet_m, msRetF_m, msRetC_m, msRetN_m, msBrk_m, msCont_m, msRaise_m, msFor_m, mtYes_m, mtOne_m, mLc_m, mcNil_m, mcCel_m, mCall_m, moNone_m, moSome_m, mSlL_m, mBi_m, mBiF_m, miList_m, miTup_m, miRng1_m, miRng2_m, miEnum_m, miZip_m, mMeth_m, mMeth0_m, msSet_m, mCat_m, mRepeat_m, mChain_m, mIsi_m, msAug_m, mRev_m, mListRng_m, mCallF_m, msParVV_m, msParFV_m, msParVF_m, mMethD_m, mNew_m, mCMeth_m, mConC_m, msTry_m, mSup_m, okE_some, okE_none, opE_ok, opE_ex, opF_ok, opF_ex, mOp_e, mOpK_e, mIx_e, unE_ok, mUn_e, coE_ok, coE_ex, coF_ok, coF_ex, mCons_e, bindAE_ok, bindAE_ex, mTup_e, tupF_e, mFr_e, lstF_ok, mLst_e, tsE_ok, tsE_ex, mTest_e, okT_some, truE_ok, truE_ex, mTru_e, anE_t, anE_f, anE_ok, orE_t, orE_f, orE_ok, mAnd_e, mOr_e, noE_ok, noE_ex, mNot_e, blV_ok, blV_ex, anV_t, anV_f, anV_ok, orV_t, orV_f, orV_ok, mAndV_e, mOrV_e, noV_ok, noV_ex, mNotV_e, ifV_t, ifV_f, ifV_ok, mIf_e, ifS_t, ifS_f, ifS_ok, ifS_ex, msIf_e, nxO_some, asE_ok, asE_ex, msAsg_e, gcE_some, mgCons_e, mgNil_e, mgTup_e, mgName_e, cvE_ok, cvE_ex, consC_ok, mcVal_e, thenS_nx, thenS_bk, thenS_ct, thenS_rt, thenS_ex, bindES_ok, bindES_ex, bindAS_ok, bindAS_ex, bindE_ok, bindE_ex, mfOf_e, mfOf0_e, noX_val, noX_cel, coM_some, fin_val, fin_cel, fin_nx, fin_ex, oAdd_i, oSub_i, oMul_l, oMul_r, oMod_i, oDiv_i, oPow_i, oLt_i, oLe_i, oGt_i, oGe_i, oEqI_i, oNeI_i, oIx_l, oIx_f, oIx_t, at1_0, at2_0, at2_1, at3_0, at3_1, at3_2, at4_0, at4_1, at4_2, at4_3, ix3_0, ix3_1, ix3_2, oIsN_non, oNotN_non, oNotN_lst, oIsN_lst, oMax2_i, oMin2_i, oAbs_i, oInt_b, oLen_l, oLen_f, oLen_t, oNeg_i, truU_i, truU_l, truU_b, truU_n, lstU_l, lstU_f, ipAdd_i, ipSub_i, oAppend_u, lstF_0, tupF_0, lstF_1, tupF_1, lstF_2, tupF_2, lstF_3, tupF_3, lstF_4, tupF_4, lstF_5, tupF_5, lstF_6, tupF_6, isi_NoneType_bool, isi_NoneType_int, isi_NoneType_str, isi_NoneType_list, isi_NoneType_tuple, isi_NoneType_dict, isi_bool_bool, isi_bool_int, isi_bool_str, isi_bool_list, isi_bool_tuple, isi_bool_dict, isi_int_bool, isi_int_int, isi_int_str, isi_int_list, isi_int_tuple, isi_int_dict, isi_str_bool, isi_str_int, isi_str_str, isi_str_list, isi_str_tuple, isi_str_dict, isi_list_bool, isi_list_int, isi_list_str, isi_list_list, isi_list_tuple, isi_list_dict, isi_tuple_bool, isi_tuple_int, isi_tuple_str, isi_tuple_list, isi_tuple_tuple, isi_tuple_dict, isi_dict_bool, isi_dict_int, isi_dict_str, isi_dict_list, isi_dict_tuple, isi_dict_dict, tyU_n, tyU_b, tyU_i, tyU_s, tyU_l, tyU_t, rngOk_i, zipU_map, intsU_map, blsU_map, oAll_l, oSum_l, oMax_l, cutU_1, cutU_m1, drop_map, reverse_map, length_map', dropLast_map, oEq_i, oNe_i, oEq_b, oNe_b, oEq_nn, oNe_nn, oEq_tt, oNe_tt, oEq_tn, oNe_tn, oEq_nt, oNe_nt, oEq_pp, oNe_pp, oEq_ii, oNe_ii, mIsiT_m, mCallL_m, lendM_ok, lendM_ex, lendA_some, lendR_b, lendR_i, lendR_n, lendR_ex, resolveL_nil, resolveL_v, resolveL_c, resC_c, mDict_m, dicO_ok, mpNil_m, mpCons_m, mpC_ok, mpC2_ok, mGet2_m, getO_some, keyU_i, keyU_s, mSortSet_m, setO_l, msTupVF_m, isiAny, List.zip_cons_cons, List.zip_nil_left, oEqS_s, oNeS_s, mCallF_m, oMul_s, miZipA_m, zpO_ok, zpP_ok, zpU_l, zpU_t, oIsN_i, oIsN_b, oIsN_t, unown, kills, cellAt, List.map_cons, List.map_nil, List.length_cons, List.length_nil, List.cons_append, List.nil_append, List.replicate, List.getElem?_cons_succ, List.getElem?_cons_zero, List.set_cons_zero, List.set_cons_succ, Option.map_some, Option.map_none, Option.bind_some, Option.bind_none, Nat.reduceAdd, Nat.reduceSub, Nat.reduceLeDiff, Int.reduceLT, Int.reduceLE, Int.reduceNeg, Int.reduceToNat, Int.reducePow, decide_eq_true_eq, reduceIte, eq_self, ite_true, ite_false, Bool.false_eq_true, reduceCtorEq, resolve, celJ, nCel, Slot.isC, List.filter, putJ, callM, callMF, List.append_eq, Nat.reduceLT, Int.reduceMul, Int.reduceAdd, Int.reduceSub, ne_eq, not_true_eq_false, not_false_eq_true, Bool.not_false, Bool.not_true, decide_true, decide_false, frF, Int.cast_ofNat_Int, Bool.and_true, Bool.true_and, Bool.false_and, Bool.and_false, Bool.or_false, Bool.false_or, Bool.true_or, Bool.or_true])
local macro_rules | `(tactic| ac_rfl) => `(tactic| (simp (disch := omega) only [*, mC_m, mVar_m, mLook_m, mLet_m, mSc_m, mNil_m, msNil_m, msSeq_m, msAsgF_m, msDrop_m, msRet_m, msRetF_m, msRetC_m, msRetN_m, msBrk_m, msCont_m, msRaise_m, msFor_m, mtYes_m, mtOne_m, mLc_m, mcNil_m, mcCel_m, mCall_m, moNone_m, moSome_m, mSlL_m, mBi_m, mBiF_m, miList_m, miTup_m, miRng1_m, miRng2_m, miEnum_m, miZip_m, mMeth_m, mMeth0_m, msSet_m, mCat_m, mRepeat_m, mChain_m, mIsi_m, msAug_m, mRev_m, mListRng_m, mCallF_m, msParVV_m, msParFV_m, msParVF_m, mMethD_m, mNew_m, mCMeth_m, mConC_m, msTry_m, mSup_m, okE_some, okE_none, opE_ok, opE_ex, opF_ok, opF_ex, mOp_e, mOpK_e, mIx_e, unE_ok, mUn_e, coE_ok, coE_ex, coF_ok, coF_ex, mCons_e, bindAE_ok, bindAE_ex, mTup_e, tupF_e, mFr_e, lstF_ok, mLst_e, tsE_ok, tsE_ex, mTest_e, okT_some, truE_ok, truE_ex, mTru_e, anE_t, anE_f, anE_ok, orE_t, orE_f, orE_ok, mAnd_e, mOr_e, noE_ok, noE_ex, mNot_e, blV_ok, blV_ex, anV_t, anV_f, anV_ok, orV_t, orV_f, orV_ok, mAndV_e, mOrV_e, noV_ok, noV_ex, mNotV_e, ifV_t, ifV_f, ifV_ok, mIf_e, ifS_t, ifS_f, ifS_ok, ifS_ex, msIf_e, nxO_some, asE_ok, asE_ex, msAsg_e, gcE_some, mgCons_e, mgNil_e, mgTup_e, mgName_e, cvE_ok, cvE_ex, consC_ok, mcVal_e, thenS_nx, thenS_bk, thenS_ct, thenS_rt, thenS_ex, bindES_ok, bindES_ex, bindAS_ok, bindAS_ex, bindE_ok, bindE_ex, mfOf_e, mfOf0_e, noX_val, noX_cel, coM_some, fin_val, fin_cel, fin_nx, fin_ex, oAdd_i, oSub_i, oMul_l, oMul_r, oMod_i, oDiv_i, oPow_i, oLt_i, oLe_i, oGt_i, oGe_i, oEqI_i, oNeI_i, oIx_l, oIx_f, oIx_t, at1_0, at2_0, at2_1, at3_0, at3_1, at3_2, at4_0, at4_1, at4_2, at4_3, ix3_0, ix3_1, ix3_2, oIsN_non, oNotN_non, oNotN_lst, oIsN_lst, oMax2_i, oMin2_i, oAbs_i, oInt_b, oLen_l, oLen_f, oLen_t, oNeg_i, truU_i, truU_l, truU_b, truU_n, lstU_l, lstU_f, ipAdd_i, ipSub_i, oAppend_u, lstF_0, tupF_0, lstF_1, tupF_1, lstF_2, tupF_2, lstF_3, tupF_3, lstF_4, tupF_4, lstF_5, tupF_5, lstF_6, tupF_6, isi_NoneType_bool, isi_NoneType_int, isi_NoneType_str, isi_NoneType_list, isi_NoneType_tuple, isi_NoneType_dict, isi_bool_bool, isi_bool_int, isi_bool_str, isi_bool_list, isi_bool_tuple, isi_bool_dict, isi_int_bool, isi_int_int, isi_int_str, isi_int_list, isi_int_tuple, isi_int_dict, isi_str_bool, isi_str_int, isi_str_str, isi_str_list, isi_str_tuple, isi_str_dict, isi_list_bool, isi_list_int, isi_list_str, isi_list_list, isi_list_tuple, isi_list_dict, isi_tuple_bool, isi_tuple_int, isi_tuple_str, isi_tuple_list, isi_tuple_tuple, isi_tuple_dict, isi_dict_bool, isi_dict_int, isi_dict_str, isi_dict_list, isi_dict_tuple, isi_dict_dict, tyU_n, tyU_b, tyU_i, tyU_s, tyU_l, tyU_t, rngOk_i, zipU_map, intsU_map, blsU_map, oAll_l, oSum_l, oMax_l, cutU_1, cutU_m1, drop_map, reverse_map, length_map', dropLast_map, oEq_i, oNe_i, oEq_b, oNe_b, oEq_nn, oNe_nn, oEq_tt, oNe_tt, oEq_tn, oNe_tn, oEq_nt, oNe_nt, oEq_pp, oNe_pp, oEq_ii, oNe_ii, mIsiT_m, mCallL_m, lendM_ok, lendM_ex, lendA_some, lendR_b, lendR_i, lendR_n, lendR_ex, resolveL_nil, resolveL_v, resolveL_c, resC_c, mDict_m, dicO_ok, mpNil_m, mpCons_m, mpC_ok, mpC2_ok, mGet2_m, getO_some, keyU_i, keyU_s, mSortSet_m, setO_l, msTupVF_m, isiAny, List.zip_cons_cons, List.zip_nil_left, oEqS_s, oNeS_s, mCallF_m, oMul_s, miZipA_m, zpO_ok, zpP_ok, zpU_l, zpU_t, oIsN_i, oIsN_b, oIsN_t, unown, kills, cellAt, List.map_cons, List.map_nil, List.length_cons, List.length_nil, List.cons_append, List.nil_append, List.replicate, List.getElem?_cons_succ, List.getElem?_cons_zero, List.set_cons_zero, List.set_cons_succ, Option.map_some, Option.map_none, Option.bind_some, Option.bind_none, Nat.reduceAdd, Nat.reduceSub, Nat.reduceLeDiff, Int.reduceLT, Int.reduceLE, Int.reduceNeg, Int.reduceToNat, Int.reducePow, decide_eq_true_eq, reduceIte, eq_self, ite_true, ite_false, Bool.false_eq_true, reduceCtorEq, resolve, celJ, nCel, Slot.isC, List.filter, putJ, callM, callMF, List.append_eq, Nat.reduceLT, Int.reduceMul, Int.reduceAdd, Int.reduceSub, ne_eq, not_true_eq_false, not_false_eq_true, Bool.not_false, Bool.not_true, decide_true, decide_false, frF, Int.cast_ofNat_Int, Bool.and_true, Bool.true_and, Bool.false_and, Bool.and_false, Bool.or_false, Bool.false_or, Bool.true_or, Bool.or_true, G__law_far_0, G__law_numbers_0, T__law_numbers_1, E__law_numbers_2, G__law_long_0, T__law_long_1, E__law_long_2, G__law_long_3, T__law_long_4, E__law_long_5, G__law_long_6, T__law_long_7, E__law_long_8, G__law_long_9, G__law_due_far_0, T__law_due_far_1, E__law_due_far_2, G__law_due_far_3, G__law_due_far_5, T__law_due_far_6, E__law_due_far_7, G__law_same_0, T__law_same_1, E__law_same_2, G__law_same_3, T__law_same_4, E__law_same_5, G_is_run_0, T_is_run_1, E_is_run_2, G_are_runs_0, T_are_runs_1, E_are_runs_2, G_are_runs_3, T_are_runs_4, E_are_runs_5, G_Plain_signs_0, T_Plain_signs_1, E_Plain_signs_2, G_Next_signs_0, G_Single_signs_0, G_Block_signs_0, G_Later_signs_0, G_Rule_total_0, T_Rule_total_1, E_Rule_total_2, G__law_worth_0, T__law_worth_1, E__law_worth_2, G__law_right_0, G_law_0, G_law_2, G_law_4, T_law_5, E_law_6, G_law_7, T_law_8, E_law_9]; try rfl))
def told4U (k : Kd) (w : List (Int × Int)) : U := match signsN k w with
  | some t => .lst [.lst (t.map tU), .int (sumN k w)]
  | none => .non
theorem total_n (k : Kd) (w : List (Int × Int)) (h : WordOk w) (hs : signsN k w = none) : mf_Rule_total K [.val (.ins k.c []), .val (.lst (w.map pU))] = some (.ex ⟨"InvalidWord", none⟩ none) := by
  obtain ⟨mf, e1, e2⟩ := signs_k (K := K) k w h
  rw [hs] at e2
  dsimp only [sigO] at e2
  have e3 := look_none "signs"
  unfold mf_Rule_total M_Rule_total
  clear hs h
  trivial
theorem told4 (k : Kd) (w : List (Int × Int)) (h : WordS w) : mf__law_told K [.val (.str k.s), .val (.lst (w.map pU))] = some (.val (told4U k w) none) := by
  have e := named_k (K := K) k
  obtain ⟨mf, e1, e2⟩ := signs_k (K := K) k w h.ok
  have e3 := look_none "signs"
  have e4 := look_none "total"
  have e5 := lookT_k (K := K) k
  unfold mf__law_told M__law_told told4U
  cases hs : signsN k w with
  | some t =>
    have e6 := total_s (K := K) k w h t hs
    rw [hs] at e2
    dsimp only [sigO] at e2
    clear hs h
    trivial
    try rfl
  | none =>
    rw [hs] at e2
    dsimp only [sigO] at e2
    clear hs h
    trivial
    try rfl
theorem worth_k (k : Kd) (w : List (Int × Int)) (h : WordS w) : mf__law_worth K [.val (.lst ((rowN k w).map tU))] = some (.val (.int (sumN k w)) none) := by
  have hb := row_bd k w h
  have hl : (rowN k w).length ≤ 16777216 := by rw [row_len]; have := h.ok.top; omega
  unfold mf__law_worth M__law_worth
  trivial
  rw [lcM_all tU (fun x => U.int (valT x)) (rowN k w) hl ?hh]
  case hh =>
    intro x hx
    obtain ⟨⟨b1, b2⟩, b3, b4⟩ := hb x hx
    clear hb hl hx h
    exact ⟨_, _, _, (by ac_rfl), (by ac_rfl), (by ac_rfl), rfl⟩
  have e4 := oSum_l (K := K) ((rowN k w).map valT)
  rw [List.map_map] at e4
  rw [show ((rowN k w).map fun x => U.int (valT x)) = (rowN k w).map (U.int ∘ valT) from rfl]
  unfold sumN
  clear hb hl h
  trivial
/-! more runs than a word has -/
theorem are_runs_long (us : List U) (h : 200 < us.length) : mf_are_runs K [.val (.lst us)] = some (.val (.bl false) none) := by
  have e3 : decide ((us.length : Int) ≤ 200) = false := by simp; omega
  have e4 : decide (1 ≤ (us.length : Int)) = true := by simp; omega
  unfold mf_are_runs M_are_runs
  trivial
theorem need_runs_long (us : List U) (h : 200 < us.length) : mf_need_runs K [.val (.lst us)] = some (.ex ⟨"InvalidWord", none⟩ none) := by
  have e := are_runs_long (K := K) us h
  unfold mf_need_runs M_need_runs
  trivial
theorem plain_long (o : U) (us : List U) (h : 200 < us.length) : mf_Plain_signs K [.val o, .val (.lst us)] = some (.ex ⟨"InvalidWord", none⟩ none) := by
  have e := need_runs_long (K := K) us h
  unfold mf_Plain_signs M_Plain_signs
  trivial
theorem next_long' (o : U) (us : List U) (h : 200 < us.length) : mf_Next_signs K [.val o, .val (.lst us)] = some (.ex ⟨"InvalidWord", none⟩ none) := by
  have e := need_runs_long (K := K) us h
  unfold mf_Next_signs M_Next_signs
  trivial
theorem block_long' (o : U) (us : List U) (h : 200 < us.length) : mf_Block_signs K [.val o, .val (.lst us)] = some (.ex ⟨"InvalidWord", none⟩ none) := by
  have e := need_runs_long (K := K) us h
  unfold mf_Block_signs M_Block_signs
  trivial
theorem single_long (us : List U) (h : 200 < us.length) : mf_Single_signs K [.val (.ins "Single" []), .val (.lst us)] = some (.ex ⟨"InvalidWord", none⟩ none) := by
  have e := next_long' (K := K) (.ins "Single" []) us h
  unfold mf_Single_signs M_Single_signs
  trivial
theorem later_long' (us : List U) (h : 200 < us.length) : mf_Later_signs K [.val (.ins "Later" []), .val (.lst us)] = some (.ex ⟨"InvalidWord", none⟩ none) := by
  have e := block_long' (K := K) (.ins "Later" []) us h
  unfold mf_Later_signs M_Later_signs
  trivial
theorem signs_long (k : Kd) (us : List U) (h : 200 < us.length) : ∃ mf, List.lookup k.c (tab_signs K) = some mf ∧ mf [.val (.ins k.c []), .val (.lst us)] = some (.ex ⟨"InvalidWord", none⟩ none) := by
  cases k with
  | plain => exact ⟨_, rfl, plain_long _ us h⟩
  | single => exact ⟨_, rfl, single_long us h⟩
  | next => exact ⟨_, rfl, next_long' _ us h⟩
  | block => exact ⟨_, rfl, block_long' _ us h⟩
  | later => exact ⟨_, rfl, later_long' us h⟩
theorem told4_long (k : Kd) (us : List U) (h : 200 < us.length) : mf__law_told K [.val (.str k.s), .val (.lst us)] = some (.val .non none) := by
  have e := named_k (K := K) k
  obtain ⟨mf, e1, e2⟩ := signs_long (K := K) k us h
  have e3 := look_none "signs"
  unfold mf__law_told M__law_told
  clear h
  trivial
  try rfl

end Sg

set_option Elab.async false
set_option linter.all false
set_option maxRecDepth 100000
set_option maxHeartbeats 1000000
namespace Sg
open PySem L2
variable {K : PySem.W.Frag}
local macro_rules | `(tactic| trivial) => `(tactic| simp (disch := omega) only [*, mC_m, mVar_m, mLook_m, mLet_m, mSc_m, mNil_m, msNil_m, msSeq_m, msAsgF_m, msDrop_m, msRet_m, msRetF_m, msRetC_m, msRetN_m, msBrk_m, msCont_m, msRaise_m, msFor_m, mtYes_m, mtOne_m, mLc_m, mcNil_m, mcCel_m, mCall_m, moNone_m, moSome_m, mSlL_m, mBi_m, mBiF_m, miList_m, miTup_m, miRng1_m, miRng2_m, miEnum_m, miZip_m, mMeth_m, mMeth0_m, msSet_m, mCat_m, mRepeat_m, mChain_m, mIsi_m, msAug_m, mRev_m, mListRng_m, mCallF_m, msParVV_m, msParFV_m, msParVF_m, mMethD_m, mNew_m, mCMeth_m, mConC_m, msTry_m, mSup_m, okE_some, okE_none, opE_ok, opE_ex, opF_ok, opF_ex, mOp_e, mOpK_e, mIx_e, unE_ok, mUn_e, coE_ok, coE_ex, coF_ok, coF_ex, mCons_e, bindAE_ok, bindAE_ex, mTup_e, tupF_e, mFr_e, lstF_ok, mLst_e, tsE_ok, tsE_ex, mTest_e, okT_some, truE_ok, truE_ex, mTru_e, anE_t, anE_f, anE_ok, orE_t, orE_f, orE_ok, mAnd_e, mOr_e, noE_ok, noE_ex, mNot_e, blV_ok, blV_ex, anV_t, anV_f, anV_ok, orV_t, orV_f, orV_ok, mAndV_e, mOrV_e, noV_ok, noV_ex, mNotV_e, ifV_t, ifV_f, ifV_ok, mIf_e, ifS_t, ifS_f, ifS_ok, ifS_ex, msIf_e, nxO_some, asE_ok, asE_ex, msAsg_e, gcE_some, mgCons_e, mgNil_e, mgTup_e, mgName_e, cvE_ok, cvE_ex, consC_ok, mcVal_e, thenS_nx, thenS_bk, thenS_ct, thenS_rt, thenS_ex, bindES_ok, bindES_ex, bindAS_ok, bindAS_ex, bindE_ok, bindE_ex, mfOf_e, mfOf0_e, noX_val, noX_cel, coM_some, fin_val, fin_cel, fin_nx, fin_ex, oAdd_i, oSub_i, oMul_l, oMul_r, oMod_i, oDiv_i, oPow_i, oLt_i, oLe_i, oGt_i, oGe_i, oEqI_i, oNeI_i, oIx_l, oIx_f, oIx_t, at1_0, at2_0, at2_1, at3_0, at3_1, at3_2, at4_0, at4_1, at4_2, at4_3, ix3_0, ix3_1, ix3_2, oIsN_non, oNotN_non, oNotN_lst, oIsN_lst, oMax2_i, oMin2_i, oAbs_i, oInt_b, oLen_l, oLen_f, oLen_t, oNeg_i, truU_i, truU_l, truU_b, truU_n, lstU_l, lstU_f, ipAdd_i, ipSub_i, oAppend_u, lstF_0, tupF_0, lstF_1, tupF_1, lstF_2, tupF_2, lstF_3, tupF_3, lstF_4, tupF_4, lstF_5, tupF_5, lstF_6, tupF_6, isi_NoneType_bool, isi_NoneType_int, isi_NoneType_str, isi_NoneType_list, isi_NoneType_tuple, isi_NoneType_dict, isi_bool_bool, isi_bool_int, isi_bool_str, isi_bool_list, isi_bool_tuple, isi_bool_dict, isi_int_bool, isi_int_int, isi_int_str, isi_int_list, isi_int_tuple, isi_int_dict, isi_str_bool, isi_str_int, isi_str_str, isi_str_list, isi_str_tuple, isi_str_dict, isi_list_bool, isi_list_int, isi_list_str, isi_list_list, isi_list_tuple, isi_list_dict, isi_tuple_bool, isi_tuple_int, isi_tuple_str, isi_tuple_list, isi_tuple_tuple, isi_tuple_dict, isi_dict_bool, isi_dict_int, isi_dict_str, isi_dict_list, isi_dict_tuple, isi_dict_dict, tyU_n, tyU_b, tyU_i, tyU_s, tyU_l, tyU_t, rngOk_i, zipU_map, intsU_map, blsU_map, oAll_l, oSum_l, oMax_l, cutU_1, cutU_m1, drop_map, reverse_map, length_map', dropLast_map, oEq_i, oNe_i, oEq_b, oNe_b, oEq_nn, oNe_nn, oEq_tt, oNe_tt, oEq_tn, oNe_tn, oEq_nt, oNe_nt, oEq_pp, oNe_pp, oEq_ii, oNe_ii, mIsiT_m, mCallL_m, lendM_ok, lendM_ex, lendA_some, lendR_b, lendR_i, lendR_n, lendR_ex, resolveL_nil, resolveL_v, resolveL_c, resC_c, mDict_m, dicO_ok, mpNil_m, mpCons_m, mpC_ok, mpC2_ok, mGet2_m, getO_some, keyU_i, keyU_s, mSortSet_m, setO_l, msTupVF_m, isiAny, List.zip_cons_cons, List.zip_nil_left, oEqS_s, oNeS_s, mCallF_m, oMul_s, miZipA_m, zpO_ok, zpP_ok, zpU_l, zpU_t, oIsN_i, oIsN_b, oIsN_t, unown, kills, cellAt, List.map_cons, List.map_nil, List.length_cons, List.length_nil, List.cons_append, List.nil_append, List.replicate, List.getElem?_cons_succ, List.getElem?_cons_zero, List.set_cons_zero, List.set_cons_succ, Option.map_some, Option.map_none, Option.bind_some, Option.bind_none, Nat.reduceAdd, Nat.reduceSub, Nat.reduceLeDiff, Int.reduceLT, Int.reduceLE, Int.reduceNeg, Int.reduceToNat, Int.reducePow, decide_eq_true_eq, reduceIte, eq_self, ite_true, ite_false, Bool.false_eq_true, reduceCtorEq, resolve, celJ, nCel, Slot.isC, List.filter, putJ, callM, callMF, List.append_eq, Nat.reduceLT, Int.reduceMul, Int.reduceAdd, Int.reduceSub, ne_eq, not_true_eq_false, not_false_eq_true, Bool.not_false, Bool.not_true, decide_true, decide_false, frF, Int.cast_ofNat_Int, Bool.and_true, Bool.true_and, Bool.false_and, Bool.and_false, Bool.or_false, Bool.false_or, Bool.true_or, Bool.or_true])
local macro_rules | `(tactic| ac_rfl) => `(tactic| (simp (disch := omega) only [*, mC_m, mVar_m, mLook_m, mLet_m, mSc_m, mNil_m, msNil_m, msSeq_m, msAsgF_m, msDrop_m, msRet_m, msRetF_m, msRetC_m, msRetN_m, msBrk_m, msCont_m, msRaise_m, msFor_m, mtYes_m, mtOne_m, mLc_m, mcNil_m, mcCel_m, mCall_m, moNone_m, moSome_m, mSlL_m, mBi_m, mBiF_m, miList_m, miTup_m, miRng1_m, miRng2_m, miEnum_m, miZip_m, mMeth_m, mMeth0_m, msSet_m, mCat_m, mRepeat_m, mChain_m, mIsi_m, msAug_m, mRev_m, mListRng_m, mCallF_m, msParVV_m, msParFV_m, msParVF_m, mMethD_m, mNew_m, mCMeth_m, mConC_m, msTry_m, mSup_m, okE_some, okE_none, opE_ok, opE_ex, opF_ok, opF_ex, mOp_e, mOpK_e, mIx_e, unE_ok, mUn_e, coE_ok, coE_ex, coF_ok, coF_ex, mCons_e, bindAE_ok, bindAE_ex, mTup_e, tupF_e, mFr_e, lstF_ok, mLst_e, tsE_ok, tsE_ex, mTest_e, okT_some, truE_ok, truE_ex, mTru_e, anE_t, anE_f, anE_ok, orE_t, orE_f, orE_ok, mAnd_e, mOr_e, noE_ok, noE_ex, mNot_e, blV_ok, blV_ex, anV_t, anV_f, anV_ok, orV_t, orV_f, orV_ok, mAndV_e, mOrV_e, noV_ok, noV_ex, mNotV_e, ifV_t, ifV_f, ifV_ok, mIf_e, ifS_t, ifS_f, ifS_ok, ifS_ex, msIf_e, nxO_some, asE_ok, asE_ex, msAsg_e, gcE_some, mgCons_e, mgNil_e, mgTup_e, mgName_e, cvE_ok, cvE_ex, consC_ok, mcVal_e, thenS_nx, thenS_bk, thenS_ct, thenS_rt, thenS_ex, bindES_ok, bindES_ex, bindAS_ok, bindAS_ex, bindE_ok, bindE_ex, mfOf_e, mfOf0_e, noX_val, noX_cel, coM_some, fin_val, fin_cel, fin_nx, fin_ex, oAdd_i, oSub_i, oMul_l, oMul_r, oMod_i, oDiv_i, oPow_i, oLt_i, oLe_i, oGt_i, oGe_i, oEqI_i, oNeI_i, oIx_l, oIx_f, oIx_t, at1_0, at2_0, at2_1, at3_0, at3_1, at3_2, at4_0, at4_1, at4_2, at4_3, ix3_0, ix3_1, ix3_2, oIsN_non, oNotN_non, oNotN_lst, oIsN_lst, oMax2_i, oMin2_i, oAbs_i, oInt_b, oLen_l, oLen_f, oLen_t, oNeg_i, truU_i, truU_l, truU_b, truU_n, lstU_l, lstU_f, ipAdd_i, ipSub_i, oAppend_u, lstF_0, tupF_0, lstF_1, tupF_1, lstF_2, tupF_2, lstF_3, tupF_3, lstF_4, tupF_4, lstF_5, tupF_5, lstF_6, tupF_6, isi_NoneType_bool, isi_NoneType_int, isi_NoneType_str, isi_NoneType_list, isi_NoneType_tuple, isi_NoneType_dict, isi_bool_bool, isi_bool_int, isi_bool_str, isi_bool_list, isi_bool_tuple, isi_bool_dict, isi_int_bool, isi_int_int, isi_int_str, isi_int_list, isi_int_tuple, isi_int_dict, isi_str_bool, isi_str_int, isi_str_str, isi_str_list, isi_str_tuple, isi_str_dict, isi_list_bool, isi_list_int, isi_list_str, isi_list_list, isi_list_tuple, isi_list_dict, isi_tuple_bool, isi_tuple_int, isi_tuple_str, isi_tuple_list, isi_tuple_tuple, isi_tuple_dict, isi_dict_bool, isi_dict_int, isi_dict_str, isi_dict_list, isi_dict_tuple, isi_dict_dict, tyU_n, tyU_b, tyU_i, tyU_s, tyU_l, tyU_t, rngOk_i, zipU_map, intsU_map, blsU_map, oAll_l, oSum_l, oMax_l, cutU_1, cutU_m1, drop_map, reverse_map, length_map', dropLast_map, oEq_i, oNe_i, oEq_b, oNe_b, oEq_nn, oNe_nn, oEq_tt, oNe_tt, oEq_tn, oNe_tn, oEq_nt, oNe_nt, oEq_pp, oNe_pp, oEq_ii, oNe_ii, mIsiT_m, mCallL_m, lendM_ok, lendM_ex, lendA_some, lendR_b, lendR_i, lendR_n, lendR_ex, resolveL_nil, resolveL_v, resolveL_c, resC_c, mDict_m, dicO_ok, mpNil_m, mpCons_m, mpC_ok, mpC2_ok, mGet2_m, getO_some, keyU_i, keyU_s, mSortSet_m, setO_l, msTupVF_m, isiAny, List.zip_cons_cons, List.zip_nil_left, oEqS_s, oNeS_s, mCallF_m, oMul_s, miZipA_m, zpO_ok, zpP_ok, zpU_l, zpU_t, oIsN_i, oIsN_b, oIsN_t, unown, kills, cellAt, List.map_cons, List.map_nil, List.length_cons, List.length_nil, List.cons_append, List.nil_append, List.replicate, List.getElem?_cons_succ, List.getElem?_cons_zero, List.set_cons_zero, List.set_cons_succ, Option.map_some, Option.map_none, Option.bind_some, Option.bind_none, Nat.reduceAdd, Nat.reduceSub, Nat.reduceLeDiff, Int.reduceLT, Int.reduceLE, Int.reduceNeg, Int.reduceToNat, Int.reducePow, decide_eq_true_eq, reduceIte, eq_self, ite_true, ite_false, Bool.false_eq_true, reduceCtorEq, resolve, celJ, nCel, Slot.isC, List.filter, putJ, callM, callMF, List.append_eq, Nat.reduceLT, Int.reduceMul, Int.reduceAdd, Int.reduceSub, ne_eq, not_true_eq_false, not_false_eq_true, Bool.not_false, Bool.not_true, decide_true, decide_false, frF, Int.cast_ofNat_Int, Bool.and_true, Bool.true_and, Bool.false_and, Bool.and_false, Bool.or_false, Bool.false_or, Bool.true_or, Bool.or_true, G__law_far_0, G__law_numbers_0, T__law_numbers_1, E__law_numbers_2, G__law_long_0, T__law_long_1, E__law_long_2, G__law_long_3, T__law_long_4, E__law_long_5, G__law_long_6, T__law_long_7, E__law_long_8, G__law_long_9, G__law_due_far_0, T__law_due_far_1, E__law_due_far_2, G__law_due_far_3, G__law_due_far_5, T__law_due_far_6, E__law_due_far_7, G__law_same_0, T__law_same_1, E__law_same_2, G__law_same_3, T__law_same_4, E__law_same_5, G_is_run_0, T_is_run_1, E_is_run_2, G_are_runs_0, T_are_runs_1, E_are_runs_2, G_are_runs_3, T_are_runs_4, E_are_runs_5, G_Plain_signs_0, T_Plain_signs_1, E_Plain_signs_2, G_Next_signs_0, G_Single_signs_0, G_Block_signs_0, G_Later_signs_0, G_Rule_total_0, T_Rule_total_1, E_Rule_total_2, G__law_worth_0, T__law_worth_1, E__law_worth_2, G__law_right_0, G_law_0, G_law_2, G_law_4, T_law_5, E_law_6, G_law_7, T_law_8, E_law_9]; try rfl))
theorem sameT (n : Nat) (t : List Tr) (h : t.length ≤ 16777216) : SameU (n + 3) (.lst (t.map tU)) := by
  refine .lst (fun u hu => ?_) (by rw [List.length_map]; exact h)
  obtain ⟨x, _, rfl⟩ := List.mem_map.mp hu
  refine .tup (fun v hv => ?_) (by simp)
  simp only [List.mem_cons, List.not_mem_nil, or_false] at hv
  rcases hv with rfl | rfl | rfl <;> exact .int _
theorem sameTold (k : Kd) (w : List (Int × Int)) (h : w.length ≤ 1000) : SameU 5 (told4U k w) := by
  unfold told4U
  split
  · rename_i t ht
    have e := signs_some k w t ht
    refine .lst (fun u hu => ?_) (by simp)
    simp only [List.mem_cons, List.not_mem_nil, or_false] at hu
    rcases hu with rfl | rfl
    · exact sameT 1 t (by rw [e, row_len]; omega)
    · exact .int _
  · exact .non
theorem right_body (k : Kd) (w : List (Int × Int)) (h : WordS w) (kp : U) : ∃ x : Slot, (B__law_right_1 K).m [.val (.lst (w.map pU)), .val kp, .val (.str k.s), .non] = some (.nx [.val (.lst (w.map pU)), .val kp, .val (.str k.s), x]) := by
  have e1 := due_k (K := K) k w h.ok
  have e2 := told4 (K := K) k w h
  have e3 := same_n (K := K) 5 _ (sameTold k w (by have := h.ok.top; omega))
  have e5 : mr__law_same K 5 = mf__law_same K := rfl
  rw [e5] at e3
  clear e5
  unfold B__law_right_1
  cases hs : signsN k w with
  | none =>
    rw [hs] at e1
    have e4 : told4U k w = .non := by unfold told4U; rw [hs]
    rw [e4] at e2 e3
    dsimp only [toldU] at e1
    clear hs e4 h
    refine ⟨.val .non, ?_⟩
    trivial
  | some t =>
    have et := signs_some k w t hs
    subst et
    rw [hs] at e1
    have e4 : told4U k w = .lst [.lst ((rowN k w).map tU), .int (sumN k w)] := by unfold told4U; rw [hs]
    rw [e4] at e2 e3
    dsimp only [toldU] at e1
    have e6 := worth_k (K := K) k w h
    clear hs e4 h
    generalize (rowN k w).map tU = R at *
    refine ⟨.val (.lst R), ?_⟩
    trivial
theorem right4 (w : List (Int × Int)) (h : WordS w) : mf__law_right K [.val (.lst (w.map pU))] = some (.val (.bl true) none) := by
  obtain ⟨s, es⟩ := repr_pairs (K := K) w (fun p hp => by
    obtain ⟨a, b⟩ := h.sm p hp
    obtain ⟨c, d⟩ := h.ok.runs p hp
    unfold Small
    omega) (by have := h.ok.top; omega)
  obtain ⟨x1, b1⟩ := right_body (K := K) .plain w h (.str s)
  obtain ⟨x2, b2⟩ := right_body (K := K) .single w h (.str s)
  obtain ⟨x3, b3⟩ := right_body (K := K) .next w h (.str s)
  obtain ⟨x4, b4⟩ := right_body (K := K) .block w h (.str s)
  obtain ⟨x5, b5⟩ := right_body (K := K) .later w h (.str s)
  dsimp only [Kd.s] at b1 b2 b3 b4 b5
  have eL : loopM (G__law_right_0 K).m (B__law_right_1 K).m [2, 3] [.str "plain", .str "single", .str "next", .str "block", .str "later"] [.val (.lst (w.map pU)), .val (.str s), .non, .non] = some (.nx [.val (.lst (w.map pU)), .val (.str s), .non, .non]) := by
    simp only [loopM, G__law_right_0, mgName_e, List.set_cons_zero, List.set_cons_succ, b1, b2, b3, b4, b5, kills]
  clear b1 b2 b3 b4 b5 h
  unfold mf__law_right M__law_right
  trivial

end Sg

set_option Elab.async false
set_option linter.all false
set_option maxRecDepth 100000
set_option maxHeartbeats 1000000
namespace Sg
open PySem L2
variable {K : PySem.W.Frag}
local macro_rules | `(tactic| trivial) => `(tactic| simp (disch := omega) only [*, mC_m, mVar_m, mLook_m, mLet_m, mSc_m, mNil_m, msNil_m, msSeq_m, msAsgF_m, msDrop_m, msRet_m, msRetF_m, msRetC_m, msRetN_m, msBrk_m, msCont_m, msRaise_m, msFor_m, mtYes_m, mtOne_m, mLc_m, mcNil_m, mcCel_m, mCall_m, moNone_m, moSome_m, mSlL_m, mBi_m, mBiF_m, miList_m, miTup_m, miRng1_m, miRng2_m, miEnum_m, miZip_m, mMeth_m, mMeth0_m, msSet_m, mCat_m, mRepeat_m, mChain_m, mIsi_m, msAug_m, mRev_m, mListRng_m, mCallF_m, msParVV_m, msParFV_m, msParVF_m, mMethD_m, mNew_m, mCMeth_m, mConC_m, msTry_m, mSup_m, okE_some, okE_none, opE_ok, opE_ex, opF_ok, opF_ex, mOp_e, mOpK_e, mIx_e, unE_ok, mUn_e, coE_ok, coE_ex, coF_ok, coF_ex, mCons_e, bindAE_ok, bindAE_ex, mTup_e, tupF_e, mFr_e, lstF_ok, mLst_e, tsE_ok, tsE_ex, mTest_e, okT_some, truE_ok, truE_ex, mTru_e, anE_t, anE_f, anE_ok, orE_t, orE_f, orE_ok, mAnd_e, mOr_e, noE_ok, noE_ex, mNot_e, blV_ok, blV_ex, anV_t, anV_f, anV_ok, orV_t, orV_f, orV_ok, mAndV_e, mOrV_e, noV_ok, noV_ex, mNotV_e, ifV_t, ifV_f, ifV_ok, mIf_e, ifS_t, ifS_f, ifS_ok, ifS_ex, msIf_e, nxO_some, asE_ok, asE_ex, msAsg_e, gcE_some, mgCons_e, mgNil_e, mgTup_e, mgName_e, cvE_ok, cvE_ex, consC_ok, mcVal_e, thenS_nx, thenS_bk, thenS_ct, thenS_rt, thenS_ex, bindES_ok, bindES_ex, bindAS_ok, bindAS_ex, bindE_ok, bindE_ex, mfOf_e, mfOf0_e, noX_val, noX_cel, coM_some, fin_val, fin_cel, fin_nx, fin_ex, oAdd_i, oSub_i, oMul_l, oMul_r, oMod_i, oDiv_i, oPow_i, oLt_i, oLe_i, oGt_i, oGe_i, oEqI_i, oNeI_i, oIx_l, oIx_f, oIx_t, at1_0, at2_0, at2_1, at3_0, at3_1, at3_2, at4_0, at4_1, at4_2, at4_3, ix3_0, ix3_1, ix3_2, oIsN_non, oNotN_non, oNotN_lst, oIsN_lst, oMax2_i, oMin2_i, oAbs_i, oInt_b, oLen_l, oLen_f, oLen_t, oNeg_i, truU_i, truU_l, truU_b, truU_n, lstU_l, lstU_f, ipAdd_i, ipSub_i, oAppend_u, lstF_0, tupF_0, lstF_1, tupF_1, lstF_2, tupF_2, lstF_3, tupF_3, lstF_4, tupF_4, lstF_5, tupF_5, lstF_6, tupF_6, isi_NoneType_bool, isi_NoneType_int, isi_NoneType_str, isi_NoneType_list, isi_NoneType_tuple, isi_NoneType_dict, isi_bool_bool, isi_bool_int, isi_bool_str, isi_bool_list, isi_bool_tuple, isi_bool_dict, isi_int_bool, isi_int_int, isi_int_str, isi_int_list, isi_int_tuple, isi_int_dict, isi_str_bool, isi_str_int, isi_str_str, isi_str_list, isi_str_tuple, isi_str_dict, isi_list_bool, isi_list_int, isi_list_str, isi_list_list, isi_list_tuple, isi_list_dict, isi_tuple_bool, isi_tuple_int, isi_tuple_str, isi_tuple_list, isi_tuple_tuple, isi_tuple_dict, isi_dict_bool, isi_dict_int, isi_dict_str, isi_dict_list, isi_dict_tuple, isi_dict_dict, tyU_n, tyU_b, tyU_i, tyU_s, tyU_l, tyU_t, rngOk_i, zipU_map, intsU_map, blsU_map, oAll_l, oSum_l, oMax_l, cutU_1, cutU_m1, drop_map, reverse_map, length_map', dropLast_map, oEq_i, oNe_i, oEq_b, oNe_b, oEq_nn, oNe_nn, oEq_tt, oNe_tt, oEq_tn, oNe_tn, oEq_nt, oNe_nt, oEq_pp, oNe_pp, oEq_ii, oNe_ii, mIsiT_m, mCallL_m, lendM_ok, lendM_ex, lendA_some, lendR_b, lendR_i, lendR_n, lendR_ex, resolveL_nil, resolveL_v, resolveL_c, resC_c, mDict_m, dicO_ok, mpNil_m, mpCons_m, mpC_ok, mpC2_ok, mGet2_m, getO_some, keyU_i, keyU_s, mSortSet_m, setO_l, msTupVF_m, isiAny, List.zip_cons_cons, List.zip_nil_left, oEqS_s, oNeS_s, mCallF_m, oMul_s, miZipA_m, zpO_ok, zpP_ok, zpU_l, zpU_t, oIsN_i, oIsN_b, oIsN_t, unown, kills, cellAt, List.map_cons, List.map_nil, List.length_cons, List.length_nil, List.cons_append, List.nil_append, List.replicate, List.getElem?_cons_succ, List.getElem?_cons_zero, List.set_cons_zero, List.set_cons_succ, Option.map_some, Option.map_none, Option.bind_some, Option.bind_none, Nat.reduceAdd, Nat.reduceSub, Nat.reduceLeDiff, Int.reduceLT, Int.reduceLE, Int.reduceNeg, Int.reduceToNat, Int.reducePow, decide_eq_true_eq, reduceIte, eq_self, ite_true, ite_false, Bool.false_eq_true, reduceCtorEq, resolve, celJ, nCel, Slot.isC, List.filter, putJ, callM, callMF, List.append_eq, Nat.reduceLT, Int.reduceMul, Int.reduceAdd, Int.reduceSub, ne_eq, not_true_eq_false, not_false_eq_true, Bool.not_false, Bool.not_true, decide_true, decide_false, frF, Int.cast_ofNat_Int, Bool.and_true, Bool.true_and, Bool.false_and, Bool.and_false, Bool.or_false, Bool.false_or, Bool.true_or, Bool.or_true])
local macro_rules | `(tactic| ac_rfl) => `(tactic| (simp (disch := omega) only [*, mC_m, mVar_m, mLook_m, mLet_m, mSc_m, mNil_m, msNil_m, msSeq_m, msAsgF_m, msDrop_m, msRet_m, msRetF_m, msRetC_m, msRetN_m, msBrk_m, msCont_m, msRaise_m, msFor_m, mtYes_m, mtOne_m, mLc_m, mcNil_m, mcCel_m, mCall_m, moNone_m, moSome_m, mSlL_m, mBi_m, mBiF_m, miList_m, miTup_m, miRng1_m, miRng2_m, miEnum_m, miZip_m, mMeth_m, mMeth0_m, msSet_m, mCat_m, mRepeat_m, mChain_m, mIsi_m, msAug_m, mRev_m, mListRng_m, mCallF_m, msParVV_m, msParFV_m, msParVF_m, mMethD_m, mNew_m, mCMeth_m, mConC_m, msTry_m, mSup_m, okE_some, okE_none, opE_ok, opE_ex, opF_ok, opF_ex, mOp_e, mOpK_e, mIx_e, unE_ok, mUn_e, coE_ok, coE_ex, coF_ok, coF_ex, mCons_e, bindAE_ok, bindAE_ex, mTup_e, tupF_e, mFr_e, lstF_ok, mLst_e, tsE_ok, tsE_ex, mTest_e, okT_some, truE_ok, truE_ex, mTru_e, anE_t, anE_f, anE_ok, orE_t, orE_f, orE_ok, mAnd_e, mOr_e, noE_ok, noE_ex, mNot_e, blV_ok, blV_ex, anV_t, anV_f, anV_ok, orV_t, orV_f, orV_ok, mAndV_e, mOrV_e, noV_ok, noV_ex, mNotV_e, ifV_t, ifV_f, ifV_ok, mIf_e, ifS_t, ifS_f, ifS_ok, ifS_ex, msIf_e, nxO_some, asE_ok, asE_ex, msAsg_e, gcE_some, mgCons_e, mgNil_e, mgTup_e, mgName_e, cvE_ok, cvE_ex, consC_ok, mcVal_e, thenS_nx, thenS_bk, thenS_ct, thenS_rt, thenS_ex, bindES_ok, bindES_ex, bindAS_ok, bindAS_ex, bindE_ok, bindE_ex, mfOf_e, mfOf0_e, noX_val, noX_cel, coM_some, fin_val, fin_cel, fin_nx, fin_ex, oAdd_i, oSub_i, oMul_l, oMul_r, oMod_i, oDiv_i, oPow_i, oLt_i, oLe_i, oGt_i, oGe_i, oEqI_i, oNeI_i, oIx_l, oIx_f, oIx_t, at1_0, at2_0, at2_1, at3_0, at3_1, at3_2, at4_0, at4_1, at4_2, at4_3, ix3_0, ix3_1, ix3_2, oIsN_non, oNotN_non, oNotN_lst, oIsN_lst, oMax2_i, oMin2_i, oAbs_i, oInt_b, oLen_l, oLen_f, oLen_t, oNeg_i, truU_i, truU_l, truU_b, truU_n, lstU_l, lstU_f, ipAdd_i, ipSub_i, oAppend_u, lstF_0, tupF_0, lstF_1, tupF_1, lstF_2, tupF_2, lstF_3, tupF_3, lstF_4, tupF_4, lstF_5, tupF_5, lstF_6, tupF_6, isi_NoneType_bool, isi_NoneType_int, isi_NoneType_str, isi_NoneType_list, isi_NoneType_tuple, isi_NoneType_dict, isi_bool_bool, isi_bool_int, isi_bool_str, isi_bool_list, isi_bool_tuple, isi_bool_dict, isi_int_bool, isi_int_int, isi_int_str, isi_int_list, isi_int_tuple, isi_int_dict, isi_str_bool, isi_str_int, isi_str_str, isi_str_list, isi_str_tuple, isi_str_dict, isi_list_bool, isi_list_int, isi_list_str, isi_list_list, isi_list_tuple, isi_list_dict, isi_tuple_bool, isi_tuple_int, isi_tuple_str, isi_tuple_list, isi_tuple_tuple, isi_tuple_dict, isi_dict_bool, isi_dict_int, isi_dict_str, isi_dict_list, isi_dict_tuple, isi_dict_dict, tyU_n, tyU_b, tyU_i, tyU_s, tyU_l, tyU_t, rngOk_i, zipU_map, intsU_map, blsU_map, oAll_l, oSum_l, oMax_l, cutU_1, cutU_m1, drop_map, reverse_map, length_map', dropLast_map, oEq_i, oNe_i, oEq_b, oNe_b, oEq_nn, oNe_nn, oEq_tt, oNe_tt, oEq_tn, oNe_tn, oEq_nt, oNe_nt, oEq_pp, oNe_pp, oEq_ii, oNe_ii, mIsiT_m, mCallL_m, lendM_ok, lendM_ex, lendA_some, lendR_b, lendR_i, lendR_n, lendR_ex, resolveL_nil, resolveL_v, resolveL_c, resC_c, mDict_m, dicO_ok, mpNil_m, mpCons_m, mpC_ok, mpC2_ok, mGet2_m, getO_some, keyU_i, keyU_s, mSortSet_m, setO_l, msTupVF_m, isiAny, List.zip_cons_cons, List.zip_nil_left, oEqS_s, oNeS_s, mCallF_m, oMul_s, miZipA_m, zpO_ok, zpP_ok, zpU_l, zpU_t, oIsN_i, oIsN_b, oIsN_t, unown, kills, cellAt, List.map_cons, List.map_nil, List.length_cons, List.length_nil, List.cons_append, List.nil_append, List.replicate, List.getElem?_cons_succ, List.getElem?_cons_zero, List.set_cons_zero, List.set_cons_succ, Option.map_some, Option.map_none, Option.bind_some, Option.bind_none, Nat.reduceAdd, Nat.reduceSub, Nat.reduceLeDiff, Int.reduceLT, Int.reduceLE, Int.reduceNeg, Int.reduceToNat, Int.reducePow, decide_eq_true_eq, reduceIte, eq_self, ite_true, ite_false, Bool.false_eq_true, reduceCtorEq, resolve, celJ, nCel, Slot.isC, List.filter, putJ, callM, callMF, List.append_eq, Nat.reduceLT, Int.reduceMul, Int.reduceAdd, Int.reduceSub, ne_eq, not_true_eq_false, not_false_eq_true, Bool.not_false, Bool.not_true, decide_true, decide_false, frF, Int.cast_ofNat_Int, Bool.and_true, Bool.true_and, Bool.false_and, Bool.and_false, Bool.or_false, Bool.false_or, Bool.true_or, Bool.or_true, G__law_far_0, G__law_numbers_0, T__law_numbers_1, E__law_numbers_2, G__law_long_0, T__law_long_1, E__law_long_2, G__law_long_3, T__law_long_4, E__law_long_5, G__law_long_6, T__law_long_7, E__law_long_8, G__law_long_9, G__law_due_far_0, T__law_due_far_1, E__law_due_far_2, G__law_due_far_3, G__law_due_far_5, T__law_due_far_6, E__law_due_far_7, G__law_same_0, T__law_same_1, E__law_same_2, G__law_same_3, T__law_same_4, E__law_same_5, G_is_run_0, T_is_run_1, E_is_run_2, G_are_runs_0, T_are_runs_1, E_are_runs_2, G_are_runs_3, T_are_runs_4, E_are_runs_5, G_Plain_signs_0, T_Plain_signs_1, E_Plain_signs_2, G_Next_signs_0, G_Single_signs_0, G_Block_signs_0, G_Later_signs_0, G_Rule_total_0, T_Rule_total_1, E_Rule_total_2, G__law_worth_0, T__law_worth_1, E__law_worth_2, G__law_right_0, G_law_0, G_law_2, G_law_4, T_law_5, E_law_6, G_law_7, T_law_8, E_law_9]; try rfl))
theorem far_step (g : List U) (x : Int) (t : U) (hg : Feed g) : ∃ g' y, Feed g' ∧ 0 ≤ y ∧ y < 1000000000000 ∧ (B__law_far_1 K).m [.cel false g, .val (.int x), .val t] = some (.nx [.cel false g', .val (.int (x * 1000000000000 + y)), .val t]) := by
  obtain ⟨y, g', y0, y1, hg', e⟩ := pick_k (K := K) false g 1000000000000 hg (by omega) (by omega)
  refine ⟨g', y, hg', y0, y1, ?_⟩
  clear y0 y1
  unfold B__law_far_1
  trivial
theorem far_k (own : Bool) (f : List U) (hf : Feed f) : ∃ x f', Feed f' ∧ 1 ≤ x ∧ x < 1000000000000000000000000000000000000000000000000000000000000 ∧ mf__law_far K [.cel own f] = some (.val (.int x) (some f')) := by
  obtain ⟨g1, y1, h1, a1, b1, e1⟩ := far_step (K := K) f 0 (.int 0) hf
  obtain ⟨g2, y2, h2, a2, b2, e2⟩ := far_step (K := K) g1 (0 * 1000000000000 + y1) (.int 1) h1
  obtain ⟨g3, y3, h3, a3, b3, e3⟩ := far_step (K := K) g2 ((0 * 1000000000000 + y1) * 1000000000000 + y2) (.int 2) h2
  obtain ⟨g4, y4, h4, a4, b4, e4⟩ := far_step (K := K) g3 (((0 * 1000000000000 + y1) * 1000000000000 + y2) * 1000000000000 + y3) (.int 3) h3
  obtain ⟨g5, y5, h5, a5, b5, e5⟩ := far_step (K := K) g4 ((((0 * 1000000000000 + y1) * 1000000000000 + y2) * 1000000000000 + y3) * 1000000000000 + y4) (.int 4) h4
  generalize hx : ((((0 * 1000000000000 + y1) * 1000000000000 + y2) * 1000000000000 + y3) * 1000000000000 + y4) * 1000000000000 + y5 = x at e5
  have x0 : 0 ≤ x := by omega
  have x1 : x < 1000000000000000000000000000000000000000000000000000000000000 := by omega
  have eL : loopM (G__law_far_0 K).m (B__law_far_1 K).m [2] [.int 0, .int 1, .int 2, .int 3, .int 4] [.cel false f, .val (.int 0), .non] = some (.nx [.cel false g5, .val (.int x), .non]) := by
    simp only [loopM, G__law_far_0, mgName_e, List.set_cons_zero, List.set_cons_succ, e1, e2, e3, e4, e5, kills]
  have er : rangeU 0 5 = [.int 0, .int 1, .int 2, .int 3, .int 4] := rfl
  have hr : rngOk 0 5 = true := by decide
  obtain ⟨d, g6, d0, d1, h6, e6⟩ := pick_k (K := K) false g5 9 h5 (by omega) (by omega)
  obtain ⟨j, g7, j0, j1, h7, e7⟩ := pick_k (K := K) false g6 4 h6 (by omega) (by omega)
  clear e1 e2 e3 e4 e5 a1 a2 a3 a4 a5 b1 b2 b3 b4 b5 hx h1 h2 h3 h4 h5
  have em : ∀ z : Int, 1 ≤ z → (if z > 1 then z else 1) = z := fun z h => by split <;> omega
  have key : ∃ m, atI [U.int (1 + d), U.int (if x > 1 then x else 1), U.int (if x / 1000000000000000000000000000000 > 1 then x / 1000000000000000000000000000000 else 1), U.int 999999999999999999999999999999999999999999999999999999999999] j = some (.int m) ∧ 1 ≤ m ∧ m < 1000000000000000000000000000000000000000000000000000000000000 := by
    have : j = 0 ∨ j = 1 ∨ j = 2 ∨ j = 3 := by omega
    rcases this with rfl | rfl | rfl | rfl
    · exact ⟨_, rfl, by omega, by omega⟩
    · refine ⟨_, rfl, ?_, ?_⟩ <;> split <;> omega
    · refine ⟨_, rfl, ?_, ?_⟩ <;> split <;> omega
    · exact ⟨_, rfl, by omega, by omega⟩
  obtain ⟨m, hm, m0, m1⟩ := key
  refine ⟨m, g7, h7, m0, m1, ?_⟩
  clear em d0 d1 j0 j1 m0 m1 h6 h7 hf
  unfold mf__law_far M__law_far
  trivial

end Sg

set_option Elab.async false
set_option linter.all false
set_option maxRecDepth 100000
set_option maxHeartbeats 1000000
namespace Sg
open PySem L2
variable {K : PySem.W.Frag}
local macro_rules | `(tactic| trivial) => `(tactic| simp (disch := omega) only [*, mC_m, mVar_m, mLook_m, mLet_m, mSc_m, mNil_m, msNil_m, msSeq_m, msAsgF_m, msDrop_m, msRet_m, msRetF_m, msRetC_m, msRetN_m, msBrk_m, msCont_m, msRaise_m, msFor_m, mtYes_m, mtOne_m, mLc_m, mcNil_m, mcCel_m, mCall_m, moNone_m, moSome_m, mSlL_m, mBi_m, mBiF_m, miList_m, miTup_m, miRng1_m, miRng2_m, miEnum_m, miZip_m, mMeth_m, mMeth0_m, msSet_m, mCat_m, mRepeat_m, mChain_m, mIsi_m, msAug_m, mRev_m, mListRng_m, mCallF_m, msParVV_m, msParFV_m, msParVF_m, mMethD_m, mNew_m, mCMeth_m, mConC_m, msTry_m, mSup_m, okE_some, okE_none, opE_ok, opE_ex, opF_ok, opF_ex, mOp_e, mOpK_e, mIx_e, unE_ok, mUn_e, coE_ok, coE_ex, coF_ok, coF_ex, mCons_e, bindAE_ok, bindAE_ex, mTup_e, tupF_e, mFr_e, lstF_ok, mLst_e, tsE_ok, tsE_ex, mTest_e, okT_some, truE_ok, truE_ex, mTru_e, anE_t, anE_f, anE_ok, orE_t, orE_f, orE_ok, mAnd_e, mOr_e, noE_ok, noE_ex, mNot_e, blV_ok, blV_ex, anV_t, anV_f, anV_ok, orV_t, orV_f, orV_ok, mAndV_e, mOrV_e, noV_ok, noV_ex, mNotV_e, ifV_t, ifV_f, ifV_ok, mIf_e, ifS_t, ifS_f, ifS_ok, ifS_ex, msIf_e, nxO_some, asE_ok, asE_ex, msAsg_e, gcE_some, mgCons_e, mgNil_e, mgTup_e, mgName_e, cvE_ok, cvE_ex, consC_ok, mcVal_e, thenS_nx, thenS_bk, thenS_ct, thenS_rt, thenS_ex, bindES_ok, bindES_ex, bindAS_ok, bindAS_ex, bindE_ok, bindE_ex, mfOf_e, mfOf0_e, noX_val, noX_cel, coM_some, fin_val, fin_cel, fin_nx, fin_ex, oAdd_i, oSub_i, oMul_l, oMul_r, oMod_i, oDiv_i, oPow_i, oLt_i, oLe_i, oGt_i, oGe_i, oEqI_i, oNeI_i, oIx_l, oIx_f, oIx_t, at1_0, at2_0, at2_1, at3_0, at3_1, at3_2, at4_0, at4_1, at4_2, at4_3, ix3_0, ix3_1, ix3_2, oIsN_non, oNotN_non, oNotN_lst, oIsN_lst, oMax2_i, oMin2_i, oAbs_i, oInt_b, oLen_l, oLen_f, oLen_t, oNeg_i, truU_i, truU_l, truU_b, truU_n, lstU_l, lstU_f, ipAdd_i, ipSub_i, oAppend_u, lstF_0, tupF_0, lstF_1, tupF_1, lstF_2, tupF_2, lstF_3, tupF_3, lstF_4, tupF_4, lstF_5, tupF_5, lstF_6, tupF_6, isi_NoneType_bool, isi_NoneType_int, isi_NoneType_str, isi_NoneType_list, isi_NoneType_tuple, isi_NoneType_dict, isi_bool_bool, isi_bool_int, isi_bool_str, isi_bool_list, isi_bool_tuple, isi_bool_dict, isi_int_bool, isi_int_int, isi_int_str, isi_int_list, isi_int_tuple, isi_int_dict, isi_str_bool, isi_str_int, isi_str_str, isi_str_list, isi_str_tuple, isi_str_dict, isi_list_bool, isi_list_int, isi_list_str, isi_list_list, isi_list_tuple, isi_list_dict, isi_tuple_bool, isi_tuple_int, isi_tuple_str, isi_tuple_list, isi_tuple_tuple, isi_tuple_dict, isi_dict_bool, isi_dict_int, isi_dict_str, isi_dict_list, isi_dict_tuple, isi_dict_dict, tyU_n, tyU_b, tyU_i, tyU_s, tyU_l, tyU_t, rngOk_i, zipU_map, intsU_map, blsU_map, oAll_l, oSum_l, oMax_l, cutU_1, cutU_m1, drop_map, reverse_map, length_map', dropLast_map, oEq_i, oNe_i, oEq_b, oNe_b, oEq_nn, oNe_nn, oEq_tt, oNe_tt, oEq_tn, oNe_tn, oEq_nt, oNe_nt, oEq_pp, oNe_pp, oEq_ii, oNe_ii, mIsiT_m, mCallL_m, lendM_ok, lendM_ex, lendA_some, lendR_b, lendR_i, lendR_n, lendR_ex, resolveL_nil, resolveL_v, resolveL_c, resC_c, mDict_m, dicO_ok, mpNil_m, mpCons_m, mpC_ok, mpC2_ok, mGet2_m, getO_some, keyU_i, keyU_s, mSortSet_m, setO_l, msTupVF_m, isiAny, List.zip_cons_cons, List.zip_nil_left, oEqS_s, oNeS_s, mCallF_m, oMul_s, miZipA_m, zpO_ok, zpP_ok, zpU_l, zpU_t, oIsN_i, oIsN_b, oIsN_t, unown, kills, cellAt, List.map_cons, List.map_nil, List.length_cons, List.length_nil, List.cons_append, List.nil_append, List.replicate, List.getElem?_cons_succ, List.getElem?_cons_zero, List.set_cons_zero, List.set_cons_succ, Option.map_some, Option.map_none, Option.bind_some, Option.bind_none, Nat.reduceAdd, Nat.reduceSub, Nat.reduceLeDiff, Int.reduceLT, Int.reduceLE, Int.reduceNeg, Int.reduceToNat, Int.reducePow, decide_eq_true_eq, reduceIte, eq_self, ite_true, ite_false, Bool.false_eq_true, reduceCtorEq, resolve, celJ, nCel, Slot.isC, List.filter, putJ, callM, callMF, List.append_eq, Nat.reduceLT, Int.reduceMul, Int.reduceAdd, Int.reduceSub, ne_eq, not_true_eq_false, not_false_eq_true, Bool.not_false, Bool.not_true, decide_true, decide_false, frF, Int.cast_ofNat_Int, Bool.and_true, Bool.true_and, Bool.false_and, Bool.and_false, Bool.or_false, Bool.false_or, Bool.true_or, Bool.or_true])
local macro_rules | `(tactic| ac_rfl) => `(tactic| (simp (disch := omega) only [*, mC_m, mVar_m, mLook_m, mLet_m, mSc_m, mNil_m, msNil_m, msSeq_m, msAsgF_m, msDrop_m, msRet_m, msRetF_m, msRetC_m, msRetN_m, msBrk_m, msCont_m, msRaise_m, msFor_m, mtYes_m, mtOne_m, mLc_m, mcNil_m, mcCel_m, mCall_m, moNone_m, moSome_m, mSlL_m, mBi_m, mBiF_m, miList_m, miTup_m, miRng1_m, miRng2_m, miEnum_m, miZip_m, mMeth_m, mMeth0_m, msSet_m, mCat_m, mRepeat_m, mChain_m, mIsi_m, msAug_m, mRev_m, mListRng_m, mCallF_m, msParVV_m, msParFV_m, msParVF_m, mMethD_m, mNew_m, mCMeth_m, mConC_m, msTry_m, mSup_m, okE_some, okE_none, opE_ok, opE_ex, opF_ok, opF_ex, mOp_e, mOpK_e, mIx_e, unE_ok, mUn_e, coE_ok, coE_ex, coF_ok, coF_ex, mCons_e, bindAE_ok, bindAE_ex, mTup_e, tupF_e, mFr_e, lstF_ok, mLst_e, tsE_ok, tsE_ex, mTest_e, okT_some, truE_ok, truE_ex, mTru_e, anE_t, anE_f, anE_ok, orE_t, orE_f, orE_ok, mAnd_e, mOr_e, noE_ok, noE_ex, mNot_e, blV_ok, blV_ex, anV_t, anV_f, anV_ok, orV_t, orV_f, orV_ok, mAndV_e, mOrV_e, noV_ok, noV_ex, mNotV_e, ifV_t, ifV_f, ifV_ok, mIf_e, ifS_t, ifS_f, ifS_ok, ifS_ex, msIf_e, nxO_some, asE_ok, asE_ex, msAsg_e, gcE_some, mgCons_e, mgNil_e, mgTup_e, mgName_e, cvE_ok, cvE_ex, consC_ok, mcVal_e, thenS_nx, thenS_bk, thenS_ct, thenS_rt, thenS_ex, bindES_ok, bindES_ex, bindAS_ok, bindAS_ex, bindE_ok, bindE_ex, mfOf_e, mfOf0_e, noX_val, noX_cel, coM_some, fin_val, fin_cel, fin_nx, fin_ex, oAdd_i, oSub_i, oMul_l, oMul_r, oMod_i, oDiv_i, oPow_i, oLt_i, oLe_i, oGt_i, oGe_i, oEqI_i, oNeI_i, oIx_l, oIx_f, oIx_t, at1_0, at2_0, at2_1, at3_0, at3_1, at3_2, at4_0, at4_1, at4_2, at4_3, ix3_0, ix3_1, ix3_2, oIsN_non, oNotN_non, oNotN_lst, oIsN_lst, oMax2_i, oMin2_i, oAbs_i, oInt_b, oLen_l, oLen_f, oLen_t, oNeg_i, truU_i, truU_l, truU_b, truU_n, lstU_l, lstU_f, ipAdd_i, ipSub_i, oAppend_u, lstF_0, tupF_0, lstF_1, tupF_1, lstF_2, tupF_2, lstF_3, tupF_3, lstF_4, tupF_4, lstF_5, tupF_5, lstF_6, tupF_6, isi_NoneType_bool, isi_NoneType_int, isi_NoneType_str, isi_NoneType_list, isi_NoneType_tuple, isi_NoneType_dict, isi_bool_bool, isi_bool_int, isi_bool_str, isi_bool_list, isi_bool_tuple, isi_bool_dict, isi_int_bool, isi_int_int, isi_int_str, isi_int_list, isi_int_tuple, isi_int_dict, isi_str_bool, isi_str_int, isi_str_str, isi_str_list, isi_str_tuple, isi_str_dict, isi_list_bool, isi_list_int, isi_list_str, isi_list_list, isi_list_tuple, isi_list_dict, isi_tuple_bool, isi_tuple_int, isi_tuple_str, isi_tuple_list, isi_tuple_tuple, isi_tuple_dict, isi_dict_bool, isi_dict_int, isi_dict_str, isi_dict_list, isi_dict_tuple, isi_dict_dict, tyU_n, tyU_b, tyU_i, tyU_s, tyU_l, tyU_t, rngOk_i, zipU_map, intsU_map, blsU_map, oAll_l, oSum_l, oMax_l, cutU_1, cutU_m1, drop_map, reverse_map, length_map', dropLast_map, oEq_i, oNe_i, oEq_b, oNe_b, oEq_nn, oNe_nn, oEq_tt, oNe_tt, oEq_tn, oNe_tn, oEq_nt, oNe_nt, oEq_pp, oNe_pp, oEq_ii, oNe_ii, mIsiT_m, mCallL_m, lendM_ok, lendM_ex, lendA_some, lendR_b, lendR_i, lendR_n, lendR_ex, resolveL_nil, resolveL_v, resolveL_c, resC_c, mDict_m, dicO_ok, mpNil_m, mpCons_m, mpC_ok, mpC2_ok, mGet2_m, getO_some, keyU_i, keyU_s, mSortSet_m, setO_l, msTupVF_m, isiAny, List.zip_cons_cons, List.zip_nil_left, oEqS_s, oNeS_s, mCallF_m, oMul_s, miZipA_m, zpO_ok, zpP_ok, zpU_l, zpU_t, oIsN_i, oIsN_b, oIsN_t, unown, kills, cellAt, List.map_cons, List.map_nil, List.length_cons, List.length_nil, List.cons_append, List.nil_append, List.replicate, List.getElem?_cons_succ, List.getElem?_cons_zero, List.set_cons_zero, List.set_cons_succ, Option.map_some, Option.map_none, Option.bind_some, Option.bind_none, Nat.reduceAdd, Nat.reduceSub, Nat.reduceLeDiff, Int.reduceLT, Int.reduceLE, Int.reduceNeg, Int.reduceToNat, Int.reducePow, decide_eq_true_eq, reduceIte, eq_self, ite_true, ite_false, Bool.false_eq_true, reduceCtorEq, resolve, celJ, nCel, Slot.isC, List.filter, putJ, callM, callMF, List.append_eq, Nat.reduceLT, Int.reduceMul, Int.reduceAdd, Int.reduceSub, ne_eq, not_true_eq_false, not_false_eq_true, Bool.not_false, Bool.not_true, decide_true, decide_false, frF, Int.cast_ofNat_Int, Bool.and_true, Bool.true_and, Bool.false_and, Bool.and_false, Bool.or_false, Bool.false_or, Bool.true_or, Bool.or_true, G__law_far_0, G__law_numbers_0, T__law_numbers_1, E__law_numbers_2, G__law_long_0, T__law_long_1, E__law_long_2, G__law_long_3, T__law_long_4, E__law_long_5, G__law_long_6, T__law_long_7, E__law_long_8, G__law_long_9, G__law_due_far_0, T__law_due_far_1, E__law_due_far_2, G__law_due_far_3, G__law_due_far_5, T__law_due_far_6, E__law_due_far_7, G__law_same_0, T__law_same_1, E__law_same_2, G__law_same_3, T__law_same_4, E__law_same_5, G_is_run_0, T_is_run_1, E_is_run_2, G_are_runs_0, T_are_runs_1, E_are_runs_2, G_are_runs_3, T_are_runs_4, E_are_runs_5, G_Plain_signs_0, T_Plain_signs_1, E_Plain_signs_2, G_Next_signs_0, G_Single_signs_0, G_Block_signs_0, G_Later_signs_0, G_Rule_total_0, T_Rule_total_1, E_Rule_total_2, G__law_worth_0, T__law_worth_1, E__law_worth_2, G__law_right_0, G_law_0, G_law_2, G_law_4, T_law_5, E_law_6, G_law_7, T_law_8, E_law_9]; try rfl))
def Adj (w : List (Int × Int)) : Prop := ∀ p ∈ w.zip (w.drop 1), p.1.1 ≠ p.2.1
theorem adj_snoc : ∀ (w : List (Int × Int)) (p : Int × Int), Adj w → (∀ q, w.getLast? = some q → q.1 ≠ p.1) → Adj (w ++ [p])
  | [], p, _, _ => fun x hx => by simp at hx
  | [a], p, _, h => fun x hx => by
    simp at hx
    subst hx
    exact h a rfl
  | a :: b :: r, p, h1, h2 => fun x hx => by
    have hx' : x ∈ (a, b) :: ((b :: r) ++ [p]).zip (((b :: r) ++ [p]).drop 1) := hx
    rcases List.mem_cons.mp hx' with e | e
    · exact h1 x (by rw [e]; exact List.mem_cons_self)
    · exact adj_snoc (b :: r) p (fun y hy => h1 y (List.mem_cons_of_mem _ hy)) (fun q hq => h2 q (by rw [List.getLast?_cons_cons]; exact hq)) x e
theorem oEq_p0 (w : List (Int × Int)) : (oEq (K := K)).f (.lst (w.map pU)) (.lst []) = some (.bl (decide (w = []))) := oEq_pp w []
theorem oNe_i0 (w : List Int) : (oNe (K := K)).f (.lst (w.map U.int)) (.lst []) = some (.bl (!decide (w = []))) := oNe_ii w []
theorem last_p (w0 : List (Int × Int)) (q : Int × Int) : atI ((w0 ++ [q]).map pU) (-1) = some (pU q) := by rw [List.map_append]; exact atI_last _ _
theorem dedI_len : ∀ l, (dedI l).length ≤ l.length
  | [] => Nat.le_refl _
  | x :: r => by
    unfold dedI
    have := dedI_len r
    split <;> simp <;> omega
theorem sd_mem (k : Int) (l : List Int) : k ∈ sortI (dedI l) ↔ k ∈ l := by rw [(sortI_perm (dedI l)).mem_iff, mem_dedI]
theorem sd_len (l : List Int) : (sortI (dedI l)).length ≤ l.length := by rw [(sortI_perm (dedI l)).length_eq]; exact dedI_len l
theorem two_of_nodup : ∀ (l : List Int), l.Nodup → 2 ≤ l.length → ∃ a b, a ∈ l ∧ b ∈ l ∧ a ≠ b
  | [], _, h => by simp at h
  | [a], _, h => by simp at h
  | a :: b :: r, h, _ => ⟨a, b, by simp, by simp, fun e => by
    have := (List.nodup_cons.mp h).1
    exact this (by rw [e]; simp)⟩

end Sg

set_option Elab.async false
set_option linter.all false
set_option maxRecDepth 100000
set_option maxHeartbeats 1000000
namespace Sg
open PySem L2
variable {K : PySem.W.Frag}
local macro_rules | `(tactic| trivial) => `(tactic| simp (disch := omega) only [*, mC_m, mVar_m, mLook_m, mLet_m, mSc_m, mNil_m, msNil_m, msSeq_m, msAsgF_m, msDrop_m, msRet_m, msRetF_m, msRetC_m, msRetN_m, msBrk_m, msCont_m, msRaise_m, msFor_m, mtYes_m, mtOne_m, mLc_m, mcNil_m, mcCel_m, mCall_m, moNone_m, moSome_m, mSlL_m, mBi_m, mBiF_m, miList_m, miTup_m, miRng1_m, miRng2_m, miEnum_m, miZip_m, mMeth_m, mMeth0_m, msSet_m, mCat_m, mRepeat_m, mChain_m, mIsi_m, msAug_m, mRev_m, mListRng_m, mCallF_m, msParVV_m, msParFV_m, msParVF_m, mMethD_m, mNew_m, mCMeth_m, mConC_m, msTry_m, mSup_m, okE_some, okE_none, opE_ok, opE_ex, opF_ok, opF_ex, mOp_e, mOpK_e, mIx_e, unE_ok, mUn_e, coE_ok, coE_ex, coF_ok, coF_ex, mCons_e, bindAE_ok, bindAE_ex, mTup_e, tupF_e, mFr_e, lstF_ok, mLst_e, tsE_ok, tsE_ex, mTest_e, okT_some, truE_ok, truE_ex, mTru_e, anE_t, anE_f, anE_ok, orE_t, orE_f, orE_ok, mAnd_e, mOr_e, noE_ok, noE_ex, mNot_e, blV_ok, blV_ex, anV_t, anV_f, anV_ok, orV_t, orV_f, orV_ok, mAndV_e, mOrV_e, noV_ok, noV_ex, mNotV_e, ifV_t, ifV_f, ifV_ok, mIf_e, ifS_t, ifS_f, ifS_ok, ifS_ex, msIf_e, nxO_some, asE_ok, asE_ex, msAsg_e, gcE_some, mgCons_e, mgNil_e, mgTup_e, mgName_e, cvE_ok, cvE_ex, consC_ok, mcVal_e, thenS_nx, thenS_bk, thenS_ct, thenS_rt, thenS_ex, bindES_ok, bindES_ex, bindAS_ok, bindAS_ex, bindE_ok, bindE_ex, mfOf_e, mfOf0_e, noX_val, noX_cel, coM_some, fin_val, fin_cel, fin_nx, fin_ex, oAdd_i, oSub_i, oMul_l, oMul_r, oMod_i, oDiv_i, oPow_i, oLt_i, oLe_i, oGt_i, oGe_i, oEqI_i, oNeI_i, oIx_l, oIx_f, oIx_t, at1_0, at2_0, at2_1, at3_0, at3_1, at3_2, at4_0, at4_1, at4_2, at4_3, ix3_0, ix3_1, ix3_2, oIsN_non, oNotN_non, oNotN_lst, oIsN_lst, oMax2_i, oMin2_i, oAbs_i, oInt_b, oLen_l, oLen_f, oLen_t, oNeg_i, truU_i, truU_l, truU_b, truU_n, lstU_l, lstU_f, ipAdd_i, ipSub_i, oAppend_u, lstF_0, tupF_0, lstF_1, tupF_1, lstF_2, tupF_2, lstF_3, tupF_3, lstF_4, tupF_4, lstF_5, tupF_5, lstF_6, tupF_6, isi_NoneType_bool, isi_NoneType_int, isi_NoneType_str, isi_NoneType_list, isi_NoneType_tuple, isi_NoneType_dict, isi_bool_bool, isi_bool_int, isi_bool_str, isi_bool_list, isi_bool_tuple, isi_bool_dict, isi_int_bool, isi_int_int, isi_int_str, isi_int_list, isi_int_tuple, isi_int_dict, isi_str_bool, isi_str_int, isi_str_str, isi_str_list, isi_str_tuple, isi_str_dict, isi_list_bool, isi_list_int, isi_list_str, isi_list_list, isi_list_tuple, isi_list_dict, isi_tuple_bool, isi_tuple_int, isi_tuple_str, isi_tuple_list, isi_tuple_tuple, isi_tuple_dict, isi_dict_bool, isi_dict_int, isi_dict_str, isi_dict_list, isi_dict_tuple, isi_dict_dict, tyU_n, tyU_b, tyU_i, tyU_s, tyU_l, tyU_t, rngOk_i, zipU_map, intsU_map, blsU_map, oAll_l, oSum_l, oMax_l, cutU_1, cutU_m1, drop_map, reverse_map, length_map', dropLast_map, oEq_i, oNe_i, oEq_b, oNe_b, oEq_nn, oNe_nn, oEq_tt, oNe_tt, oEq_tn, oNe_tn, oEq_nt, oNe_nt, oEq_pp, oNe_pp, oEq_ii, oNe_ii, mIsiT_m, mCallL_m, lendM_ok, lendM_ex, lendA_some, lendR_b, lendR_i, lendR_n, lendR_ex, resolveL_nil, resolveL_v, resolveL_c, resC_c, mDict_m, dicO_ok, mpNil_m, mpCons_m, mpC_ok, mpC2_ok, mGet2_m, getO_some, keyU_i, keyU_s, mSortSet_m, setO_l, msTupVF_m, isiAny, List.zip_cons_cons, List.zip_nil_left, oEqS_s, oNeS_s, mCallF_m, oMul_s, miZipA_m, zpO_ok, zpP_ok, zpU_l, zpU_t, oIsN_i, oIsN_b, oIsN_t, unown, kills, cellAt, List.map_cons, List.map_nil, List.length_cons, List.length_nil, List.cons_append, List.nil_append, List.replicate, List.getElem?_cons_succ, List.getElem?_cons_zero, List.set_cons_zero, List.set_cons_succ, Option.map_some, Option.map_none, Option.bind_some, Option.bind_none, Nat.reduceAdd, Nat.reduceSub, Nat.reduceLeDiff, Int.reduceLT, Int.reduceLE, Int.reduceNeg, Int.reduceToNat, Int.reducePow, decide_eq_true_eq, reduceIte, eq_self, ite_true, ite_false, Bool.false_eq_true, reduceCtorEq, resolve, celJ, nCel, Slot.isC, List.filter, putJ, callM, callMF, List.append_eq, Nat.reduceLT, Int.reduceMul, Int.reduceAdd, Int.reduceSub, ne_eq, not_true_eq_false, not_false_eq_true, Bool.not_false, Bool.not_true, decide_true, decide_false, frF, Int.cast_ofNat_Int, Bool.and_true, Bool.true_and, Bool.false_and, Bool.and_false, Bool.or_false, Bool.false_or, Bool.true_or, Bool.or_true])
local macro_rules | `(tactic| ac_rfl) => `(tactic| (simp (disch := omega) only [*, mC_m, mVar_m, mLook_m, mLet_m, mSc_m, mNil_m, msNil_m, msSeq_m, msAsgF_m, msDrop_m, msRet_m, msRetF_m, msRetC_m, msRetN_m, msBrk_m, msCont_m, msRaise_m, msFor_m, mtYes_m, mtOne_m, mLc_m, mcNil_m, mcCel_m, mCall_m, moNone_m, moSome_m, mSlL_m, mBi_m, mBiF_m, miList_m, miTup_m, miRng1_m, miRng2_m, miEnum_m, miZip_m, mMeth_m, mMeth0_m, msSet_m, mCat_m, mRepeat_m, mChain_m, mIsi_m, msAug_m, mRev_m, mListRng_m, mCallF_m, msParVV_m, msParFV_m, msParVF_m, mMethD_m, mNew_m, mCMeth_m, mConC_m, msTry_m, mSup_m, okE_some, okE_none, opE_ok, opE_ex, opF_ok, opF_ex, mOp_e, mOpK_e, mIx_e, unE_ok, mUn_e, coE_ok, coE_ex, coF_ok, coF_ex, mCons_e, bindAE_ok, bindAE_ex, mTup_e, tupF_e, mFr_e, lstF_ok, mLst_e, tsE_ok, tsE_ex, mTest_e, okT_some, truE_ok, truE_ex, mTru_e, anE_t, anE_f, anE_ok, orE_t, orE_f, orE_ok, mAnd_e, mOr_e, noE_ok, noE_ex, mNot_e, blV_ok, blV_ex, anV_t, anV_f, anV_ok, orV_t, orV_f, orV_ok, mAndV_e, mOrV_e, noV_ok, noV_ex, mNotV_e, ifV_t, ifV_f, ifV_ok, mIf_e, ifS_t, ifS_f, ifS_ok, ifS_ex, msIf_e, nxO_some, asE_ok, asE_ex, msAsg_e, gcE_some, mgCons_e, mgNil_e, mgTup_e, mgName_e, cvE_ok, cvE_ex, consC_ok, mcVal_e, thenS_nx, thenS_bk, thenS_ct, thenS_rt, thenS_ex, bindES_ok, bindES_ex, bindAS_ok, bindAS_ex, bindE_ok, bindE_ex, mfOf_e, mfOf0_e, noX_val, noX_cel, coM_some, fin_val, fin_cel, fin_nx, fin_ex, oAdd_i, oSub_i, oMul_l, oMul_r, oMod_i, oDiv_i, oPow_i, oLt_i, oLe_i, oGt_i, oGe_i, oEqI_i, oNeI_i, oIx_l, oIx_f, oIx_t, at1_0, at2_0, at2_1, at3_0, at3_1, at3_2, at4_0, at4_1, at4_2, at4_3, ix3_0, ix3_1, ix3_2, oIsN_non, oNotN_non, oNotN_lst, oIsN_lst, oMax2_i, oMin2_i, oAbs_i, oInt_b, oLen_l, oLen_f, oLen_t, oNeg_i, truU_i, truU_l, truU_b, truU_n, lstU_l, lstU_f, ipAdd_i, ipSub_i, oAppend_u, lstF_0, tupF_0, lstF_1, tupF_1, lstF_2, tupF_2, lstF_3, tupF_3, lstF_4, tupF_4, lstF_5, tupF_5, lstF_6, tupF_6, isi_NoneType_bool, isi_NoneType_int, isi_NoneType_str, isi_NoneType_list, isi_NoneType_tuple, isi_NoneType_dict, isi_bool_bool, isi_bool_int, isi_bool_str, isi_bool_list, isi_bool_tuple, isi_bool_dict, isi_int_bool, isi_int_int, isi_int_str, isi_int_list, isi_int_tuple, isi_int_dict, isi_str_bool, isi_str_int, isi_str_str, isi_str_list, isi_str_tuple, isi_str_dict, isi_list_bool, isi_list_int, isi_list_str, isi_list_list, isi_list_tuple, isi_list_dict, isi_tuple_bool, isi_tuple_int, isi_tuple_str, isi_tuple_list, isi_tuple_tuple, isi_tuple_dict, isi_dict_bool, isi_dict_int, isi_dict_str, isi_dict_list, isi_dict_tuple, isi_dict_dict, tyU_n, tyU_b, tyU_i, tyU_s, tyU_l, tyU_t, rngOk_i, zipU_map, intsU_map, blsU_map, oAll_l, oSum_l, oMax_l, cutU_1, cutU_m1, drop_map, reverse_map, length_map', dropLast_map, oEq_i, oNe_i, oEq_b, oNe_b, oEq_nn, oNe_nn, oEq_tt, oNe_tt, oEq_tn, oNe_tn, oEq_nt, oNe_nt, oEq_pp, oNe_pp, oEq_ii, oNe_ii, mIsiT_m, mCallL_m, lendM_ok, lendM_ex, lendA_some, lendR_b, lendR_i, lendR_n, lendR_ex, resolveL_nil, resolveL_v, resolveL_c, resC_c, mDict_m, dicO_ok, mpNil_m, mpCons_m, mpC_ok, mpC2_ok, mGet2_m, getO_some, keyU_i, keyU_s, mSortSet_m, setO_l, msTupVF_m, isiAny, List.zip_cons_cons, List.zip_nil_left, oEqS_s, oNeS_s, mCallF_m, oMul_s, miZipA_m, zpO_ok, zpP_ok, zpU_l, zpU_t, oIsN_i, oIsN_b, oIsN_t, unown, kills, cellAt, List.map_cons, List.map_nil, List.length_cons, List.length_nil, List.cons_append, List.nil_append, List.replicate, List.getElem?_cons_succ, List.getElem?_cons_zero, List.set_cons_zero, List.set_cons_succ, Option.map_some, Option.map_none, Option.bind_some, Option.bind_none, Nat.reduceAdd, Nat.reduceSub, Nat.reduceLeDiff, Int.reduceLT, Int.reduceLE, Int.reduceNeg, Int.reduceToNat, Int.reducePow, decide_eq_true_eq, reduceIte, eq_self, ite_true, ite_false, Bool.false_eq_true, reduceCtorEq, resolve, celJ, nCel, Slot.isC, List.filter, putJ, callM, callMF, List.append_eq, Nat.reduceLT, Int.reduceMul, Int.reduceAdd, Int.reduceSub, ne_eq, not_true_eq_false, not_false_eq_true, Bool.not_false, Bool.not_true, decide_true, decide_false, frF, Int.cast_ofNat_Int, Bool.and_true, Bool.true_and, Bool.false_and, Bool.and_false, Bool.or_false, Bool.false_or, Bool.true_or, Bool.or_true, G__law_far_0, G__law_numbers_0, T__law_numbers_1, E__law_numbers_2, G__law_long_0, T__law_long_1, E__law_long_2, G__law_long_3, T__law_long_4, E__law_long_5, G__law_long_6, T__law_long_7, E__law_long_8, G__law_long_9, G__law_due_far_0, T__law_due_far_1, E__law_due_far_2, G__law_due_far_3, G__law_due_far_5, T__law_due_far_6, E__law_due_far_7, G__law_same_0, T__law_same_1, E__law_same_2, G__law_same_3, T__law_same_4, E__law_same_5, G_is_run_0, T_is_run_1, E_is_run_2, G_are_runs_0, T_are_runs_1, E_are_runs_2, G_are_runs_3, T_are_runs_4, E_are_runs_5, G_Plain_signs_0, T_Plain_signs_1, E_Plain_signs_2, G_Next_signs_0, G_Single_signs_0, G_Block_signs_0, G_Later_signs_0, G_Rule_total_0, T_Rule_total_1, E_Rule_total_2, G__law_worth_0, T__law_worth_1, E__law_worth_2, G__law_right_0, G_law_0, G_law_2, G_law_4, T_law_5, E_law_6, G_law_7, T_law_8, E_law_9]; try rfl))
structure Nums (M : List Int) : Prop where
  bd : ∀ x ∈ M, 1 ≤ x ∧ x < 1000000000000000000000000000000000000000000000000000000000000
  two : ∃ a b, a ∈ M ∧ b ∈ M ∧ a ≠ b
  len : M.length ≤ 600
abbrev envL (g : List U) (most : Int) (M : List Int) (way : Int) (w : List (Int × Int)) (a b c d e f : Slot) : Env := [.cel false g, .val (.int most), .val (.lst (M.map U.int)), .val (.int way), .cel true (w.map pU), a, b, c, d, e, f]
theorem others_k (g : List U) (most : Int) (M : List Int) (way : Int) (w : List (Int × Int)) (u : U) (h : Nums M) : ∃ os : List Int, (∀ x ∈ os, x ∈ M) ∧ os ≠ [] ∧ (∀ x ∈ os, ∀ q, w.getLast? = some q → q.1 ≠ x) ∧ os.length ≤ 600 ∧
    lcM (G__law_long_6 K).m (T__law_long_7 K).m (E__law_long_8 K).m [10] (M.map U.int) [] (envL g most M way w (.val u) .non .non .non .non .non) = some (.ok (os.map U.int) (envL g most M way w (.val u) .non .non .non .non .non)) := by
  have h0 := h.len
  obtain ⟨a, b, ha, hb, hab⟩ := h.two
  unfold envL
  rcases List.eq_nil_or_concat w with rfl | ⟨w0, q, hwq⟩
  · refine ⟨M.filter fun _ => true, fun x hx => (List.mem_filter.mp hx).1, fun z => ?_, fun x hx q hq => by simp at hq, Nat.le_trans (List.length_filter_le _ _) h0, ?_⟩
    · have : a ∈ M.filter fun _ => true := List.mem_filter.mpr ⟨ha, rfl⟩
      rw [z] at this; simp at this
    refine lcM_filter U.int U.int (fun _ => true) M (by omega) fun x hx => ?_
    refine ⟨[.cel false g, .val (.int most), .val (.lst (M.map U.int)), .val (.int way), .cel true [], .val u, .non, .non, .non, .non, .val (.int x)], [.cel false g, .val (.int most), .val (.lst (M.map U.int)), .val (.int way), .cel true [], .val u, .non, .non, .non, .non, .val (.int x)], rfl, ?_, fun z => absurd z (by decide), fun _ => ⟨_, rfl, rfl⟩⟩
    have ee := oEq_p0 (K := K) []
    simp only [List.map_nil, decide_true] at ee
    clear hx h h0 ha hb hab
    generalize M.map U.int = MM
    ac_rfl
  · rw [List.concat_eq_append] at hwq
    subst hwq
    refine ⟨M.filter fun x => !decide (x = q.1), fun x hx => (List.mem_filter.mp hx).1, fun z => ?_, fun x hx q' hq => ?_, Nat.le_trans (List.length_filter_le _ _) h0, ?_⟩
    · by_cases c : a = q.1
      · have : b ∈ M.filter fun x => !decide (x = q.1) := List.mem_filter.mpr ⟨hb, by simp; intro e; exact hab (by rw [c, e])⟩
        rw [z] at this; simp at this
      · have : a ∈ M.filter fun x => !decide (x = q.1) := List.mem_filter.mpr ⟨ha, by simp [c]⟩
        rw [z] at this; simp at this
    · simp at hq
      subst hq
      have := (List.mem_filter.mp hx).2
      simp at this
      exact fun z => this z.symm
    · refine lcM_filter U.int U.int (fun x => !decide (x = q.1)) M (by omega) fun x hx => ?_
      refine ⟨[.cel false g, .val (.int most), .val (.lst (M.map U.int)), .val (.int way), .cel true ((w0 ++ [q]).map pU), .val u, .non, .non, .non, .non, .val (.int x)], [.cel false g, .val (.int most), .val (.lst (M.map U.int)), .val (.int way), .cel true ((w0 ++ [q]).map pU), .val u, .non, .non, .non, .non, .val (.int x)], rfl, ?_, fun _ => rfl, fun _ => ⟨_, rfl, rfl⟩⟩
      have ee := oEq_p0 (K := K) (w0 ++ [q])
      have el := last_p w0 q
      have en : decide (w0 ++ [q] = []) = false := by simp
      rw [en] at ee
      clear hx h h0 ha hb hab en
      generalize (w0 ++ [q]).map pU = ww at ee el ⊢
      generalize M.map U.int = MM
      ac_rfl
theorem long_step (g : List U) (most : Int) (M : List Int) (way : Int) (w : List (Int × Int)) (t : Int) (hg : Feed g) (h : Nums M) (w0 : 0 ≤ way) (w1 : way < 4) (t0 : 0 ≤ t) (hl : w.length ≤ 300) :
    ∃ (g' : List U) (x m : Int) (a b c d : Slot), Feed g' ∧ x ∈ M ∧ (∀ q, w.getLast? = some q → q.1 ≠ x) ∧ 1 ≤ m ∧ m < 1000000000000000000000000000000000000000000000000000000000000 ∧
      (B__law_long_10 K).m (envL g most M way w (.val (.int t)) .non .non .non .non .non) = some (.nx (envL g' most M way (w ++ [(x, m)]) (.val (.int t)) a b c d .non)) := by
  obtain ⟨os, o1, o2, o3, o4, eo⟩ := others_k (K := K) g most M way w (.int t) h
  have hlen : 0 < os.length := by
    cases os with
    | nil => exact absurd rfl o2
    | cons x xs => simp
  obtain ⟨d1, g1, a1, b1, h1, e1⟩ := pick_k (K := K) false g (os.length : Int) hg (by omega) (by omega)
  obtain ⟨f1, g2, h2, a2, b2, e2⟩ := far_k (K := K) false g1 h1
  obtain ⟨d3, g3, a3, b3, h3, e3⟩ := pick_k (K := K) false g2 3 h2 (by omega) (by omega)
  have key : ∃ at_ : Int, 0 ≤ at_ ∧ at_ < (os.length : Int) ∧ atI [U.int d1, U.int (if (os.length : Int) - 1 < t then (os.length : Int) - 1 else t), U.int (if (os.length : Int) - 1 - t > 0 then (os.length : Int) - 1 - t else 0), U.int (if (os.length : Int) - 1 < t % 2 then (os.length : Int) - 1 else t % 2)] way = some (.int at_) := by
    have : way = 0 ∨ way = 1 ∨ way = 2 ∨ way = 3 := by omega
    rcases this with rfl | rfl | rfl | rfl
    · exact ⟨_, by omega, by omega, rfl⟩
    · refine ⟨_, ?_, ?_, rfl⟩ <;> split <;> omega
    · refine ⟨_, ?_, ?_, rfl⟩ <;> split <;> omega
    · refine ⟨_, ?_, ?_, rfl⟩ <;> split <;> omega
  obtain ⟨at_, c0, c1, ea⟩ := key
  have key2 : ∃ m, 1 ≤ m ∧ m < 1000000000000000000000000000000000000000000000000000000000000 ∧ atI [U.int 1, U.int 1, U.int f1] d3 = some (.int m) := by
    have : d3 = 0 ∨ d3 = 1 ∨ d3 = 2 := by omega
    rcases this with rfl | rfl | rfl
    · exact ⟨_, by omega, by omega, rfl⟩
    · exact ⟨_, by omega, by omega, rfl⟩
    · exact ⟨_, a2, b2, rfl⟩
  obtain ⟨m, m0, m1, em⟩ := key2
  obtain ⟨x, hx, _, ex⟩ := atI_map U.int (xs := os) c0 c1
  have hacc : (w.map pU).length < 16777216 := by rw [List.length_map]; omega
  have hll : ((os.map U.int).length : Int) = os.length := by rw [List.length_map]
  refine ⟨g3, x, m, .val (.lst (os.map U.int)), .val (.int ((os.length : Int) - 1)), .val (.int at_), .val (.int m), h3, o1 x hx, fun q hq => o3 x hx q hq, m0, m1, ?_⟩
  have hm : ((w ++ [(x, m)]).map pU) = w.map pU ++ [pU (x, m)] := by rw [List.map_append]; rfl
  unfold envL at eo ⊢
  rw [hm]
  clear hm o1 o2 o3 o4 hx h hg h1 h2 h3 a1 b1 a2 b2 a3 b3 c0 c1 m0 m1 w0 w1 t0 hl hlen
  unfold B__law_long_10
  trivial

end Sg

set_option Elab.async false
set_option linter.all false
set_option maxRecDepth 100000
set_option maxHeartbeats 1000000
namespace Sg
open PySem L2
variable {K : PySem.W.Frag}
local macro_rules | `(tactic| trivial) => `(tactic| simp (disch := omega) only [*, mC_m, mVar_m, mLook_m, mLet_m, mSc_m, mNil_m, msNil_m, msSeq_m, msAsgF_m, msDrop_m, msRet_m, msRetF_m, msRetC_m, msRetN_m, msBrk_m, msCont_m, msRaise_m, msFor_m, mtYes_m, mtOne_m, mLc_m, mcNil_m, mcCel_m, mCall_m, moNone_m, moSome_m, mSlL_m, mBi_m, mBiF_m, miList_m, miTup_m, miRng1_m, miRng2_m, miEnum_m, miZip_m, mMeth_m, mMeth0_m, msSet_m, mCat_m, mRepeat_m, mChain_m, mIsi_m, msAug_m, mRev_m, mListRng_m, mCallF_m, msParVV_m, msParFV_m, msParVF_m, mMethD_m, mNew_m, mCMeth_m, mConC_m, msTry_m, mSup_m, okE_some, okE_none, opE_ok, opE_ex, opF_ok, opF_ex, mOp_e, mOpK_e, mIx_e, unE_ok, mUn_e, coE_ok, coE_ex, coF_ok, coF_ex, mCons_e, bindAE_ok, bindAE_ex, mTup_e, tupF_e, mFr_e, lstF_ok, mLst_e, tsE_ok, tsE_ex, mTest_e, okT_some, truE_ok, truE_ex, mTru_e, anE_t, anE_f, anE_ok, orE_t, orE_f, orE_ok, mAnd_e, mOr_e, noE_ok, noE_ex, mNot_e, blV_ok, blV_ex, anV_t, anV_f, anV_ok, orV_t, orV_f, orV_ok, mAndV_e, mOrV_e, noV_ok, noV_ex, mNotV_e, ifV_t, ifV_f, ifV_ok, mIf_e, ifS_t, ifS_f, ifS_ok, ifS_ex, msIf_e, nxO_some, asE_ok, asE_ex, msAsg_e, gcE_some, mgCons_e, mgNil_e, mgTup_e, mgName_e, cvE_ok, cvE_ex, consC_ok, mcVal_e, thenS_nx, thenS_bk, thenS_ct, thenS_rt, thenS_ex, bindES_ok, bindES_ex, bindAS_ok, bindAS_ex, bindE_ok, bindE_ex, mfOf_e, mfOf0_e, noX_val, noX_cel, coM_some, fin_val, fin_cel, fin_nx, fin_ex, oAdd_i, oSub_i, oMul_l, oMul_r, oMod_i, oDiv_i, oPow_i, oLt_i, oLe_i, oGt_i, oGe_i, oEqI_i, oNeI_i, oIx_l, oIx_f, oIx_t, at1_0, at2_0, at2_1, at3_0, at3_1, at3_2, at4_0, at4_1, at4_2, at4_3, ix3_0, ix3_1, ix3_2, oIsN_non, oNotN_non, oNotN_lst, oIsN_lst, oMax2_i, oMin2_i, oAbs_i, oInt_b, oLen_l, oLen_f, oLen_t, oNeg_i, truU_i, truU_l, truU_b, truU_n, lstU_l, lstU_f, ipAdd_i, ipSub_i, oAppend_u, lstF_0, tupF_0, lstF_1, tupF_1, lstF_2, tupF_2, lstF_3, tupF_3, lstF_4, tupF_4, lstF_5, tupF_5, lstF_6, tupF_6, isi_NoneType_bool, isi_NoneType_int, isi_NoneType_str, isi_NoneType_list, isi_NoneType_tuple, isi_NoneType_dict, isi_bool_bool, isi_bool_int, isi_bool_str, isi_bool_list, isi_bool_tuple, isi_bool_dict, isi_int_bool, isi_int_int, isi_int_str, isi_int_list, isi_int_tuple, isi_int_dict, isi_str_bool, isi_str_int, isi_str_str, isi_str_list, isi_str_tuple, isi_str_dict, isi_list_bool, isi_list_int, isi_list_str, isi_list_list, isi_list_tuple, isi_list_dict, isi_tuple_bool, isi_tuple_int, isi_tuple_str, isi_tuple_list, isi_tuple_tuple, isi_tuple_dict, isi_dict_bool, isi_dict_int, isi_dict_str, isi_dict_list, isi_dict_tuple, isi_dict_dict, tyU_n, tyU_b, tyU_i, tyU_s, tyU_l, tyU_t, rngOk_i, zipU_map, intsU_map, blsU_map, oAll_l, oSum_l, oMax_l, cutU_1, cutU_m1, drop_map, reverse_map, length_map', dropLast_map, oEq_i, oNe_i, oEq_b, oNe_b, oEq_nn, oNe_nn, oEq_tt, oNe_tt, oEq_tn, oNe_tn, oEq_nt, oNe_nt, oEq_pp, oNe_pp, oEq_ii, oNe_ii, mIsiT_m, mCallL_m, lendM_ok, lendM_ex, lendA_some, lendR_b, lendR_i, lendR_n, lendR_ex, resolveL_nil, resolveL_v, resolveL_c, resC_c, mDict_m, dicO_ok, mpNil_m, mpCons_m, mpC_ok, mpC2_ok, mGet2_m, getO_some, keyU_i, keyU_s, mSortSet_m, setO_l, msTupVF_m, isiAny, List.zip_cons_cons, List.zip_nil_left, oEqS_s, oNeS_s, mCallF_m, oMul_s, miZipA_m, zpO_ok, zpP_ok, zpU_l, zpU_t, oIsN_i, oIsN_b, oIsN_t, unown, kills, cellAt, List.map_cons, List.map_nil, List.length_cons, List.length_nil, List.cons_append, List.nil_append, List.replicate, List.getElem?_cons_succ, List.getElem?_cons_zero, List.set_cons_zero, List.set_cons_succ, Option.map_some, Option.map_none, Option.bind_some, Option.bind_none, Nat.reduceAdd, Nat.reduceSub, Nat.reduceLeDiff, Int.reduceLT, Int.reduceLE, Int.reduceNeg, Int.reduceToNat, Int.reducePow, decide_eq_true_eq, reduceIte, eq_self, ite_true, ite_false, Bool.false_eq_true, reduceCtorEq, resolve, celJ, nCel, Slot.isC, List.filter, putJ, callM, callMF, List.append_eq, Nat.reduceLT, Int.reduceMul, Int.reduceAdd, Int.reduceSub, ne_eq, not_true_eq_false, not_false_eq_true, Bool.not_false, Bool.not_true, decide_true, decide_false, frF, Int.cast_ofNat_Int, Bool.and_true, Bool.true_and, Bool.false_and, Bool.and_false, Bool.or_false, Bool.false_or, Bool.true_or, Bool.or_true])
local macro_rules | `(tactic| ac_rfl) => `(tactic| (simp (disch := omega) only [*, mC_m, mVar_m, mLook_m, mLet_m, mSc_m, mNil_m, msNil_m, msSeq_m, msAsgF_m, msDrop_m, msRet_m, msRetF_m, msRetC_m, msRetN_m, msBrk_m, msCont_m, msRaise_m, msFor_m, mtYes_m, mtOne_m, mLc_m, mcNil_m, mcCel_m, mCall_m, moNone_m, moSome_m, mSlL_m, mBi_m, mBiF_m, miList_m, miTup_m, miRng1_m, miRng2_m, miEnum_m, miZip_m, mMeth_m, mMeth0_m, msSet_m, mCat_m, mRepeat_m, mChain_m, mIsi_m, msAug_m, mRev_m, mListRng_m, mCallF_m, msParVV_m, msParFV_m, msParVF_m, mMethD_m, mNew_m, mCMeth_m, mConC_m, msTry_m, mSup_m, okE_some, okE_none, opE_ok, opE_ex, opF_ok, opF_ex, mOp_e, mOpK_e, mIx_e, unE_ok, mUn_e, coE_ok, coE_ex, coF_ok, coF_ex, mCons_e, bindAE_ok, bindAE_ex, mTup_e, tupF_e, mFr_e, lstF_ok, mLst_e, tsE_ok, tsE_ex, mTest_e, okT_some, truE_ok, truE_ex, mTru_e, anE_t, anE_f, anE_ok, orE_t, orE_f, orE_ok, mAnd_e, mOr_e, noE_ok, noE_ex, mNot_e, blV_ok, blV_ex, anV_t, anV_f, anV_ok, orV_t, orV_f, orV_ok, mAndV_e, mOrV_e, noV_ok, noV_ex, mNotV_e, ifV_t, ifV_f, ifV_ok, mIf_e, ifS_t, ifS_f, ifS_ok, ifS_ex, msIf_e, nxO_some, asE_ok, asE_ex, msAsg_e, gcE_some, mgCons_e, mgNil_e, mgTup_e, mgName_e, cvE_ok, cvE_ex, consC_ok, mcVal_e, thenS_nx, thenS_bk, thenS_ct, thenS_rt, thenS_ex, bindES_ok, bindES_ex, bindAS_ok, bindAS_ex, bindE_ok, bindE_ex, mfOf_e, mfOf0_e, noX_val, noX_cel, coM_some, fin_val, fin_cel, fin_nx, fin_ex, oAdd_i, oSub_i, oMul_l, oMul_r, oMod_i, oDiv_i, oPow_i, oLt_i, oLe_i, oGt_i, oGe_i, oEqI_i, oNeI_i, oIx_l, oIx_f, oIx_t, at1_0, at2_0, at2_1, at3_0, at3_1, at3_2, at4_0, at4_1, at4_2, at4_3, ix3_0, ix3_1, ix3_2, oIsN_non, oNotN_non, oNotN_lst, oIsN_lst, oMax2_i, oMin2_i, oAbs_i, oInt_b, oLen_l, oLen_f, oLen_t, oNeg_i, truU_i, truU_l, truU_b, truU_n, lstU_l, lstU_f, ipAdd_i, ipSub_i, oAppend_u, lstF_0, tupF_0, lstF_1, tupF_1, lstF_2, tupF_2, lstF_3, tupF_3, lstF_4, tupF_4, lstF_5, tupF_5, lstF_6, tupF_6, isi_NoneType_bool, isi_NoneType_int, isi_NoneType_str, isi_NoneType_list, isi_NoneType_tuple, isi_NoneType_dict, isi_bool_bool, isi_bool_int, isi_bool_str, isi_bool_list, isi_bool_tuple, isi_bool_dict, isi_int_bool, isi_int_int, isi_int_str, isi_int_list, isi_int_tuple, isi_int_dict, isi_str_bool, isi_str_int, isi_str_str, isi_str_list, isi_str_tuple, isi_str_dict, isi_list_bool, isi_list_int, isi_list_str, isi_list_list, isi_list_tuple, isi_list_dict, isi_tuple_bool, isi_tuple_int, isi_tuple_str, isi_tuple_list, isi_tuple_tuple, isi_tuple_dict, isi_dict_bool, isi_dict_int, isi_dict_str, isi_dict_list, isi_dict_tuple, isi_dict_dict, tyU_n, tyU_b, tyU_i, tyU_s, tyU_l, tyU_t, rngOk_i, zipU_map, intsU_map, blsU_map, oAll_l, oSum_l, oMax_l, cutU_1, cutU_m1, drop_map, reverse_map, length_map', dropLast_map, oEq_i, oNe_i, oEq_b, oNe_b, oEq_nn, oNe_nn, oEq_tt, oNe_tt, oEq_tn, oNe_tn, oEq_nt, oNe_nt, oEq_pp, oNe_pp, oEq_ii, oNe_ii, mIsiT_m, mCallL_m, lendM_ok, lendM_ex, lendA_some, lendR_b, lendR_i, lendR_n, lendR_ex, resolveL_nil, resolveL_v, resolveL_c, resC_c, mDict_m, dicO_ok, mpNil_m, mpCons_m, mpC_ok, mpC2_ok, mGet2_m, getO_some, keyU_i, keyU_s, mSortSet_m, setO_l, msTupVF_m, isiAny, List.zip_cons_cons, List.zip_nil_left, oEqS_s, oNeS_s, mCallF_m, oMul_s, miZipA_m, zpO_ok, zpP_ok, zpU_l, zpU_t, oIsN_i, oIsN_b, oIsN_t, unown, kills, cellAt, List.map_cons, List.map_nil, List.length_cons, List.length_nil, List.cons_append, List.nil_append, List.replicate, List.getElem?_cons_succ, List.getElem?_cons_zero, List.set_cons_zero, List.set_cons_succ, Option.map_some, Option.map_none, Option.bind_some, Option.bind_none, Nat.reduceAdd, Nat.reduceSub, Nat.reduceLeDiff, Int.reduceLT, Int.reduceLE, Int.reduceNeg, Int.reduceToNat, Int.reducePow, decide_eq_true_eq, reduceIte, eq_self, ite_true, ite_false, Bool.false_eq_true, reduceCtorEq, resolve, celJ, nCel, Slot.isC, List.filter, putJ, callM, callMF, List.append_eq, Nat.reduceLT, Int.reduceMul, Int.reduceAdd, Int.reduceSub, ne_eq, not_true_eq_false, not_false_eq_true, Bool.not_false, Bool.not_true, decide_true, decide_false, frF, Int.cast_ofNat_Int, Bool.and_true, Bool.true_and, Bool.false_and, Bool.and_false, Bool.or_false, Bool.false_or, Bool.true_or, Bool.or_true, G__law_far_0, G__law_numbers_0, T__law_numbers_1, E__law_numbers_2, G__law_long_0, T__law_long_1, E__law_long_2, G__law_long_3, T__law_long_4, E__law_long_5, G__law_long_6, T__law_long_7, E__law_long_8, G__law_long_9, G__law_due_far_0, T__law_due_far_1, E__law_due_far_2, G__law_due_far_3, G__law_due_far_5, T__law_due_far_6, E__law_due_far_7, G__law_same_0, T__law_same_1, E__law_same_2, G__law_same_3, T__law_same_4, E__law_same_5, G_is_run_0, T_is_run_1, E_is_run_2, G_are_runs_0, T_are_runs_1, E_are_runs_2, G_are_runs_3, T_are_runs_4, E_are_runs_5, G_Plain_signs_0, T_Plain_signs_1, E_Plain_signs_2, G_Next_signs_0, G_Single_signs_0, G_Block_signs_0, G_Later_signs_0, G_Rule_total_0, T_Rule_total_1, E_Rule_total_2, G__law_worth_0, T__law_worth_1, E__law_worth_2, G__law_right_0, G_law_0, G_law_2, G_law_4, T_law_5, E_law_6, G_law_7, T_law_8, E_law_9]; try rfl))
theorem long_loop (most : Int) (M : List Int) (way : Int) (n : Nat) (g : List U) (hg : Feed g) (h : Nums M) (w0 : 0 ≤ way) (w1 : way < 4) (hn : 1 ≤ n) (hn2 : n ≤ 200) : ∃ (g' : List U) (w : List (Int × Int)), Feed g' ∧ w.length = n ∧ (∀ p ∈ w, p.1 ∈ M ∧ 1 ≤ p.2 ∧ p.2 < 1000000000000000000000000000000000000000000000000000000000000) ∧ Adj w ∧
    loopM (G__law_long_9 K).m (B__law_long_10 K).m [5, 6, 7, 8, 9, 10] (rangeU 0 n) (envL g most M way [] .non .non .non .non .non .non) = some (.nx (envL g' most M way w .non .non .non .non .non .non)) := by
  have st := @loopM_inv (G__law_long_9 K).m (B__law_long_10 K).m [5, 6, 7, 8, 9, 10]
    (fun us ρ => ∃ (g : List U) (w : List (Int × Int)), Feed g ∧ us.length + w.length = n ∧ (∀ u ∈ us, ∃ t : Int, 0 ≤ t ∧ u = .int t) ∧ (∀ p ∈ w, p.1 ∈ M ∧ 1 ≤ p.2 ∧ p.2 < 1000000000000000000000000000000000000000000000000000000000000) ∧ Adj w ∧ ρ = envL g most M way w .non .non .non .non .non .non)
  obtain ⟨ρ', e2, g', w, hg', q1, q2, q3, q4, rfl⟩ := st (by
    rintro u us ρ ⟨g, w, hg, q1, q2, q3, q4, rfl⟩
    obtain ⟨t, t0, rfl⟩ := q2 u List.mem_cons_self
    rw [List.length_cons] at q1
    obtain ⟨g', x, m, a, b, c, d, hg', hx, hne, m0, m1, e⟩ := long_step (K := K) g most M way w t hg h w0 w1 t0 (by omega)
    refine ⟨envL g most M way w (.val (.int t)) .non .non .non .non .non, _, rfl, .inl e, g', w ++ [(x, m)], hg', by rw [List.length_append, List.length_singleton]; omega, fun u hu => q2 u (List.mem_cons_of_mem _ hu), fun p hp => ?_, adj_snoc w (x, m) q4 hne, rfl⟩
    rcases List.mem_append.mp hp with z | z
    · exact q3 p z
    · rw [List.mem_singleton.mp z]; exact ⟨hx, m0, m1⟩)
    (rangeU 0 n) (envL g most M way [] .non .non .non .non .non .non) ⟨g, [], hg, by rw [rangeU_map]; simp, fun u hu => (by
      rw [rangeU_map] at hu
      obtain ⟨i, _, rfl⟩ := List.mem_map.mp hu
      exact ⟨_, by omega, rfl⟩), by simp, fun x hx => by simp at hx, rfl⟩
  exact ⟨g', w, hg', by simpa using q1, q3, q4, e2⟩
theorem words_of (M : List Int) (w : List (Int × Int)) (h : Nums M) (h1 : 1 ≤ w.length) (h2 : w.length ≤ 200) (h3 : ∀ p ∈ w, p.1 ∈ M ∧ 1 ≤ p.2 ∧ p.2 < 1000000000000000000000000000000000000000000000000000000000000) (h4 : Adj w) : WordS w :=
  ⟨⟨h1, h2, fun p hp => ⟨(h.bd _ (h3 p hp).1).1, (h3 p hp).2.1⟩, h4⟩, fun p hp => by
    have a := (h.bd _ (h3 p hp).1).2
    have b := (h3 p hp).2.2
    omega⟩
theorem setO_h (us : List U) (is : List Int) (he : us = is.map U.int) (hl : is.length ≤ 1000) (ρ : Env) : setO (some (.ok (.lst us) ρ)) = some (.ok ((sortI (dedI is)).map U.int) ρ) := by
  subst he
  exact setO_l is ρ hl
theorem comp0 (g : List U) (most : Int) (hg : Feed g) : ∃ (x1 x2 : Int) (g' : List U), Feed g' ∧ 1 ≤ x1 ∧ x1 < 1000000000000000000000000000000000000000000000000000000000000 ∧ 1 ≤ x2 ∧ x2 < 1000000000000000000000000000000000000000000000000000000000000 ∧
    lcM (G__law_long_0 K).m (T__law_long_1 K).m (E__law_long_2 K).m [5] [.int 0, .int 1] [] [.cel false g, .val (.int most), .non, .non, .non, .non, .non, .non, .non, .non, .non] = some (.ok [.int x1, .int x2] [.cel false g', .val (.int most), .non, .non, .non, .non, .non, .non, .non, .non, .non]) := by
  obtain ⟨x1, g1, h1, a1, b1, e1⟩ := far_k (K := K) false g hg
  obtain ⟨x2, g2, h2, a2, b2, e2⟩ := far_k (K := K) false g1 h1
  refine ⟨x1, x2, g2, h2, a1, b1, a2, b2, ?_⟩
  have q1 : (E__law_long_2 K).m [.cel false g, .val (.int most), .non, .non, .non, .val (.int 0), .non, .non, .non, .non, .non] = some (.ok (.int x1) [.cel false g1, .val (.int most), .non, .non, .non, .val (.int 0), .non, .non, .non, .non, .non]) := by
    clear a1 b1 a2 b2 h1 h2 hg
    ac_rfl
  have q2 : (E__law_long_2 K).m [.cel false g1, .val (.int most), .non, .non, .non, .val (.int 1), .non, .non, .non, .non, .non] = some (.ok (.int x2) [.cel false g2, .val (.int most), .non, .non, .non, .val (.int 1), .non, .non, .non, .non, .non]) := by
    clear a1 b1 a2 b2 h1 h2 hg q1
    ac_rfl
  simp only [lcM, G__law_long_0, T__law_long_1, mgName_e, mtYes_m, List.set_cons_zero, List.set_cons_succ, q1, q2, kills, List.length_nil, List.length_cons, List.nil_append, List.cons_append]
  rfl
theorem comp3 (g : List U) (most : Int) (M : List U) (n : Nat) (hn : n ≤ 200) : lcM (G__law_long_3 K).m (T__law_long_4 K).m (E__law_long_5 K).m [5] (rangeU 0 n) [] [.cel false g, .val (.int most), .val (.lst M), .non, .non, .non, .non, .non, .non, .non, .non] =
    some (.ok (((List.range n).map fun i : Nat => (61 + (0 + (i : Int)))).map U.int) [.cel false g, .val (.int most), .val (.lst M), .non, .non, .non, .non, .non, .non, .non, .non]) := by
  rw [rangeU_map, lcM_all (fun i : Nat => U.int (0 + (i : Int))) (fun i : Nat => U.int (61 + (0 + (i : Int)))) (List.range n) (by simp; omega) ?hh]
  case hh =>
    intro i hi
    clear hi hn
    exact ⟨_, _, _, (by ac_rfl), (by ac_rfl), (by ac_rfl), rfl⟩
  rw [List.map_map]
  rfl
theorem nums1 (x1 x2 : Int) (ns : List Int) (a1 : 1 ≤ x1) (b1 : x1 < 1000000000000000000000000000000000000000000000000000000000000) (a2 : 1 ≤ x2) (b2 : x2 < 1000000000000000000000000000000000000000000000000000000000000) (hn : ∀ n ∈ ns, 1 ≤ n ∧ n ≤ 60) (hd : ns.Nodup) (hl : 2 ≤ ns.length) (hl2 : ns.length ≤ 6) : Nums (sortI (dedI (x1 :: x2 :: ns))) := by
  refine ⟨fun x hx => ?_, ?_, ?_⟩
  · rw [sd_mem] at hx
    rcases List.mem_cons.mp hx with rfl | hx
    · exact ⟨a1, b1⟩
    · rcases List.mem_cons.mp hx with rfl | hx
      · exact ⟨a2, b2⟩
      · have := hn x hx; omega
  · obtain ⟨a, b, ha, hb, hab⟩ := two_of_nodup ns hd hl
    exact ⟨a, b, (sd_mem _ _).mpr (by simp [ha]), (sd_mem _ _).mpr (by simp [hb]), hab⟩
  · have := sd_len (x1 :: x2 :: ns)
    simp only [List.length_cons] at this
    omega
theorem nums2 (M : List Int) (n : Nat) (h : Nums M) (hl : M.length ≤ 10) (hn : n ≤ 200) : Nums (sortI (dedI (M ++ (List.range n).map fun i : Nat => (61 + (0 + (i : Int)))))) := by
  refine ⟨fun x hx => ?_, ?_, ?_⟩
  · rw [sd_mem] at hx
    rcases List.mem_append.mp hx with hx | hx
    · exact h.bd x hx
    · obtain ⟨i, hi, rfl⟩ := List.mem_map.mp hx
      have := List.mem_range.mp hi
      omega
  · obtain ⟨a, b, ha, hb, hab⟩ := h.two
    exact ⟨a, b, (sd_mem _ _).mpr (by simp [ha]), (sd_mem _ _).mpr (by simp [hb]), hab⟩
  · have := sd_len (M ++ (List.range n).map fun i : Nat => (61 + (0 + (i : Int))))
    rw [List.length_append, List.length_map, List.length_range] at this
    omega
theorem long_k (own : Bool) (f : List U) (most : Int) (hf : Feed f) (h1 : 1 ≤ most) (h2 : most ≤ 200) : ∃ (w : List (Int × Int)) (f' : List U), Feed f' ∧ WordS w ∧ mf__law_long K [.cel own f, .val (.int most)] = some (.cel (w.map pU) (some f')) := by
  obtain ⟨x1, x2, g1, hg1, a1, b1, a2, b2, e1⟩ := comp0 (K := K) f most hf
  obtain ⟨d, g2, d0, d1, hg2, e2⟩ := pick_k (K := K) false g1 5 hg1 (by omega) (by omega)
  obtain ⟨ns, g3, hg3, nl, nb, nd, e3⟩ := numbers_k (K := K) false g2 (2 + d) 60 hg2 (by omega) (by omega) (by omega)
  have N1 := nums1 x1 x2 ns a1 b1 a2 b2 nb nd (by omega) (by omega)
  have s1 := setO_h (U.int x1 :: U.int x2 :: ns.map U.int) (x1 :: x2 :: ns) rfl (by simp only [List.length_cons]; omega)
  have l1 : (sortI (dedI (x1 :: x2 :: ns))).length ≤ 10 := by have := sd_len (x1 :: x2 :: ns); simp only [List.length_cons] at this; omega
  have hq1 : 2 + (ns.map U.int).length ≤ 16777216 := by rw [List.length_map]; omega
  generalize hM : sortI (dedI (x1 :: x2 :: ns)) = M1 at *
  obtain ⟨c, g4, c0, c1, hg4, e4⟩ := pick_k (K := K) false g3 2 hg3 (by omega) (by omega)
  have e5 := comp3 (K := K) g4 most (M1.map U.int) most.toNat (by omega)
  have s2 := setO_h (M1.map U.int ++ ((List.range most.toNat).map fun i : Nat => (61 + (0 + (i : Int)))).map U.int) (M1 ++ (List.range most.toNat).map fun i : Nat => (61 + (0 + (i : Int)))) (by rw [List.map_append]) (by rw [List.length_append, List.length_map, List.length_range]; omega)
  have N2 := nums2 M1 most.toNat N1 l1 (by omega)
  generalize hM2 : sortI (dedI (M1 ++ (List.range most.toNat).map fun i : Nat => (61 + (0 + (i : Int))))) = M2 at *
  have hq2 : (M1.map U.int).length + (((List.range most.toNat).map fun i : Nat => (61 + (0 + (i : Int)))).map U.int).length ≤ 16777216 := by rw [List.length_map, List.length_map, List.length_map, List.length_range]; omega
  generalize ((List.range most.toNat).map fun i : Nat => (61 + (0 + (i : Int)))).map U.int = X2 at *
  obtain ⟨way, g5, w0, w1, hg5, e6⟩ := pick_k (K := K) false g4 4 hg4 (by omega) (by omega)
  obtain ⟨d2, g6, p0, p1, hg6, e7⟩ := pick_k (K := K) false g5 most hg5 (by omega) (by omega)
  obtain ⟨d3, g7, r0, r1, hg7, e8⟩ := pick_k (K := K) false g6 2 hg6 (by omega) (by omega)
  have key : ∃ n : Int, 1 ≤ n ∧ n ≤ most ∧ atI [U.int most, U.int (1 + d2)] d3 = some (.int n) := by
    have : d3 = 0 ∨ d3 = 1 := by omega
    rcases this with rfl | rfl
    · exact ⟨_, h1, by omega, rfl⟩
    · exact ⟨_, by omega, by omega, rfl⟩
  obtain ⟨n, n0, n1, e9⟩ := key
  have hr1 : rngOk 0 2 = true := by decide
  have hr2 : rngOk 0 most = true := rngOk_i 0 most (by omega) (by omega) (by omega) (by omega)
  have hr3 : rngOk 0 n = true := rngOk_i 0 n (by omega) (by omega) (by omega) (by omega)
  have er1 : rangeU 0 2 = [.int 0, .int 1] := rfl
  by_cases hc : c = 0
  · obtain ⟨g8, w, hg8, wl, w3, w4, eL⟩ := long_loop (K := K) most M2 way n.toNat g7 hg7 N2 w0 w1 (by omega) (by omega)
    refine ⟨w, g8, hg8, words_of M2 w N2 (by omega) (by omega) w3 w4, ?_⟩
    have hc' : decide (c = 0) = true := by simp [hc]
    unfold envL at eL
    rw [List.map_nil] at eL
    clear a1 b1 a2 b2 d0 d1 nl nb nd N1 N2 l1 hM hM2 c0 c1 w0 w1 p0 p1 r0 r1 n0 n1 wl w3 w4 h1 h2 hf hg1 hg2 hg3 hg4 hg5 hg6 hg7 hg8 hc
    unfold mf__law_long M__law_long
    trivial
  · obtain ⟨g8, w, hg8, wl, w3, w4, eL⟩ := long_loop (K := K) most M1 way n.toNat g7 hg7 N1 w0 w1 (by omega) (by omega)
    refine ⟨w, g8, hg8, words_of M1 w N1 (by omega) (by omega) w3 w4, ?_⟩
    have hc' : decide (c = 0) = false := by simp [hc]
    unfold envL at eL
    rw [List.map_nil] at eL
    clear a1 b1 a2 b2 d0 d1 nl nb nd N1 N2 l1 hM hM2 c0 c1 w0 w1 p0 p1 r0 r1 n0 n1 wl w3 w4 h1 h2 hf hg1 hg2 hg3 hg4 hg5 hg6 hg7 hg8 hc
    unfold mf__law_long M__law_long
    trivial

end Sg

set_option Elab.async false
set_option linter.all false
set_option maxRecDepth 100000
set_option maxHeartbeats 1000000
namespace Sg
open PySem L2
variable {K : PySem.W.Frag}
local macro_rules | `(tactic| trivial) => `(tactic| simp (disch := omega) only [*, mC_m, mVar_m, mLook_m, mLet_m, mSc_m, mNil_m, msNil_m, msSeq_m, msAsgF_m, msDrop_m, msRet_m, msRetF_m, msRetC_m, msRetN_m, msBrk_m, msCont_m, msRaise_m, msFor_m, mtYes_m, mtOne_m, mLc_m, mcNil_m, mcCel_m, mCall_m, moNone_m, moSome_m, mSlL_m, mBi_m, mBiF_m, miList_m, miTup_m, miRng1_m, miRng2_m, miEnum_m, miZip_m, mMeth_m, mMeth0_m, msSet_m, mCat_m, mRepeat_m, mChain_m, mIsi_m, msAug_m, mRev_m, mListRng_m, mCallF_m, msParVV_m, msParFV_m, msParVF_m, mMethD_m, mNew_m, mCMeth_m, mConC_m, msTry_m, mSup_m, okE_some, okE_none, opE_ok, opE_ex, opF_ok, opF_ex, mOp_e, mOpK_e, mIx_e, unE_ok, mUn_e, coE_ok, coE_ex, coF_ok, coF_ex, mCons_e, bindAE_ok, bindAE_ex, mTup_e, tupF_e, mFr_e, lstF_ok, mLst_e, tsE_ok, tsE_ex, mTest_e, okT_some, truE_ok, truE_ex, mTru_e, anE_t, anE_f, anE_ok, orE_t, orE_f, orE_ok, mAnd_e, mOr_e, noE_ok, noE_ex, mNot_e, blV_ok, blV_ex, anV_t, anV_f, anV_ok, orV_t, orV_f, orV_ok, mAndV_e, mOrV_e, noV_ok, noV_ex, mNotV_e, ifV_t, ifV_f, ifV_ok, mIf_e, ifS_t, ifS_f, ifS_ok, ifS_ex, msIf_e, nxO_some, asE_ok, asE_ex, msAsg_e, gcE_some, mgCons_e, mgNil_e, mgTup_e, mgName_e, cvE_ok, cvE_ex, consC_ok, mcVal_e, thenS_nx, thenS_bk, thenS_ct, thenS_rt, thenS_ex, bindES_ok, bindES_ex, bindAS_ok, bindAS_ex, bindE_ok, bindE_ex, mfOf_e, mfOf0_e, noX_val, noX_cel, coM_some, fin_val, fin_cel, fin_nx, fin_ex, oAdd_i, oSub_i, oMul_l, oMul_r, oMod_i, oDiv_i, oPow_i, oLt_i, oLe_i, oGt_i, oGe_i, oEqI_i, oNeI_i, oIx_l, oIx_f, oIx_t, at1_0, at2_0, at2_1, at3_0, at3_1, at3_2, at4_0, at4_1, at4_2, at4_3, ix3_0, ix3_1, ix3_2, oIsN_non, oNotN_non, oNotN_lst, oIsN_lst, oMax2_i, oMin2_i, oAbs_i, oInt_b, oLen_l, oLen_f, oLen_t, oNeg_i, truU_i, truU_l, truU_b, truU_n, lstU_l, lstU_f, ipAdd_i, ipSub_i, oAppend_u, lstF_0, tupF_0, lstF_1, tupF_1, lstF_2, tupF_2, lstF_3, tupF_3, lstF_4, tupF_4, lstF_5, tupF_5, lstF_6, tupF_6, isi_NoneType_bool, isi_NoneType_int, isi_NoneType_str, isi_NoneType_list, isi_NoneType_tuple, isi_NoneType_dict, isi_bool_bool, isi_bool_int, isi_bool_str, isi_bool_list, isi_bool_tuple, isi_bool_dict, isi_int_bool, isi_int_int, isi_int_str, isi_int_list, isi_int_tuple, isi_int_dict, isi_str_bool, isi_str_int, isi_str_str, isi_str_list, isi_str_tuple, isi_str_dict, isi_list_bool, isi_list_int, isi_list_str, isi_list_list, isi_list_tuple, isi_list_dict, isi_tuple_bool, isi_tuple_int, isi_tuple_str, isi_tuple_list, isi_tuple_tuple, isi_tuple_dict, isi_dict_bool, isi_dict_int, isi_dict_str, isi_dict_list, isi_dict_tuple, isi_dict_dict, tyU_n, tyU_b, tyU_i, tyU_s, tyU_l, tyU_t, rngOk_i, zipU_map, intsU_map, blsU_map, oAll_l, oSum_l, oMax_l, cutU_1, cutU_m1, drop_map, reverse_map, length_map', dropLast_map, oEq_i, oNe_i, oEq_b, oNe_b, oEq_nn, oNe_nn, oEq_tt, oNe_tt, oEq_tn, oNe_tn, oEq_nt, oNe_nt, oEq_pp, oNe_pp, oEq_ii, oNe_ii, mIsiT_m, mCallL_m, lendM_ok, lendM_ex, lendA_some, lendR_b, lendR_i, lendR_n, lendR_ex, resolveL_nil, resolveL_v, resolveL_c, resC_c, mDict_m, dicO_ok, mpNil_m, mpCons_m, mpC_ok, mpC2_ok, mGet2_m, getO_some, keyU_i, keyU_s, mSortSet_m, setO_l, msTupVF_m, isiAny, List.zip_cons_cons, List.zip_nil_left, oEqS_s, oNeS_s, mCallF_m, oMul_s, miZipA_m, zpO_ok, zpP_ok, zpU_l, zpU_t, oIsN_i, oIsN_b, oIsN_t, unown, kills, cellAt, List.map_cons, List.map_nil, List.length_cons, List.length_nil, List.cons_append, List.nil_append, List.replicate, List.getElem?_cons_succ, List.getElem?_cons_zero, List.set_cons_zero, List.set_cons_succ, Option.map_some, Option.map_none, Option.bind_some, Option.bind_none, Nat.reduceAdd, Nat.reduceSub, Nat.reduceLeDiff, Int.reduceLT, Int.reduceLE, Int.reduceNeg, Int.reduceToNat, Int.reducePow, decide_eq_true_eq, reduceIte, eq_self, ite_true, ite_false, Bool.false_eq_true, reduceCtorEq, resolve, celJ, nCel, Slot.isC, List.filter, putJ, callM, callMF, List.append_eq, Nat.reduceLT, Int.reduceMul, Int.reduceAdd, Int.reduceSub, ne_eq, not_true_eq_false, not_false_eq_true, Bool.not_false, Bool.not_true, decide_true, decide_false, frF, Int.cast_ofNat_Int, Bool.and_true, Bool.true_and, Bool.false_and, Bool.and_false, Bool.or_false, Bool.false_or, Bool.true_or, Bool.or_true])
local macro_rules | `(tactic| ac_rfl) => `(tactic| (simp (disch := omega) only [*, mC_m, mVar_m, mLook_m, mLet_m, mSc_m, mNil_m, msNil_m, msSeq_m, msAsgF_m, msDrop_m, msRet_m, msRetF_m, msRetC_m, msRetN_m, msBrk_m, msCont_m, msRaise_m, msFor_m, mtYes_m, mtOne_m, mLc_m, mcNil_m, mcCel_m, mCall_m, moNone_m, moSome_m, mSlL_m, mBi_m, mBiF_m, miList_m, miTup_m, miRng1_m, miRng2_m, miEnum_m, miZip_m, mMeth_m, mMeth0_m, msSet_m, mCat_m, mRepeat_m, mChain_m, mIsi_m, msAug_m, mRev_m, mListRng_m, mCallF_m, msParVV_m, msParFV_m, msParVF_m, mMethD_m, mNew_m, mCMeth_m, mConC_m, msTry_m, mSup_m, okE_some, okE_none, opE_ok, opE_ex, opF_ok, opF_ex, mOp_e, mOpK_e, mIx_e, unE_ok, mUn_e, coE_ok, coE_ex, coF_ok, coF_ex, mCons_e, bindAE_ok, bindAE_ex, mTup_e, tupF_e, mFr_e, lstF_ok, mLst_e, tsE_ok, tsE_ex, mTest_e, okT_some, truE_ok, truE_ex, mTru_e, anE_t, anE_f, anE_ok, orE_t, orE_f, orE_ok, mAnd_e, mOr_e, noE_ok, noE_ex, mNot_e, blV_ok, blV_ex, anV_t, anV_f, anV_ok, orV_t, orV_f, orV_ok, mAndV_e, mOrV_e, noV_ok, noV_ex, mNotV_e, ifV_t, ifV_f, ifV_ok, mIf_e, ifS_t, ifS_f, ifS_ok, ifS_ex, msIf_e, nxO_some, asE_ok, asE_ex, msAsg_e, gcE_some, mgCons_e, mgNil_e, mgTup_e, mgName_e, cvE_ok, cvE_ex, consC_ok, mcVal_e, thenS_nx, thenS_bk, thenS_ct, thenS_rt, thenS_ex, bindES_ok, bindES_ex, bindAS_ok, bindAS_ex, bindE_ok, bindE_ex, mfOf_e, mfOf0_e, noX_val, noX_cel, coM_some, fin_val, fin_cel, fin_nx, fin_ex, oAdd_i, oSub_i, oMul_l, oMul_r, oMod_i, oDiv_i, oPow_i, oLt_i, oLe_i, oGt_i, oGe_i, oEqI_i, oNeI_i, oIx_l, oIx_f, oIx_t, at1_0, at2_0, at2_1, at3_0, at3_1, at3_2, at4_0, at4_1, at4_2, at4_3, ix3_0, ix3_1, ix3_2, oIsN_non, oNotN_non, oNotN_lst, oIsN_lst, oMax2_i, oMin2_i, oAbs_i, oInt_b, oLen_l, oLen_f, oLen_t, oNeg_i, truU_i, truU_l, truU_b, truU_n, lstU_l, lstU_f, ipAdd_i, ipSub_i, oAppend_u, lstF_0, tupF_0, lstF_1, tupF_1, lstF_2, tupF_2, lstF_3, tupF_3, lstF_4, tupF_4, lstF_5, tupF_5, lstF_6, tupF_6, isi_NoneType_bool, isi_NoneType_int, isi_NoneType_str, isi_NoneType_list, isi_NoneType_tuple, isi_NoneType_dict, isi_bool_bool, isi_bool_int, isi_bool_str, isi_bool_list, isi_bool_tuple, isi_bool_dict, isi_int_bool, isi_int_int, isi_int_str, isi_int_list, isi_int_tuple, isi_int_dict, isi_str_bool, isi_str_int, isi_str_str, isi_str_list, isi_str_tuple, isi_str_dict, isi_list_bool, isi_list_int, isi_list_str, isi_list_list, isi_list_tuple, isi_list_dict, isi_tuple_bool, isi_tuple_int, isi_tuple_str, isi_tuple_list, isi_tuple_tuple, isi_tuple_dict, isi_dict_bool, isi_dict_int, isi_dict_str, isi_dict_list, isi_dict_tuple, isi_dict_dict, tyU_n, tyU_b, tyU_i, tyU_s, tyU_l, tyU_t, rngOk_i, zipU_map, intsU_map, blsU_map, oAll_l, oSum_l, oMax_l, cutU_1, cutU_m1, drop_map, reverse_map, length_map', dropLast_map, oEq_i, oNe_i, oEq_b, oNe_b, oEq_nn, oNe_nn, oEq_tt, oNe_tt, oEq_tn, oNe_tn, oEq_nt, oNe_nt, oEq_pp, oNe_pp, oEq_ii, oNe_ii, mIsiT_m, mCallL_m, lendM_ok, lendM_ex, lendA_some, lendR_b, lendR_i, lendR_n, lendR_ex, resolveL_nil, resolveL_v, resolveL_c, resC_c, mDict_m, dicO_ok, mpNil_m, mpCons_m, mpC_ok, mpC2_ok, mGet2_m, getO_some, keyU_i, keyU_s, mSortSet_m, setO_l, msTupVF_m, isiAny, List.zip_cons_cons, List.zip_nil_left, oEqS_s, oNeS_s, mCallF_m, oMul_s, miZipA_m, zpO_ok, zpP_ok, zpU_l, zpU_t, oIsN_i, oIsN_b, oIsN_t, unown, kills, cellAt, List.map_cons, List.map_nil, List.length_cons, List.length_nil, List.cons_append, List.nil_append, List.replicate, List.getElem?_cons_succ, List.getElem?_cons_zero, List.set_cons_zero, List.set_cons_succ, Option.map_some, Option.map_none, Option.bind_some, Option.bind_none, Nat.reduceAdd, Nat.reduceSub, Nat.reduceLeDiff, Int.reduceLT, Int.reduceLE, Int.reduceNeg, Int.reduceToNat, Int.reducePow, decide_eq_true_eq, reduceIte, eq_self, ite_true, ite_false, Bool.false_eq_true, reduceCtorEq, resolve, celJ, nCel, Slot.isC, List.filter, putJ, callM, callMF, List.append_eq, Nat.reduceLT, Int.reduceMul, Int.reduceAdd, Int.reduceSub, ne_eq, not_true_eq_false, not_false_eq_true, Bool.not_false, Bool.not_true, decide_true, decide_false, frF, Int.cast_ofNat_Int, Bool.and_true, Bool.true_and, Bool.false_and, Bool.and_false, Bool.or_false, Bool.false_or, Bool.true_or, Bool.or_true, G__law_far_0, G__law_numbers_0, T__law_numbers_1, E__law_numbers_2, G__law_long_0, T__law_long_1, E__law_long_2, G__law_long_3, T__law_long_4, E__law_long_5, G__law_long_6, T__law_long_7, E__law_long_8, G__law_long_9, G__law_due_far_0, T__law_due_far_1, E__law_due_far_2, G__law_due_far_3, G__law_due_far_5, T__law_due_far_6, E__law_due_far_7, G__law_same_0, T__law_same_1, E__law_same_2, G__law_same_3, T__law_same_4, E__law_same_5, G_is_run_0, T_is_run_1, E_is_run_2, G_are_runs_0, T_are_runs_1, E_are_runs_2, G_are_runs_3, T_are_runs_4, E_are_runs_5, G_Plain_signs_0, T_Plain_signs_1, E_Plain_signs_2, G_Next_signs_0, G_Single_signs_0, G_Block_signs_0, G_Later_signs_0, G_Rule_total_0, T_Rule_total_1, E_Rule_total_2, G__law_worth_0, T__law_worth_1, E__law_worth_2, G__law_right_0, G_law_0, G_law_2, G_law_4, T_law_5, E_law_6, G_law_7, T_law_8, E_law_9]; try rfl))
theorem adj_ix : ∀ w : List (Int × Int), Adj w → ∀ j p q, w[j]? = some p → w[j + 1]? = some q → p.1 ≠ q.1
  | [], _, j, p, q, hp, _ => by simp at hp
  | [a], _, j, p, q, _, hq => by simp at hq
  | a :: b :: r, h, 0, p, q, hp, hq => by
    simp at hp hq
    subst hp
    subst hq
    exact h (a, b) (by show (a, b) ∈ (a, b) :: _; exact List.mem_cons_self)
  | a :: b :: r, h, j + 1, p, q, hp, hq => by
    refine adj_ix (b :: r) (fun x hx => h x ?_) j p q (by simpa using hp) (by simpa using hq)
    show x ∈ (a, b) :: (b :: r).zip ((b :: r).drop 1)
    exact List.mem_cons_of_mem _ hx
theorem ix_adj : ∀ w : List (Int × Int), (∀ j p q, w[j]? = some p → w[j + 1]? = some q → p.1 ≠ q.1) → Adj w
  | [], _ => fun x hx => by simp at hx
  | [a], _ => fun x hx => by simp at hx
  | a :: b :: r, h => fun x hx => by
    have hx' : x ∈ (a, b) :: (b :: r).zip ((b :: r).drop 1) := hx
    rcases List.mem_cons.mp hx' with e | e
    · rw [e]; exact h 0 a b rfl rfl
    · exact ix_adj (b :: r) (fun j p q hp hq => h (j + 1) p q (by simpa using hp) (by simpa using hq)) x e
theorem wordS_rev {w : List (Int × Int)} (h : WordS w) : WordS w.reverse := by
  have ht := h.ok.top
  refine ⟨⟨by rw [List.length_reverse]; exact h.ok.pos, by rw [List.length_reverse]; exact ht, fun p hp => h.ok.runs p (List.mem_reverse.mp hp), ?_⟩, fun p hp => h.sm p (List.mem_reverse.mp hp)⟩
  refine ix_adj _ fun j p q hp hq => ?_
  have h1 : j + 1 < w.length := by
    have := (List.getElem?_eq_some_iff.mp hq).1
    rw [List.length_reverse] at this
    exact this
  rw [List.getElem?_reverse (by omega)] at hp hq
  have := adj_ix w h.ok.adj (w.length - 1 - (j + 1)) q p hq (by rw [show w.length - 1 - (j + 1) + 1 = w.length - 1 - j from by omega]; exact hp)
  exact fun e => this e.symm
theorem wordS_set {w : List (Int × Int)} (h : WordS w) (i : Nat) (p : Int × Int) (m : Int) (hi : w[i]? = some p) (m0 : 1 ≤ m) (m1 : m < 1000000000000000000000000000000000000000000000000000000000000) : WordS (w.set i (p.1, m)) := by
  have hl : i < w.length := (List.getElem?_eq_some_iff.mp hi).1
  have hp : p ∈ w := List.mem_of_getElem? hi
  refine ⟨⟨by rw [List.length_set]; exact h.ok.pos, by rw [List.length_set]; exact h.ok.top, fun q hq => ?_, ?_⟩, fun q hq => ?_⟩
  · rcases List.mem_or_eq_of_mem_set hq with e | e
    · exact h.ok.runs q e
    · rw [e]; exact ⟨(h.ok.runs p hp).1, m0⟩
  · refine ix_adj _ fun j a b ha hb => ?_
    have key : ∀ (k : Nat) (c : Int × Int), (w.set i (p.1, m))[k]? = some c → ∃ d : Int × Int, w[k]? = some d ∧ d.1 = c.1 := fun k c hc => by
      rw [List.getElem?_set] at hc
      by_cases e : i = k
      · subst e
        rw [if_pos rfl, if_pos hl] at hc
        cases hc
        exact ⟨p, hi, rfl⟩
      · rw [if_neg e] at hc
        exact ⟨c, hc, rfl⟩
    obtain ⟨a', ha', ea⟩ := key j a ha
    obtain ⟨b', hb', eb⟩ := key (j + 1) b hb
    rw [← ea, ← eb]
    exact adj_ix w h.ok.adj j a' b' ha' hb'
  · rcases List.mem_or_eq_of_mem_set hq with e | e
    · exact h.sm q e
    · rw [e]
      have := (h.sm p hp).1
      exact ⟨this, by show m < _; omega⟩
theorem ixN_ok (n : Nat) (i : Int) (h0 : 0 ≤ i) (h1 : i < n) : ixN n i = some i.toNat := by
  have : ¬ i < 0 := by omega
  unfold ixN
  simp [this, h0, h1]
theorem rev_u (us : List U) : (oReverse (K := K)).f us [] = some (.non, us.reverse) := rfl
theorem law_body (S : U) (k : Int) (g : List U) (most : Int) (hg : Feed g) (h1 : 1 ≤ most) (h2 : most ≤ 200) : ∃ (g' : List U) (x y : Slot), Feed g' ∧
    (B_law_1 K).m [.val S, .val (.int k), .non, .non, .non, .cel true g, .val (.int most), .non, .non, .non] = some (.nx [.val S, .val (.int k), .non, .non, .non, .cel true g', .val (.int most), x, y, .non]) := by
  obtain ⟨w, g1, hg1, hw, e1⟩ := long_k (K := K) true g most hg h1 h2
  have e2 := right4 (K := K) w hw
  have hw2 := wordS_rev hw
  have e3 := right4 (K := K) w.reverse hw2
  have er := rev_u (K := K) (w.map pU)
  rw [← List.map_reverse] at er
  generalize w.reverse = v at *
  have hv1 := hw2.ok.pos
  have hv2 := hw2.ok.top
  obtain ⟨at_, g2, a0, a1, hg2, e4⟩ := pick_k (K := K) true g1 (v.length : Int) hg1 (by omega) (by omega)
  obtain ⟨m, g3, hg3, m0, m1, e5⟩ := far_k (K := K) true g2 hg2
  obtain ⟨p, hp, hpi, e6⟩ := atI_map pU (xs := v) a0 a1
  have e7 := right4 (K := K) (v.set at_.toNat (p.1, m)) (wordS_set hw2 _ p m hpi m0 m1)
  have e8 : (v.map pU).set at_.toNat (U.tup [.int p.1, .int m]) = (v.set at_.toNat (p.1, m)).map pU := by rw [List.map_set]
  have e9 : ixN (v.map pU).length at_ = some at_.toNat := ixN_ok _ _ a0 (by rw [List.length_map]; exact a1)
  have e10 : ((v.map pU).length : Int) = (v.length : Int) := by rw [List.length_map]
  refine ⟨g3, .cel true ((v.set at_.toNat (p.1, m)).map pU), .val (.int at_), hg3, ?_⟩
  generalize (v.set at_.toNat (p.1, m)).map pU = V2 at *
  generalize w.map pU = W1 at *
  generalize hV : v.map pU = V1 at *
  clear hw hw2 hv1 hv2 a0 a1 m0 m1 hp hpi hg hg1 hg2 hg3 h1 h2 hV
  have e11 : atI [U.int p.1, U.int p.2] 0 = some (U.int p.1) := rfl
  have e12 : (scV (U.int p.1)).isSome = true := rfl
  unfold B_law_1
  trivial

end Sg

set_option Elab.async false
set_option linter.all false
set_option maxRecDepth 100000
set_option maxHeartbeats 1000000
namespace Sg
open PySem L2
variable {K : PySem.W.Frag}
local macro_rules | `(tactic| trivial) => `(tactic| simp (disch := omega) only [*, mC_m, mVar_m, mLook_m, mLet_m, mSc_m, mNil_m, msNil_m, msSeq_m, msAsgF_m, msDrop_m, msRet_m, msRetF_m, msRetC_m, msRetN_m, msBrk_m, msCont_m, msRaise_m, msFor_m, mtYes_m, mtOne_m, mLc_m, mcNil_m, mcCel_m, mCall_m, moNone_m, moSome_m, mSlL_m, mBi_m, mBiF_m, miList_m, miTup_m, miRng1_m, miRng2_m, miEnum_m, miZip_m, mMeth_m, mMeth0_m, msSet_m, mCat_m, mRepeat_m, mChain_m, mIsi_m, msAug_m, mRev_m, mListRng_m, mCallF_m, msParVV_m, msParFV_m, msParVF_m, mMethD_m, mNew_m, mCMeth_m, mConC_m, msTry_m, mSup_m, okE_some, okE_none, opE_ok, opE_ex, opF_ok, opF_ex, mOp_e, mOpK_e, mIx_e, unE_ok, mUn_e, coE_ok, coE_ex, coF_ok, coF_ex, mCons_e, bindAE_ok, bindAE_ex, mTup_e, tupF_e, mFr_e, lstF_ok, mLst_e, tsE_ok, tsE_ex, mTest_e, okT_some, truE_ok, truE_ex, mTru_e, anE_t, anE_f, anE_ok, orE_t, orE_f, orE_ok, mAnd_e, mOr_e, noE_ok, noE_ex, mNot_e, blV_ok, blV_ex, anV_t, anV_f, anV_ok, orV_t, orV_f, orV_ok, mAndV_e, mOrV_e, noV_ok, noV_ex, mNotV_e, ifV_t, ifV_f, ifV_ok, mIf_e, ifS_t, ifS_f, ifS_ok, ifS_ex, msIf_e, nxO_some, asE_ok, asE_ex, msAsg_e, gcE_some, mgCons_e, mgNil_e, mgTup_e, mgName_e, cvE_ok, cvE_ex, consC_ok, mcVal_e, thenS_nx, thenS_bk, thenS_ct, thenS_rt, thenS_ex, bindES_ok, bindES_ex, bindAS_ok, bindAS_ex, bindE_ok, bindE_ex, mfOf_e, mfOf0_e, noX_val, noX_cel, coM_some, fin_val, fin_cel, fin_nx, fin_ex, oAdd_i, oSub_i, oMul_l, oMul_r, oMod_i, oDiv_i, oPow_i, oLt_i, oLe_i, oGt_i, oGe_i, oEqI_i, oNeI_i, oIx_l, oIx_f, oIx_t, at1_0, at2_0, at2_1, at3_0, at3_1, at3_2, at4_0, at4_1, at4_2, at4_3, ix3_0, ix3_1, ix3_2, oIsN_non, oNotN_non, oNotN_lst, oIsN_lst, oMax2_i, oMin2_i, oAbs_i, oInt_b, oLen_l, oLen_f, oLen_t, oNeg_i, truU_i, truU_l, truU_b, truU_n, lstU_l, lstU_f, ipAdd_i, ipSub_i, oAppend_u, lstF_0, tupF_0, lstF_1, tupF_1, lstF_2, tupF_2, lstF_3, tupF_3, lstF_4, tupF_4, lstF_5, tupF_5, lstF_6, tupF_6, isi_NoneType_bool, isi_NoneType_int, isi_NoneType_str, isi_NoneType_list, isi_NoneType_tuple, isi_NoneType_dict, isi_bool_bool, isi_bool_int, isi_bool_str, isi_bool_list, isi_bool_tuple, isi_bool_dict, isi_int_bool, isi_int_int, isi_int_str, isi_int_list, isi_int_tuple, isi_int_dict, isi_str_bool, isi_str_int, isi_str_str, isi_str_list, isi_str_tuple, isi_str_dict, isi_list_bool, isi_list_int, isi_list_str, isi_list_list, isi_list_tuple, isi_list_dict, isi_tuple_bool, isi_tuple_int, isi_tuple_str, isi_tuple_list, isi_tuple_tuple, isi_tuple_dict, isi_dict_bool, isi_dict_int, isi_dict_str, isi_dict_list, isi_dict_tuple, isi_dict_dict, tyU_n, tyU_b, tyU_i, tyU_s, tyU_l, tyU_t, rngOk_i, zipU_map, intsU_map, blsU_map, oAll_l, oSum_l, oMax_l, cutU_1, cutU_m1, drop_map, reverse_map, length_map', dropLast_map, oEq_i, oNe_i, oEq_b, oNe_b, oEq_nn, oNe_nn, oEq_tt, oNe_tt, oEq_tn, oNe_tn, oEq_nt, oNe_nt, oEq_pp, oNe_pp, oEq_ii, oNe_ii, mIsiT_m, mCallL_m, lendM_ok, lendM_ex, lendA_some, lendR_b, lendR_i, lendR_n, lendR_ex, resolveL_nil, resolveL_v, resolveL_c, resC_c, mDict_m, dicO_ok, mpNil_m, mpCons_m, mpC_ok, mpC2_ok, mGet2_m, getO_some, keyU_i, keyU_s, mSortSet_m, setO_l, msTupVF_m, isiAny, List.zip_cons_cons, List.zip_nil_left, oEqS_s, oNeS_s, mCallF_m, oMul_s, miZipA_m, zpO_ok, zpP_ok, zpU_l, zpU_t, oIsN_i, oIsN_b, oIsN_t, unown, kills, cellAt, List.map_cons, List.map_nil, List.length_cons, List.length_nil, List.cons_append, List.nil_append, List.replicate, List.getElem?_cons_succ, List.getElem?_cons_zero, List.set_cons_zero, List.set_cons_succ, Option.map_some, Option.map_none, Option.bind_some, Option.bind_none, Nat.reduceAdd, Nat.reduceSub, Nat.reduceLeDiff, Int.reduceLT, Int.reduceLE, Int.reduceNeg, Int.reduceToNat, Int.reducePow, decide_eq_true_eq, reduceIte, eq_self, ite_true, ite_false, Bool.false_eq_true, reduceCtorEq, resolve, celJ, nCel, Slot.isC, List.filter, putJ, callM, callMF, List.append_eq, Nat.reduceLT, Int.reduceMul, Int.reduceAdd, Int.reduceSub, ne_eq, not_true_eq_false, not_false_eq_true, Bool.not_false, Bool.not_true, decide_true, decide_false, frF, Int.cast_ofNat_Int, Bool.and_true, Bool.true_and, Bool.false_and, Bool.and_false, Bool.or_false, Bool.false_or, Bool.true_or, Bool.or_true])
local macro_rules | `(tactic| ac_rfl) => `(tactic| (simp (disch := omega) only [*, mC_m, mVar_m, mLook_m, mLet_m, mSc_m, mNil_m, msNil_m, msSeq_m, msAsgF_m, msDrop_m, msRet_m, msRetF_m, msRetC_m, msRetN_m, msBrk_m, msCont_m, msRaise_m, msFor_m, mtYes_m, mtOne_m, mLc_m, mcNil_m, mcCel_m, mCall_m, moNone_m, moSome_m, mSlL_m, mBi_m, mBiF_m, miList_m, miTup_m, miRng1_m, miRng2_m, miEnum_m, miZip_m, mMeth_m, mMeth0_m, msSet_m, mCat_m, mRepeat_m, mChain_m, mIsi_m, msAug_m, mRev_m, mListRng_m, mCallF_m, msParVV_m, msParFV_m, msParVF_m, mMethD_m, mNew_m, mCMeth_m, mConC_m, msTry_m, mSup_m, okE_some, okE_none, opE_ok, opE_ex, opF_ok, opF_ex, mOp_e, mOpK_e, mIx_e, unE_ok, mUn_e, coE_ok, coE_ex, coF_ok, coF_ex, mCons_e, bindAE_ok, bindAE_ex, mTup_e, tupF_e, mFr_e, lstF_ok, mLst_e, tsE_ok, tsE_ex, mTest_e, okT_some, truE_ok, truE_ex, mTru_e, anE_t, anE_f, anE_ok, orE_t, orE_f, orE_ok, mAnd_e, mOr_e, noE_ok, noE_ex, mNot_e, blV_ok, blV_ex, anV_t, anV_f, anV_ok, orV_t, orV_f, orV_ok, mAndV_e, mOrV_e, noV_ok, noV_ex, mNotV_e, ifV_t, ifV_f, ifV_ok, mIf_e, ifS_t, ifS_f, ifS_ok, ifS_ex, msIf_e, nxO_some, asE_ok, asE_ex, msAsg_e, gcE_some, mgCons_e, mgNil_e, mgTup_e, mgName_e, cvE_ok, cvE_ex, consC_ok, mcVal_e, thenS_nx, thenS_bk, thenS_ct, thenS_rt, thenS_ex, bindES_ok, bindES_ex, bindAS_ok, bindAS_ex, bindE_ok, bindE_ex, mfOf_e, mfOf0_e, noX_val, noX_cel, coM_some, fin_val, fin_cel, fin_nx, fin_ex, oAdd_i, oSub_i, oMul_l, oMul_r, oMod_i, oDiv_i, oPow_i, oLt_i, oLe_i, oGt_i, oGe_i, oEqI_i, oNeI_i, oIx_l, oIx_f, oIx_t, at1_0, at2_0, at2_1, at3_0, at3_1, at3_2, at4_0, at4_1, at4_2, at4_3, ix3_0, ix3_1, ix3_2, oIsN_non, oNotN_non, oNotN_lst, oIsN_lst, oMax2_i, oMin2_i, oAbs_i, oInt_b, oLen_l, oLen_f, oLen_t, oNeg_i, truU_i, truU_l, truU_b, truU_n, lstU_l, lstU_f, ipAdd_i, ipSub_i, oAppend_u, lstF_0, tupF_0, lstF_1, tupF_1, lstF_2, tupF_2, lstF_3, tupF_3, lstF_4, tupF_4, lstF_5, tupF_5, lstF_6, tupF_6, isi_NoneType_bool, isi_NoneType_int, isi_NoneType_str, isi_NoneType_list, isi_NoneType_tuple, isi_NoneType_dict, isi_bool_bool, isi_bool_int, isi_bool_str, isi_bool_list, isi_bool_tuple, isi_bool_dict, isi_int_bool, isi_int_int, isi_int_str, isi_int_list, isi_int_tuple, isi_int_dict, isi_str_bool, isi_str_int, isi_str_str, isi_str_list, isi_str_tuple, isi_str_dict, isi_list_bool, isi_list_int, isi_list_str, isi_list_list, isi_list_tuple, isi_list_dict, isi_tuple_bool, isi_tuple_int, isi_tuple_str, isi_tuple_list, isi_tuple_tuple, isi_tuple_dict, isi_dict_bool, isi_dict_int, isi_dict_str, isi_dict_list, isi_dict_tuple, isi_dict_dict, tyU_n, tyU_b, tyU_i, tyU_s, tyU_l, tyU_t, rngOk_i, zipU_map, intsU_map, blsU_map, oAll_l, oSum_l, oMax_l, cutU_1, cutU_m1, drop_map, reverse_map, length_map', dropLast_map, oEq_i, oNe_i, oEq_b, oNe_b, oEq_nn, oNe_nn, oEq_tt, oNe_tt, oEq_tn, oNe_tn, oEq_nt, oNe_nt, oEq_pp, oNe_pp, oEq_ii, oNe_ii, mIsiT_m, mCallL_m, lendM_ok, lendM_ex, lendA_some, lendR_b, lendR_i, lendR_n, lendR_ex, resolveL_nil, resolveL_v, resolveL_c, resC_c, mDict_m, dicO_ok, mpNil_m, mpCons_m, mpC_ok, mpC2_ok, mGet2_m, getO_some, keyU_i, keyU_s, mSortSet_m, setO_l, msTupVF_m, isiAny, List.zip_cons_cons, List.zip_nil_left, oEqS_s, oNeS_s, mCallF_m, oMul_s, miZipA_m, zpO_ok, zpP_ok, zpU_l, zpU_t, oIsN_i, oIsN_b, oIsN_t, unown, kills, cellAt, List.map_cons, List.map_nil, List.length_cons, List.length_nil, List.cons_append, List.nil_append, List.replicate, List.getElem?_cons_succ, List.getElem?_cons_zero, List.set_cons_zero, List.set_cons_succ, Option.map_some, Option.map_none, Option.bind_some, Option.bind_none, Nat.reduceAdd, Nat.reduceSub, Nat.reduceLeDiff, Int.reduceLT, Int.reduceLE, Int.reduceNeg, Int.reduceToNat, Int.reducePow, decide_eq_true_eq, reduceIte, eq_self, ite_true, ite_false, Bool.false_eq_true, reduceCtorEq, resolve, celJ, nCel, Slot.isC, List.filter, putJ, callM, callMF, List.append_eq, Nat.reduceLT, Int.reduceMul, Int.reduceAdd, Int.reduceSub, ne_eq, not_true_eq_false, not_false_eq_true, Bool.not_false, Bool.not_true, decide_true, decide_false, frF, Int.cast_ofNat_Int, Bool.and_true, Bool.true_and, Bool.false_and, Bool.and_false, Bool.or_false, Bool.false_or, Bool.true_or, Bool.or_true, G__law_far_0, G__law_numbers_0, T__law_numbers_1, E__law_numbers_2, G__law_long_0, T__law_long_1, E__law_long_2, G__law_long_3, T__law_long_4, E__law_long_5, G__law_long_6, T__law_long_7, E__law_long_8, G__law_long_9, G__law_due_far_0, T__law_due_far_1, E__law_due_far_2, G__law_due_far_3, G__law_due_far_5, T__law_due_far_6, E__law_due_far_7, G__law_same_0, T__law_same_1, E__law_same_2, G__law_same_3, T__law_same_4, E__law_same_5, G_is_run_0, T_is_run_1, E_is_run_2, G_are_runs_0, T_are_runs_1, E_are_runs_2, G_are_runs_3, T_are_runs_4, E_are_runs_5, G_Plain_signs_0, T_Plain_signs_1, E_Plain_signs_2, G_Next_signs_0, G_Single_signs_0, G_Block_signs_0, G_Later_signs_0, G_Rule_total_0, T_Rule_total_1, E_Rule_total_2, G__law_worth_0, T__law_worth_1, E__law_worth_2, G__law_right_0, G_law_0, G_law_2, G_law_4, T_law_5, E_law_6, G_law_7, T_law_8, E_law_9]; try rfl))
def full : List (Int × Int) := (List.replicate 100 [(1, 100000000000000000000000000000000000000000000000000000000000), (2, 100000000000000000000000000000000000000000000000000000000000)]).flatten
theorem fullS : WordS full := by
  refine ⟨⟨by decide +kernel, by decide +kernel, by decide +kernel, ?_⟩, by decide +kernel⟩
  decide +kernel
theorem one_S : WordS [(999999999999999999999999999999999999999999999999999999999999, 999999999999999999999999999999999999999999999999999999999999)] := by
  refine ⟨⟨by decide, by decide, by decide +kernel, ?_⟩, by decide +kernel⟩
  intro p hp
  simp at hp
theorem full_some (k : Kd) : ∃ t, signsN k full = some t := by
  cases k with
  | plain => exact ⟨_, rfl⟩
  | next => exact ⟨_, rfl⟩
  | block => exact ⟨_, rfl⟩
  | later => exact ⟨_, rfl⟩
  | single =>
    have : ((nextS full).zip ((nextS full).drop 1)).any clash = false := by decide +kernel
    exact ⟨nextS full, by show singleS full = _; unfold singleS; rw [this]; rfl⟩
theorem full_told (k : Kd) : ∃ us, mf__law_told K [.val (.str k.s), .val (.lst (full.map pU))] = some (.val (.lst us) none) := by
  obtain ⟨t, ht⟩ := full_some k
  have e := told4 (K := K) k full fullS
  unfold told4U at e
  rw [ht] at e
  exact ⟨_, e⟩
theorem fullU : (List.replicate 100 [U.tup [.int 1, .int 100000000000000000000000000000000000000000000000000000000000], U.tup [.int 2, .int 100000000000000000000000000000000000000000000000000000000000]]).flatten = full.map pU := by
  unfold full
  rw [List.map_flatten, List.map_replicate]
  rfl
theorem full_len : (full.map pU).length = 200 := by rw [List.length_map]; decide +kernel
theorem p59 : (10 : Int) ^ 59 = 100000000000000000000000000000000000000000000000000000000000 := by decide +kernel
theorem p60 : (10 : Int) ^ 60 = 1000000000000000000000000000000000000000000000000000000000000 := by decide +kernel
theorem eq_f5 : (oEq (K := K)).f (.lst [.bl false, .bl false, .bl false, .bl false, .bl false]) (.lst [.bl false, .bl false, .bl false, .bl false, .bl false]) = some (.bl true) := by
  have h := oEq_u (K := K) (.lst ([false, false, false, false, false].map U.bl)) (.lst ([false, false, false, false, false].map U.bl)) _ ((eqLst eqBl).eq (by decide) [false, false, false, false, false] [false, false, false, false, false])
  simpa using h
theorem eq_n5 : (oEq (K := K)).f (.lst [.non, .non, .non, .non, .non]) (.lst [.non, .non, .non, .non, .non]) = some (.bl true) := by
  refine oEq_u _ _ true ?_
  rfl

end Sg

set_option Elab.async false
set_option linter.all false
set_option maxRecDepth 100000
set_option maxHeartbeats 1000000
namespace Sg
open PySem L2
variable {K : PySem.W.Frag}
-- minus mRepeat_m
def repR (us : List U) (n : Int) (ρ : Env) : Option AO := if -(2 ^ 63) ≤ n ∧ n < 2 ^ 63 ∧ us.length * n.toNat ≤ 16777216 then some (.ok (List.replicate n.toNat us).flatten ρ) else none
theorem mRepeat_r (a b : ME K) (hk : a.k = true) (ρ : Env) : (@mRepeat K a b hk).m ρ = (match a.m ρ with
    | some (.ok (.lst us) ρ1) => (match b.m ρ1 with
      | some (.ok (.int n) ρ2) => repR us n ρ2
      | some (.ex e ρ2) => some (.ex e ρ2)
      | _ => none)
    | some (.ex e ρ1) => some (.ex e ρ1)
    | _ => none) := rfl
theorem rep_full (ρ : Env) : repR [U.tup [.int 1, .int 100000000000000000000000000000000000000000000000000000000000], U.tup [.int 2, .int 100000000000000000000000000000000000000000000000000000000000]] 100 ρ = some (.ok (full.map pU) ρ) := by
  rw [← fullU]
  exact if_pos ⟨by decide, by decide, by decide⟩
theorem rep_f5 (ρ : Env) : repR [U.bl false] 5 ρ = some (.ok [.bl false, .bl false, .bl false, .bl false, .bl false] ρ) := if_pos ⟨by decide, by decide, by decide⟩
theorem rep_n5 (ρ : Env) : repR [U.non] 5 ρ = some (.ok [.non, .non, .non, .non, .non] ρ) := if_pos ⟨by decide, by decide, by decide⟩
local macro_rules | `(tactic| trivial) => `(tactic| simp (disch := omega) only [*, mC_m, mVar_m, mLook_m, mLet_m, mSc_m, mNil_m, msNil_m, msSeq_m, msAsgF_m, msDrop_m, msRet_m, msRetF_m, msRetC_m, msRetN_m, msBrk_m, msCont_m, msRaise_m, msFor_m, mtYes_m, mtOne_m, mLc_m, mcNil_m, mcCel_m, mCall_m, moNone_m, moSome_m, mSlL_m, mBi_m, mBiF_m, miList_m, miTup_m, miRng1_m, miRng2_m, miEnum_m, miZip_m, mMeth_m, mMeth0_m, msSet_m, mCat_m, mChain_m, mIsi_m, msAug_m, mRev_m, mListRng_m, mCallF_m, msParVV_m, msParFV_m, msParVF_m, mMethD_m, mNew_m, mCMeth_m, mConC_m, msTry_m, mSup_m, okE_some, okE_none, opE_ok, opE_ex, opF_ok, opF_ex, mOp_e, mOpK_e, mIx_e, unE_ok, mUn_e, coE_ok, coE_ex, coF_ok, coF_ex, mCons_e, bindAE_ok, bindAE_ex, mTup_e, tupF_e, mFr_e, lstF_ok, mLst_e, tsE_ok, tsE_ex, mTest_e, okT_some, truE_ok, truE_ex, mTru_e, anE_t, anE_f, anE_ok, orE_t, orE_f, orE_ok, mAnd_e, mOr_e, noE_ok, noE_ex, mNot_e, blV_ok, blV_ex, anV_t, anV_f, anV_ok, orV_t, orV_f, orV_ok, mAndV_e, mOrV_e, noV_ok, noV_ex, mNotV_e, ifV_t, ifV_f, ifV_ok, mIf_e, ifS_t, ifS_f, ifS_ok, ifS_ex, msIf_e, nxO_some, asE_ok, asE_ex, msAsg_e, gcE_some, mgCons_e, mgNil_e, mgTup_e, mgName_e, cvE_ok, cvE_ex, consC_ok, mcVal_e, thenS_nx, thenS_bk, thenS_ct, thenS_rt, thenS_ex, bindES_ok, bindES_ex, bindAS_ok, bindAS_ex, bindE_ok, bindE_ex, mfOf_e, mfOf0_e, noX_val, noX_cel, coM_some, fin_val, fin_cel, fin_nx, fin_ex, oAdd_i, oSub_i, oMul_l, oMul_r, oMod_i, oDiv_i, oPow_i, oLt_i, oLe_i, oGt_i, oGe_i, oEqI_i, oNeI_i, oIx_l, oIx_f, oIx_t, at1_0, at2_0, at2_1, at3_0, at3_1, at3_2, at4_0, at4_1, at4_2, at4_3, ix3_0, ix3_1, ix3_2, oIsN_non, oNotN_non, oNotN_lst, oIsN_lst, oMax2_i, oMin2_i, oAbs_i, oInt_b, oLen_l, oLen_f, oLen_t, oNeg_i, truU_i, truU_l, truU_b, truU_n, lstU_l, lstU_f, ipAdd_i, ipSub_i, oAppend_u, lstF_0, tupF_0, lstF_1, tupF_1, lstF_2, tupF_2, lstF_3, tupF_3, lstF_4, tupF_4, lstF_5, tupF_5, lstF_6, tupF_6, isi_NoneType_bool, isi_NoneType_int, isi_NoneType_str, isi_NoneType_list, isi_NoneType_tuple, isi_NoneType_dict, isi_bool_bool, isi_bool_int, isi_bool_str, isi_bool_list, isi_bool_tuple, isi_bool_dict, isi_int_bool, isi_int_int, isi_int_str, isi_int_list, isi_int_tuple, isi_int_dict, isi_str_bool, isi_str_int, isi_str_str, isi_str_list, isi_str_tuple, isi_str_dict, isi_list_bool, isi_list_int, isi_list_str, isi_list_list, isi_list_tuple, isi_list_dict, isi_tuple_bool, isi_tuple_int, isi_tuple_str, isi_tuple_list, isi_tuple_tuple, isi_tuple_dict, isi_dict_bool, isi_dict_int, isi_dict_str, isi_dict_list, isi_dict_tuple, isi_dict_dict, tyU_n, tyU_b, tyU_i, tyU_s, tyU_l, tyU_t, rngOk_i, zipU_map, intsU_map, blsU_map, oAll_l, oSum_l, oMax_l, cutU_1, cutU_m1, drop_map, reverse_map, length_map', dropLast_map, oEq_i, oNe_i, oEq_b, oNe_b, oEq_nn, oNe_nn, oEq_tt, oNe_tt, oEq_tn, oNe_tn, oEq_nt, oNe_nt, oEq_pp, oNe_pp, oEq_ii, oNe_ii, mIsiT_m, mCallL_m, lendM_ok, lendM_ex, lendA_some, lendR_b, lendR_i, lendR_n, lendR_ex, resolveL_nil, resolveL_v, resolveL_c, resC_c, mDict_m, dicO_ok, mpNil_m, mpCons_m, mpC_ok, mpC2_ok, mGet2_m, getO_some, keyU_i, keyU_s, mSortSet_m, setO_l, msTupVF_m, isiAny, List.zip_cons_cons, List.zip_nil_left, oEqS_s, oNeS_s, mCallF_m, oMul_s, miZipA_m, zpO_ok, zpP_ok, zpU_l, zpU_t, oIsN_i, oIsN_b, oIsN_t, unown, kills, cellAt, List.map_cons, List.map_nil, List.length_cons, List.length_nil, List.cons_append, List.nil_append, List.replicate, List.getElem?_cons_succ, List.getElem?_cons_zero, List.set_cons_zero, List.set_cons_succ, Option.map_some, Option.map_none, Option.bind_some, Option.bind_none, Nat.reduceAdd, Nat.reduceSub, Nat.reduceLeDiff, Int.reduceLT, Int.reduceLE, Int.reduceNeg, Int.reduceToNat, Int.reducePow, decide_eq_true_eq, reduceIte, eq_self, ite_true, ite_false, Bool.false_eq_true, reduceCtorEq, resolve, celJ, nCel, Slot.isC, List.filter, putJ, callM, callMF, List.append_eq, Nat.reduceLT, Int.reduceMul, Int.reduceAdd, Int.reduceSub, ne_eq, not_true_eq_false, not_false_eq_true, Bool.not_false, Bool.not_true, decide_true, decide_false, frF, Int.cast_ofNat_Int, Bool.and_true, Bool.true_and, Bool.false_and, Bool.and_false, Bool.or_false, Bool.false_or, Bool.true_or, Bool.or_true, mRepeat_r, rep_f5, rep_n5])
local macro_rules | `(tactic| ac_rfl) => `(tactic| (simp (disch := omega) only [*, mC_m, mVar_m, mLook_m, mLet_m, mSc_m, mNil_m, msNil_m, msSeq_m, msAsgF_m, msDrop_m, msRet_m, msRetF_m, msRetC_m, msRetN_m, msBrk_m, msCont_m, msRaise_m, msFor_m, mtYes_m, mtOne_m, mLc_m, mcNil_m, mcCel_m, mCall_m, moNone_m, moSome_m, mSlL_m, mBi_m, mBiF_m, miList_m, miTup_m, miRng1_m, miRng2_m, miEnum_m, miZip_m, mMeth_m, mMeth0_m, msSet_m, mCat_m, mChain_m, mIsi_m, msAug_m, mRev_m, mListRng_m, mCallF_m, msParVV_m, msParFV_m, msParVF_m, mMethD_m, mNew_m, mCMeth_m, mConC_m, msTry_m, mSup_m, okE_some, okE_none, opE_ok, opE_ex, opF_ok, opF_ex, mOp_e, mOpK_e, mIx_e, unE_ok, mUn_e, coE_ok, coE_ex, coF_ok, coF_ex, mCons_e, bindAE_ok, bindAE_ex, mTup_e, tupF_e, mFr_e, lstF_ok, mLst_e, tsE_ok, tsE_ex, mTest_e, okT_some, truE_ok, truE_ex, mTru_e, anE_t, anE_f, anE_ok, orE_t, orE_f, orE_ok, mAnd_e, mOr_e, noE_ok, noE_ex, mNot_e, blV_ok, blV_ex, anV_t, anV_f, anV_ok, orV_t, orV_f, orV_ok, mAndV_e, mOrV_e, noV_ok, noV_ex, mNotV_e, ifV_t, ifV_f, ifV_ok, mIf_e, ifS_t, ifS_f, ifS_ok, ifS_ex, msIf_e, nxO_some, asE_ok, asE_ex, msAsg_e, gcE_some, mgCons_e, mgNil_e, mgTup_e, mgName_e, cvE_ok, cvE_ex, consC_ok, mcVal_e, thenS_nx, thenS_bk, thenS_ct, thenS_rt, thenS_ex, bindES_ok, bindES_ex, bindAS_ok, bindAS_ex, bindE_ok, bindE_ex, mfOf_e, mfOf0_e, noX_val, noX_cel, coM_some, fin_val, fin_cel, fin_nx, fin_ex, oAdd_i, oSub_i, oMul_l, oMul_r, oMod_i, oDiv_i, oPow_i, oLt_i, oLe_i, oGt_i, oGe_i, oEqI_i, oNeI_i, oIx_l, oIx_f, oIx_t, at1_0, at2_0, at2_1, at3_0, at3_1, at3_2, at4_0, at4_1, at4_2, at4_3, ix3_0, ix3_1, ix3_2, oIsN_non, oNotN_non, oNotN_lst, oIsN_lst, oMax2_i, oMin2_i, oAbs_i, oInt_b, oLen_l, oLen_f, oLen_t, oNeg_i, truU_i, truU_l, truU_b, truU_n, lstU_l, lstU_f, ipAdd_i, ipSub_i, oAppend_u, lstF_0, tupF_0, lstF_1, tupF_1, lstF_2, tupF_2, lstF_3, tupF_3, lstF_4, tupF_4, lstF_5, tupF_5, lstF_6, tupF_6, isi_NoneType_bool, isi_NoneType_int, isi_NoneType_str, isi_NoneType_list, isi_NoneType_tuple, isi_NoneType_dict, isi_bool_bool, isi_bool_int, isi_bool_str, isi_bool_list, isi_bool_tuple, isi_bool_dict, isi_int_bool, isi_int_int, isi_int_str, isi_int_list, isi_int_tuple, isi_int_dict, isi_str_bool, isi_str_int, isi_str_str, isi_str_list, isi_str_tuple, isi_str_dict, isi_list_bool, isi_list_int, isi_list_str, isi_list_list, isi_list_tuple, isi_list_dict, isi_tuple_bool, isi_tuple_int, isi_tuple_str, isi_tuple_list, isi_tuple_tuple, isi_tuple_dict, isi_dict_bool, isi_dict_int, isi_dict_str, isi_dict_list, isi_dict_tuple, isi_dict_dict, tyU_n, tyU_b, tyU_i, tyU_s, tyU_l, tyU_t, rngOk_i, zipU_map, intsU_map, blsU_map, oAll_l, oSum_l, oMax_l, cutU_1, cutU_m1, drop_map, reverse_map, length_map', dropLast_map, oEq_i, oNe_i, oEq_b, oNe_b, oEq_nn, oNe_nn, oEq_tt, oNe_tt, oEq_tn, oNe_tn, oEq_nt, oNe_nt, oEq_pp, oNe_pp, oEq_ii, oNe_ii, mIsiT_m, mCallL_m, lendM_ok, lendM_ex, lendA_some, lendR_b, lendR_i, lendR_n, lendR_ex, resolveL_nil, resolveL_v, resolveL_c, resC_c, mDict_m, dicO_ok, mpNil_m, mpCons_m, mpC_ok, mpC2_ok, mGet2_m, getO_some, keyU_i, keyU_s, mSortSet_m, setO_l, msTupVF_m, isiAny, List.zip_cons_cons, List.zip_nil_left, oEqS_s, oNeS_s, mCallF_m, oMul_s, miZipA_m, zpO_ok, zpP_ok, zpU_l, zpU_t, oIsN_i, oIsN_b, oIsN_t, unown, kills, cellAt, List.map_cons, List.map_nil, List.length_cons, List.length_nil, List.cons_append, List.nil_append, List.replicate, List.getElem?_cons_succ, List.getElem?_cons_zero, List.set_cons_zero, List.set_cons_succ, Option.map_some, Option.map_none, Option.bind_some, Option.bind_none, Nat.reduceAdd, Nat.reduceSub, Nat.reduceLeDiff, Int.reduceLT, Int.reduceLE, Int.reduceNeg, Int.reduceToNat, Int.reducePow, decide_eq_true_eq, reduceIte, eq_self, ite_true, ite_false, Bool.false_eq_true, reduceCtorEq, resolve, celJ, nCel, Slot.isC, List.filter, putJ, callM, callMF, List.append_eq, Nat.reduceLT, Int.reduceMul, Int.reduceAdd, Int.reduceSub, ne_eq, not_true_eq_false, not_false_eq_true, Bool.not_false, Bool.not_true, decide_true, decide_false, frF, Int.cast_ofNat_Int, Bool.and_true, Bool.true_and, Bool.false_and, Bool.and_false, Bool.or_false, Bool.false_or, Bool.true_or, Bool.or_true, G__law_far_0, G__law_numbers_0, T__law_numbers_1, E__law_numbers_2, G__law_long_0, T__law_long_1, E__law_long_2, G__law_long_3, T__law_long_4, E__law_long_5, G__law_long_6, T__law_long_7, E__law_long_8, G__law_long_9, G__law_due_far_0, T__law_due_far_1, E__law_due_far_2, G__law_due_far_3, G__law_due_far_5, T__law_due_far_6, E__law_due_far_7, G__law_same_0, T__law_same_1, E__law_same_2, G__law_same_3, T__law_same_4, E__law_same_5, G_is_run_0, T_is_run_1, E_is_run_2, G_are_runs_0, T_are_runs_1, E_are_runs_2, G_are_runs_3, T_are_runs_4, E_are_runs_5, G_Plain_signs_0, T_Plain_signs_1, E_Plain_signs_2, G_Next_signs_0, G_Single_signs_0, G_Block_signs_0, G_Later_signs_0, G_Rule_total_0, T_Rule_total_1, E_Rule_total_2, G__law_worth_0, T__law_worth_1, E__law_worth_2, G__law_right_0, G_law_0, G_law_2, G_law_4, T_law_5, E_law_6, G_law_7, T_law_8, E_law_9, mRepeat_r, rep_f5, rep_n5]; try rfl))

theorem at3_any (a b c d : Int) (h0 : 0 ≤ d) (h1 : d < 3) : ∃ m, atI [U.int a, U.int b, U.int c] d = some (.int m) ∧ (m = a ∨ m = b ∨ m = c) := by
  have : d = 0 ∨ d = 1 ∨ d = 2 := by omega
  rcases this with rfl | rfl | rfl
  · exact ⟨a, rfl, .inl rfl⟩
  · exact ⟨b, rfl, .inr (.inl rfl)⟩
  · exact ⟨c, rfl, .inr (.inr rfl)⟩
theorem law_turn (S : List U) (ns : List Int) (hS : S = ns.map U.int) (k : Int) (k0 : 0 ≤ k) (k1 : k < 1000) : ∃ g : List U, Feed g ∧ (B_law_3 K).m [.val (.frl S), .val (.int k), .non, .non, .non, .non, .non, .non, .non, .non] = some (.nx [.val (.frl S), .val (.int k), .non, .non, .non, .cel true g, .non, .non, .non, .non]) := by
  subst hS
  obtain ⟨f, hf, ef⟩ := feed_k (K := K) ns k k0 k1
  obtain ⟨d, f1, a0, a1, hf1, e1⟩ := pick_k (K := K) true f 3 hf (by omega) (by omega)
  obtain ⟨m, em, hm⟩ := at3_any 12 60 200 d a0 a1
  obtain ⟨f2, x1, y1, hf2, e2⟩ := law_body (K := K) (.frl (ns.map U.int)) k f1 12 hf1 (by omega) (by omega)
  obtain ⟨f3, x2, y2, hf3, e3⟩ := law_body (K := K) (.frl (ns.map U.int)) k f2 m hf2 (by omega) (by omega)
  refine ⟨f3, hf3, ?_⟩
  have eL : loopM (G_law_0 K).m (B_law_1 K).m [6, 7, 8] [.int 12, .int m] [.val (.frl (ns.map U.int)), .val (.int k), .non, .non, .non, .cel true f1, .non, .non, .non, .non] = some (.nx [.val (.frl (ns.map U.int)), .val (.int k), .non, .non, .non, .cel true f3, .non, .non, .non, .non]) := by
    simp only [loopM, G_law_0, mgName_e, List.set_cons_zero, List.set_cons_succ, e2, e3, kills]
  clear e2 e3 hf hf1 hf2 hf3 a0 a1 hm k0 k1
  unfold B_law_3
  trivial
theorem law_end (ns : List Int) (F : List U) (u1 u2 u3 u4 u5 : List U) (n : Int) (hn : (if (1 : Int) < (if (ns.length : Int) < 2 then (ns.length : Int) else 2) then (if (ns.length : Int) < 2 then (ns.length : Int) else 2) else 1) = n)
    (e : loopM (G_law_2 K).m (B_law_3 K).m [1, 5, 6, 7, 8] (rangeU 0 n.toNat) [.val (.frl (ns.map U.int)), .non, .non, .non, .non, .non, .non, .non, .non, .non] = some (.nx [.val (.frl (ns.map U.int)), .non, .non, .non, .non, .non, .non, .non, .non, .non]))
    (hr : rngOk 0 n = true) (q1 : mf__law_right K [.val (.lst F)] = some (.val (.bl true) none)) (q2 : mf__law_right K [.val (.lst [U.tup [.int 999999999999999999999999999999999999999999999999999999999999, .int 999999999999999999999999999999999999999999999999999999999999]])] = some (.val (.bl true) none))
    (t1 : mf__law_told K [.val (.str "plain"), .val (.lst F)] = some (.val (.lst u1) none)) (t2 : mf__law_told K [.val (.str "single"), .val (.lst F)] = some (.val (.lst u2) none)) (t3 : mf__law_told K [.val (.str "next"), .val (.lst F)] = some (.val (.lst u3) none))
    (t4 : mf__law_told K [.val (.str "block"), .val (.lst F)] = some (.val (.lst u4) none)) (t5 : mf__law_told K [.val (.str "later"), .val (.lst F)] = some (.val (.lst u5) none))
    (l1 : mf__law_told K [.val (.str "plain"), .val (.lst (F ++ [U.tup [.int 1, .int 1]]))] = some (.val .non none)) (l2 : mf__law_told K [.val (.str "single"), .val (.lst (F ++ [U.tup [.int 1, .int 1]]))] = some (.val .non none))
    (l3 : mf__law_told K [.val (.str "next"), .val (.lst (F ++ [U.tup [.int 1, .int 1]]))] = some (.val .non none)) (l4 : mf__law_told K [.val (.str "block"), .val (.lst (F ++ [U.tup [.int 1, .int 1]]))] = some (.val .non none))
    (l5 : mf__law_told K [.val (.str "later"), .val (.lst (F ++ [U.tup [.int 1, .int 1]]))] = some (.val .non none)) (fu : ∀ ρ, repR [U.tup [.int 1, .int 100000000000000000000000000000000000000000000000000000000000], U.tup [.int 2, .int 100000000000000000000000000000000000000000000000000000000000]] 100 ρ = some (.ok F ρ)) (c1 : F.length + 1 ≤ 16777216) :
    mf_law K [.val (.frl (ns.map U.int))] = some (.val (.bl true) none) := by
  have g1 : lcM (G_law_4 K).m (T_law_5 K).m (E_law_6 K).m [9] [.str "plain", .str "single", .str "next", .str "block", .str "later"] [] [.val (.frl (ns.map U.int)), .non, .val (.lst F), .non, .non, .non, .non, .non, .non, .non] =
      some (.ok [.bl false, .bl false, .bl false, .bl false, .bl false] [.val (.frl (ns.map U.int)), .non, .val (.lst F), .non, .non, .non, .non, .non, .non, .non]) := by
    have z : ∀ (s : Str) (us : List U), mf__law_told K [.val (.str s), .val (.lst F)] = some (.val (.lst us) none) → (E_law_6 K).m [.val (.frl (ns.map U.int)), .non, .val (.lst F), .non, .non, .non, .non, .non, .non, .val (.str s)] = some (.ok (.bl false) [.val (.frl (ns.map U.int)), .non, .val (.lst F), .non, .non, .non, .non, .non, .non, .val (.str s)]) := by
      intro s us hs
      clear e hr l1 l2 l3 l4 l5 t1 t2 t3 t4 t5 q1 q2 fu c1
      ac_rfl
    have z1 := z _ _ t1
    have z2 := z _ _ t2
    have z3 := z _ _ t3
    have z4 := z _ _ t4
    have z5 := z _ _ t5
    simp only [lcM, G_law_4, T_law_5, mgName_e, mtYes_m, List.set_cons_zero, List.set_cons_succ, z1, z2, z3, z4, z5, kills, List.length_nil, List.length_cons, List.nil_append, List.cons_append]
    rfl
  have g2 : ∀ a : Slot, lcM (G_law_7 K).m (T_law_8 K).m (E_law_9 K).m [9] [.str "plain", .str "single", .str "next", .str "block", .str "later"] [] [.val (.frl (ns.map U.int)), .non, .val (.lst F), a, .non, .non, .non, .non, .non, .non] =
      some (.ok [.non, .non, .non, .non, .non] [.val (.frl (ns.map U.int)), .non, .val (.lst F), a, .non, .non, .non, .non, .non, .non]) := by
    intro a
    have z : ∀ (s : Str), mf__law_told K [.val (.str s), .val (.lst (F ++ [U.tup [.int 1, .int 1]]))] = some (.val .non none) → (E_law_9 K).m [.val (.frl (ns.map U.int)), .non, .val (.lst F), a, .non, .non, .non, .non, .non, .val (.str s)] = some (.ok .non [.val (.frl (ns.map U.int)), .non, .val (.lst F), a, .non, .non, .non, .non, .non, .val (.str s)]) := by
      intro s hs
      clear e hr l1 l2 l3 l4 l5 t1 t2 t3 t4 t5 q1 q2 fu g1
      ac_rfl
    have z1 := z _ l1
    have z2 := z _ l2
    have z3 := z _ l3
    have z4 := z _ l4
    have z5 := z _ l5
    simp only [lcM, G_law_7, T_law_8, mgName_e, mtYes_m, List.set_cons_zero, List.set_cons_succ, z1, z2, z3, z4, z5, kills, List.length_nil, List.length_cons, List.nil_append, List.cons_append]
    rfl
  have p1 := p59
  have p2 := p60
  have f5 := eq_f5 (K := K)
  have n5 := eq_n5 (K := K)
  clear t1 t2 t3 t4 t5 l1 l2 l3 l4 l5
  unfold mf_law M_law
  trivial
theorem law_true (ns : List Int) (hl : ns.length ≤ 63) : mf_law K [.val (.frl (ns.map U.int))] = some (.val (.bl true) none) := by
  have st2 := @loopM_inv (G_law_2 K).m (B_law_3 K).m [1, 5, 6, 7, 8] (fun us ρ => (∀ u ∈ us, ∃ k : Int, 0 ≤ k ∧ k < 1000 ∧ u = .int k) ∧ ρ = [.val (.frl (ns.map U.int)), .non, .non, .non, .non, .non, .non, .non, .non, .non]) (by
    rintro u us ρ ⟨hu, rfl⟩
    obtain ⟨k, k0, k1, rfl⟩ := hu u List.mem_cons_self
    obtain ⟨g, hg, e⟩ := law_turn (K := K) (ns.map U.int) ns rfl k k0 k1
    exact ⟨_, _, rfl, .inl e, fun v hv => hu v (List.mem_cons_of_mem _ hv), rfl⟩)
  have key : ∀ n : Int, 0 ≤ n → n < 1000 → loopM (G_law_2 K).m (B_law_3 K).m [1, 5, 6, 7, 8] (rangeU 0 n.toNat) [.val (.frl (ns.map U.int)), .non, .non, .non, .non, .non, .non, .non, .non, .non] = some (.nx [.val (.frl (ns.map U.int)), .non, .non, .non, .non, .non, .non, .non, .non, .non]) := fun n n0 n1 => by
    obtain ⟨ρ', e, _, h⟩ := st2 (rangeU 0 n.toNat) _ ⟨fun u hu => by
      rw [rangeU_map] at hu
      obtain ⟨i, hi, rfl⟩ := List.mem_map.mp hu
      have := List.mem_range.mp hi
      exact ⟨0 + (i : Nat), by omega, by omega, rfl⟩, rfl⟩
    rw [e, h]
  generalize hn : (if (1 : Int) < (if (ns.length : Int) < 2 then (ns.length : Int) else 2) then (if (ns.length : Int) < 2 then (ns.length : Int) else 2) else 1) = n
  have hn0 : 0 ≤ n ∧ n < 1000 := by rw [← hn]; split <;> split <;> omega
  have e := key n hn0.1 hn0.2
  have hr : rngOk 0 n = true := rngOk_i 0 n (by omega) (by omega) (by omega) (by omega)
  obtain ⟨u1, t1⟩ := full_told (K := K) .plain
  obtain ⟨u2, t2⟩ := full_told (K := K) .single
  obtain ⟨u3, t3⟩ := full_told (K := K) .next
  obtain ⟨u4, t4⟩ := full_told (K := K) .block
  obtain ⟨u5, t5⟩ := full_told (K := K) .later
  have hlong : 200 < (full.map pU ++ [U.tup [.int 1, .int 1]]).length := by rw [List.length_append, full_len]; decide
  exact law_end ns (full.map pU) u1 u2 u3 u4 u5 n hn e hr (right4 full fullS) (right4 _ one_S) t1 t2 t3 t4 t5 (told4_long .plain _ hlong) (told4_long .single _ hlong) (told4_long .next _ hlong) (told4_long .block _ hlong) (told4_long .later _ hlong) rep_full (by rw [full_len]; decide)

end Sg

set_option Elab.async false
set_option linter.all false
set_option maxRecDepth 100000
set_option maxHeartbeats 4000000
namespace Sg
open PySem L2


abbrev Rw : PySem.W.OpenRow := PySem.W.OpenLaw.row PySem.Challenge.rw_signsheets_k04_totals_of_large_words
abbrev hk : PySem.W.Hook := hookY 6 fa fn
def ob (s : PySem.W.SharedT) : AlY := obsYG 6 fa fn (HandSHeadRun.getT s)
theorem ob_eq (s : PySem.W.SharedT) : ob s = hk.obs s.abs := obsYG_eq (HandSHeadRun.getT_eq s)
theorem run (w : World) : HandSHeadRun.RunEq Rw (PySem.W.view Rw.prog [32]) hk ob 9000 ["SignError", "InvalidValues", "InvalidWord", "MOST_RUNS", "PLAIN", "SINGLE", "NEXT", "BLOCK", "is_integer", "is_run", "are_runs", "need_runs", "Rule", "Plain", "Next", "Single", "Block", "Later", "rule_of", "_law_feed", "_law_pick", "_law_far", "_law_numbers", "_law_due_far", "_law_worth", "_law_same", "_law_long", "_law_told", "_law_right"] w := by
  intro os
  kernel_rfl

end Sg
open PySem PySem.W PySem.Calls PyProof.Rows Sg

/-- what is left: the mirror answers True -/
theorem joint (hT : ∀ (K : PySem.W.Frag) (ns : List Int), ns.length ≤ 63 → mf_law K [.val (.frl (ns.map U.int))] = some (.val (.bl true) none)) : PySem.Challenge.rw_signsheets_k04_totals_of_large_words.Holds := by
  w_on; o_law
  refine HandSHeadRun.head_any (r := PySem.W.OpenLaw.row PySem.Challenge.rw_signsheets_k04_totals_of_large_words) (q := PySem.W.view (PySem.W.OpenLaw.row PySem.Challenge.rw_signsheets_k04_totals_of_large_words).prog [32]) (H := hk) (ob := ob) (M := 9000) (loose := ["SignError", "InvalidValues", "InvalidWord", "MOST_RUNS", "PLAIN", "SINGLE", "NEXT", "BLOCK", "is_integer", "is_run", "are_runs", "need_runs", "Rule", "Plain", "Next", "Single", "Block", "Later", "rule_of", "_law_feed", "_law_pick", "_law_far", "_law_numbers", "_law_due_far", "_law_worth", "_law_same", "_law_long", "_law_told", "_law_right"]) (d := HandSHeadRun.topDef (PySem.W.OpenLaw.row PySem.Challenge.rw_signsheets_k04_totals_of_large_words).prog 32) (kwd := []) ob_eq
    (by kernel_rfl) (fun s => by kernel_rfl) run (by kernel_rfl) (by kernel_rfl) (by kernel_rfl) (by rfl) (by first | assumption | decide +kernel) (by decide +kernel) ⟨rfl, rfl, rfl, rfl, rfl, by decide +kernel⟩ ?hw ?hc
  case hw => w_witness2
  case hc =>
    refine Sg.walk_G (l := PySem.Challenge.rw_signsheets_k04_totals_of_large_words) (n := 63) (k := 10) rfl (by decide) (by kernel_rfl) ⟨rfl, by decide, by decide⟩ ?F
    intro w mg fa h Y G hmg0
    obtain ⟨K, KX, c⟩ := Y
    have hmg : mg ("law" : PySem.Str) = some (.ref fa) := by
      have e : (HandSHeadRun.topDef (PySem.W.OpenLaw.row PySem.Challenge.rw_signsheets_k04_totals_of_large_words).prog 32).name = ("law" : PySem.Str) := by kernel_rfl
      rw [← e]
      exact hmg0
    have T := top_of KX G c
    have e2 := hmg.symm.trans T.g_law
    cases e2
    exact ⟨K, _, KX, fun H a ns hl _ hS => spM_law (hT K ns hl) hS, fun base _ _ => lawG0 (c_law (P := PySem.Challenge.pw_signsheets_k04_totals_of_large_words) (w := w) (base := base) T)⟩

theorem PySem.Challenge.cw_signsheets_k04_totals_of_large_words_holds : PySem.Challenge.rw_signsheets_k04_totals_of_large_words.Holds := by
  exact joint fun K ns hl => Sg.law_true ns hl
