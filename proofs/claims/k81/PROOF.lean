import PyProof.Rows.All
import HandS.DictTup
import KE.KeyNested
import Wide.All
import OpenK.AllK
import Wide.FinOn
import HandS.ForMost
import HandS.Exc
import HandS.HeadHook1
import HandS.WideBits
import HandS.SortInts
import HandS.TupAny
import HandS.ExcOwn
import HandS.WordsExc
import HandS.IsInst
import HandS.Style
import HandS.Conv
import HandS.ClsMeth
import HandS.TryOnly
import KE.KSuper
import HandS.Nested
import HandS.HeadHook2
import HandS.SetFor
import HandS.Ends
import HandS.HeadEnd
import HandS.Strs
import HandS.Dict
import HandS.Zip
import HandS.Star
import HandS.Property
import HandS.Iter
import HandS.More
import HandS.SortKw
import HandS.Finally
import HandS.ListItems
import HandS.ExcIs
import HandS.HotCalls
import HandS.DictComp
import KE.KEqDict
import KE.KDictPairs
import KE.KDictZip
import HandS.GenBody
import HandS.GenList
import PyProof.SetRoads
import HandS.ExcField
import HandS.ExcInit
import HandS.Text
import HandS.FStr
import KE.GoesEnum
import KE.KUnpackStar
import PyProof.RulesMatchSeq
import PyProof.Rows.MatchSeqLen
import HandS.OwnEq
import PyProof.InstEq
import PySem.Challenge.RW_signsheets_k81_texts_both_ways
import HandS.Head0
import HandS.Head1
import HandS.Head2
import KE.KStateDown
set_option Elab.async false
set_option linter.all false
set_option maxRecDepth 100000
set_option maxHeartbeats 4000000
namespace Sg
open PySem L2 PySem.Spec PyProof.Rows
inductive KT where
  | non | bl (b : Bool) | int (i : Int) | tup (ks : List KT)
mutual
def KT.key : KT → NestedKey
  | .non => .none
  | .bl b => .num (if b = true then 1 else 0)
  | .int i => .num i
  | .tup ks => .tup (KT.keys ks)
def KT.keys : List KT → List NestedKey
  | [] => []
  | k :: ks => k.key :: KT.keys ks
end
mutual
inductive KeyV (K : PySem.W.Frag) (H : Hp) : KT → V → Prop
  | non : KeyV K H .non .non
  | bl (b : Bool) : KeyV K H (.bl b) (.bl b)
  | int (i : Int) : KeyV K H (.int i) (.int i)
  | tup {a : Addr} {vs : List V} {ks : List KT} : SqT K H a vs → KeysV K H ks vs → KeyV K H (.tup ks) (.ref a)
inductive KeysV (K : PySem.W.Frag) (H : Hp) : List KT → List V → Prop
  | nil : KeysV K H [] []
  | cons {k : KT} {v : V} {ks : List KT} {vs : List V} : KeyV K H k v → KeysV K H ks vs → KeysV K H (k :: ks) (v :: vs)
end
def valKT (kvs : List (KT × V)) (k : NestedKey) : Option V := (kvs.find? fun kv => decide (kv.1.key = k)).map (·.2)
def putKT (kvs : List (KT × V)) (t : KT) (v : V) : List (KT × V) := if (kvs.any fun kv => decide (kv.1.key = t.key)) = true then kvs.map (fun kv => if kv.1.key = t.key then (kv.1, v) else kv) else kvs ++ [(t, v)]
theorem valKT_pos {p : KT × V} {r : List (KT × V)} {k : NestedKey} (h : p.1.key = k) : valKT (p :: r) k = some p.2 := by simp [valKT, List.find?_cons, h]
theorem valKT_neg {p : KT × V} {r : List (KT × V)} {k : NestedKey} (h : ¬ p.1.key = k) : valKT (p :: r) k = valKT r k := by simp [valKT, List.find?_cons, h]
theorem valKT_any (k : NestedKey) : ∀ kvs : List (KT × V), (kvs.any fun kv => decide (kv.1.key = k)) = (valKT kvs k).isSome
  | [] => rfl
  | p :: r => by
    rw [List.any_cons]
    by_cases e : p.1.key = k
    · rw [valKT_pos e]; simp [e]
    · rw [valKT_neg e, valKT_any k r]; simp [e]
mutual
theorem KeyV.up {K : PySem.W.Frag} {H H' : Hp} (e : ∀ a xs, SqT K H a xs → SqT K H' a xs) : ∀ {k : KT} {v : V}, KeyV K H k v → KeyV K H' k v
  | _, _, .non => .non
  | _, _, .bl b => .bl b
  | _, _, .int i => .int i
  | _, _, .tup r t => .tup (e _ _ r) (KeysV.up e t)
theorem KeysV.up {K : PySem.W.Frag} {H H' : Hp} (e : ∀ a xs, SqT K H a xs → SqT K H' a xs) : ∀ {ks : List KT} {vs : List V}, KeysV K H ks vs → KeysV K H' ks vs
  | _, _, .nil => .nil
  | _, _, .cons a b => .cons (KeyV.up e a) (KeysV.up e b)
end
mutual
def nh : NestedKey → Int
  | .none => reduceHash 0xFCA86420
  | .num i => hashInt i
  | .text _ => 0
  | .tup ks => reduceHash (Builtin.Tuple.tupleHashOf (nhs ks))
def nhs : List NestedKey → List Int
  | [] => []
  | k :: ks => nh k :: nhs ks
end
def entN (x : NestedKey × Addr × Value) : DictEntry := ⟨nh x.1, .ref x.2.1, x.2.2⟩
def NdO (a : Addr) (es : Array DictEntry) (ep : Nat) : HO := .ext fun h => DT.Raw h a es ep
abbrev NT (K : PySem.W.Frag) (H : Hp) : List (KT × V) → List (NestedKey × Addr × Value) → Prop := Paired fun p q => p.1.key = q.1 ∧ (KeyV K H p.1 (.ref q.2.1) ∧ p.1.key.depth ≤ 8) ∧ RelV p.2 q.2.2
theorem NT.val {K : PySem.W.Frag} {H : Hp} {kvs : List (KT × V)} {xs : List (NestedKey × Addr × Value)} (r : NT K H kvs xs) (k : NestedKey) : RelO (valKT kvs k) ((atKey xs k).map (·.2)) := by
  induction r with
  | nil => exact True.intro
  | @cons p q ps qs h t ih =>
    obtain ⟨h1, _, h2⟩ := h
    by_cases e : p.1.key = k
    · have e' : q.1 = k := h1.symm.trans e
      have b : atKey (q :: qs) k = some q.2 := by simp [atKey, List.find?_cons, e']
      rw [valKT_pos e, b]; exact h2
    · have e' : ¬ q.1 = k := fun z => e (h1.trans z)
      have b : atKey (q :: qs) k = atKey qs k := by simp [atKey, List.find?_cons, e']
      rw [valKT_neg e, b]; exact ih
theorem NT.repl {K : PySem.W.Frag} {H : Hp} {kvs : List (KT × V)} {xs : List (NestedKey × Addr × Value)} (r : NT K H kvs xs) (k : NestedKey) {y : V} {u : Value} (ry : RelV y u) :
    NT K H (kvs.map fun kv => if kv.1.key = k then (kv.1, y) else kv) (xs.map (putAt k u)) := by
  induction r with
  | nil => exact .nil
  | @cons p q ps qs h t ih =>
    rw [List.map_cons, List.map_cons]
    refine .cons ?_ ih
    obtain ⟨h1, h2, h3⟩ := h
    unfold putAt
    by_cases e : p.1.key = k
    · rw [if_pos e, if_pos (h1.symm.trans e)]; exact ⟨h1, h2, ry⟩
    · rw [if_neg e, if_neg (fun z => e (h1.trans z))]; exact ⟨h1, h2, h3⟩
theorem NT.put {K : PySem.W.Frag} {H : Hp} {kvs : List (KT × V)} {xs : List (NestedKey × Addr × Value)} (r : NT K H kvs xs) (k : KT) {b : Addr} {y : V} {u : Value} (hb : KeyV K H k (.ref b)) (hd : k.key.depth ≤ 8) (ry : RelV y u) :
    NT K H (putKT kvs k y) (storedH xs k.key b u) := by
  have e : (kvs.any fun kv => decide (kv.1.key = k.key)) = (atKey xs k.key).isSome := by
    rw [valKT_any, (r.val k.key).isSome_eq, Option.isSome_map]
  unfold putKT storedH
  rw [e]
  by_cases q : (atKey xs k.key).isSome = true
  · rw [if_pos q, if_pos q]; exact r.repl k.key ry
  · rw [if_neg q, if_neg q]; exact Paired.snoc r ⟨rfl, ⟨hb, hd⟩, ry⟩
theorem NT.up {K : PySem.W.Frag} {H H' : Hp} {kvs : List (KT × V)} {xs : List (NestedKey × Addr × Value)} (r : NT K H kvs xs) (e : ∀ a xs, SqT K H a xs → SqT K H' a xs) : NT K H' kvs xs :=
  Paired.mapP r fun _ _ z => ⟨z.1, ⟨z.2.1.1.up e, z.2.1.2⟩, z.2.2⟩
theorem NT.mem {K : PySem.W.Frag} {H : Hp} {kvs : List (KT × V)} {xs : List (NestedKey × Addr × Value)} (r : NT K H kvs xs) : ∀ x ∈ xs, ∃ t : KT, t.key = x.1 ∧ KeyV K H t (.ref x.2.1) ∧ x.1.depth ≤ 8 := by
  induction r with
  | nil => intro x hx; exact nomatch hx
  | @cons p q ps qs hq t ih =>
    intro x hx
    rcases List.mem_cons.mp hx with e | hx
    · subst e
      exact ⟨p.1, hq.1, hq.2.1.1, by rw [← hq.1]; exact hq.2.1.2⟩
    · exact ih x hx
def ND (K : PySem.W.Frag) (H : Hp) (a : Addr) (kvs : List (KT × V)) : Prop :=
  kvs.length ≤ sizeLine ∧ (a == sysModules) = false ∧ ∃ xs es ep, Rd H a (NdO a es ep) ∧ es.toList = xs.map entN ∧ NT K H kvs xs ∧ (xs.map (·.1)).Nodup
def NDm (K : PySem.W.Frag) (H : Hp) (a : Addr) (kvs : List (KT × V)) : Prop :=
  kvs.length ≤ sizeLine ∧ (a == sysModules) = false ∧ ∃ xs es ep, H a = some (NdO a es ep) ∧ es.toList = xs.map entN ∧ NT K H kvs xs ∧ (xs.map (·.1)).Nodup
theorem NDm.rd {K : PySem.W.Frag} {H : Hp} {a : Addr} {kvs : List (KT × V)} (m : NDm K H a kvs) : ND K H a kvs := by
  obtain ⟨z, y, xs, es, ep, e, r⟩ := m
  exact ⟨z, y, xs, es, ep, .inl e, r⟩
def ND2 (K : PySem.W.Frag) (G H : Hp) (a : Addr) (kvs : List (KT × V)) : Prop :=
  kvs.length ≤ sizeLine ∧ (a == sysModules) = false ∧ ∃ xs es ep, H a = some (NdO a es ep) ∧ es.toList = xs.map entN ∧ NT K G kvs xs ∧ (xs.map (·.1)).Nodup
theorem ND2.m {K : PySem.W.Frag} {G H : Hp} {a : Addr} {kvs : List (KT × V)} (hG : ∀ a xs, SqT K G a xs → SqT K H a xs) (m : ND2 K G H a kvs) : NDm K H a kvs := by
  obtain ⟨z, y, xs, es, ep, e, e1, nt, r⟩ := m
  exact ⟨z, y, xs, es, ep, e, e1, nt.up hG, r⟩
theorem ND2.at {K : PySem.W.Frag} {G H H' : Hp} {a : Addr} {kvs : List (KT × V)} (m : ND2 K G H a kvs) (h : H' a = H a) : ND2 K G H' a kvs := by
  obtain ⟨z, y, xs, es, ep, e, r⟩ := m
  exact ⟨z, y, xs, es, ep, h.trans e, r⟩
theorem ND2.upG {K : PySem.W.Frag} {G G' H : Hp} {a : Addr} {kvs : List (KT × V)} (m : ND2 K G H a kvs) (hG : ∀ a xs, SqT K G a xs → SqT K G' a xs) : ND2 K G' H a kvs := by
  obtain ⟨z, y, xs, es, ep, e, e1, nt, r⟩ := m
  exact ⟨z, y, xs, es, ep, e, e1, nt.up hG, r⟩
theorem ND2.some {K : PySem.W.Frag} {G H : Hp} {a : Addr} {kvs : List (KT × V)} (m : ND2 K G H a kvs) : ∃ es ep, H a = some (NdO a es ep) := by
  obtain ⟨z, y, xs, es, ep, e, r⟩ := m
  exact ⟨es, ep, e⟩
theorem ND.up {K : PySem.W.Frag} {H H' : Hp} {a : Addr} {kvs : List (KT × V)} (m : ND K H a kvs) (e : ∀ u, Rd H a u → Rd H' a u) (t : ∀ b xs, SqT K H b xs → SqT K H' b xs) : ND K H' a kvs := by
  obtain ⟨z, y, xs, es, ep, e0, e1, nt, r⟩ := m
  exact ⟨z, y, xs, es, ep, e _ e0, e1, nt.up t, r⟩
end Sg
set_option Elab.async false
set_option linter.all false
set_option maxRecDepth 100000
set_option maxHeartbeats 4000000
namespace Sg
open PySem L2
inductive U where
  | non | bl (b : Bool) | int (i : Int) | str (s : Str) | ref (a : Addr)
  | lst (us : List U) | frl (us : List U) | tup (us : List U) | dic (kvs : List (Key × U)) | ins (c : Str) (fs : List (Str × U)) | exc (c : Str) | exf (c f : Str) (u : U) | ndc (kvs : List (KT × U))
def scV : U → Option V
  | .non => some .non
  | .bl b => some (.bl b)
  | .int i => some (.int i)
  | .str s => some (.str s)
  | .ref a => some (.ref a)
  | _ => none
def CaO (cls : Value) (a : Addr) : HO := .ext fun h => ∃ (oe : Obj) (vs : Array Value), h.get? a = some oe ∧ Zc cls none oe ∧ oe.data = .fields vs
def CaX (cls : Value) (a d : Addr) : HO := .ext fun h => ∃ (oe : Obj) (vs : Array Value), h.get? a = some oe ∧ Zc cls (some d) oe ∧ oe.data = .fields vs
mutual
def Rep (K : PySem.W.Frag) (B : Hp) : U → V → Prop
  | .non, v => v = .non
  | .bl b, v => v = .bl b
  | .int i, v => v = .int i
  | .str s, v => v = .str s
  | .ref a, v => v = .ref a
  | .lst us, v => ∃ a vs, v = .ref a ∧ B a = some (.lst vs) ∧ RepL K B us vs
  | .frl us, v => ∃ a vs, v = .ref a ∧ SqL K B a vs ∧ RepL K B us vs
  | .tup us, v => ∃ a vs, v = .ref a ∧ SqT K B a vs ∧ RepL K B us vs
  | .dic kvs, v => ∃ a ws, v = .ref a ∧ Rd B a (.dK ws) ∧ RepD K B kvs ws
  | .ins c fs, v => ∃ a dx ws, v = .ref a ∧ B a = some (.ins (He.ga K c) dx ws) ∧ RepF K B fs ws
  | .exc c, v => ∃ a, v = .ref a ∧ B a = some (CaO (.ref (He.ga K c)) a)
  | .exf c f u, v => ∃ a d z, v = .ref a ∧ B a = some (CaX (.ref (He.ga K c)) a d) ∧ scV u = some z ∧ B d = some (.xd [(f, z)])
  | .ndc kvs, v => ∃ a ws, v = .ref a ∧ ND K B a ws ∧ RepN K B kvs ws
def RepL (K : PySem.W.Frag) (B : Hp) : List U → List V → Prop
  | [], vs => vs = []
  | u :: us, vs => ∃ v r, vs = v :: r ∧ Rep K B u v ∧ RepL K B us r
def RepD (K : PySem.W.Frag) (B : Hp) : List (Key × U) → List (Key × V) → Prop
  | [], ws => ws = []
  | (k, u) :: us, ws => ∃ v r, ws = (k, v) :: r ∧ Rep K B u v ∧ RepD K B us r
def RepN (K : PySem.W.Frag) (B : Hp) : List (KT × U) → List (KT × V) → Prop
  | [], ws => ws = []
  | (k, u) :: us, ws => ∃ v r, ws = (k, v) :: r ∧ Rep K B u v ∧ RepN K B us r
def RepF (K : PySem.W.Frag) (B : Hp) : List (Str × U) → List (Str × V) → Prop
  | [], ws => ws = []
  | (k, u) :: us, ws => ∃ v r, ws = (k, v) :: r ∧ Rep K B u v ∧ RepF K B us r
end
def Ex (H H' : Hp) : Prop := ∀ a o, H a = some o → H' a = some o
theorem Ex.refl {H : Hp} : Ex H H := fun _ _ h => h
theorem Ex.trans {H H1 H2 : Hp} (a : Ex H H1) (b : Ex H1 H2) : Ex H H2 := fun x o h => b x o (a x o h)
theorem Ex.new {H : Hp} {p : Addr} {o : HO} (h : H p = none) : Ex H (upd H p o) := fun a u e => by
  rw [upd_ne (ne_of_none e h)]; exact e
theorem Ex.none {H H' : Hp} {p : Addr} (e : Ex H H') (h : H' p = none) : H p = none := by
  cases q : H p with
  | none => rfl
  | some o => rw [e p o q] at h; cases h
theorem Ex.rd {H H' : Hp} {a : Addr} {u : HO} (e : Ex H H') (h : Rd H a u) : Rd H' a u := by
  rcases h with h | ⟨o, h⟩
  · exact .inl (e a _ h)
  · exact .inr ⟨o, e a _ h⟩
theorem Ex.l {K : PySem.W.Frag} {H H' : Hp} {a : Addr} {xs : List V} (e : Ex H H') (h : SqL K H a xs) : SqL K H' a xs := by
  rcases h with h | h
  · exact .inl (e.rd h)
  · exact .inr h
theorem Ex.t {K : PySem.W.Frag} {H H' : Hp} {a : Addr} {xs : List V} (e : Ex H H') (h : SqT K H a xs) : SqT K H' a xs := by
  rcases h with h | h
  · exact .inl (e.rd h)
  · exact .inr h
mutual
theorem Rep.mono {K : PySem.W.Frag} {B B' : Hp} (e : Ex B B') : ∀ (u : U) (v : V), Rep K B u v → Rep K B' u v
  | .non, _, h => h
  | .bl _, _, h => h
  | .int _, _, h => h
  | .str _, _, h => h
  | .ref _, _, h => h
  | .lst us, _, h => by
    obtain ⟨a, vs, h1, h2, h3⟩ := h
    exact ⟨a, vs, h1, e _ _ h2, RepL.mono e us vs h3⟩
  | .frl us, _, h => by
    obtain ⟨a, vs, h1, h2, h3⟩ := h
    exact ⟨a, vs, h1, e.l h2, RepL.mono e us vs h3⟩
  | .tup us, _, h => by
    obtain ⟨a, vs, h1, h2, h3⟩ := h
    exact ⟨a, vs, h1, e.t h2, RepL.mono e us vs h3⟩
  | .dic kvs, _, h => by
    obtain ⟨a, vs, h1, h2, h3⟩ := h
    exact ⟨a, vs, h1, e.rd h2, RepD.mono e kvs vs h3⟩
  | .ins c fs, _, h => by
    obtain ⟨a, dx, vs, h1, h2, h3⟩ := h
    exact ⟨a, dx, vs, h1, e _ _ h2, RepF.mono e fs vs h3⟩
  | .exc c, _, h => by
    obtain ⟨a, h1, h2⟩ := h
    exact ⟨a, h1, e _ _ h2⟩
  | .exf c f u, _, h => by
    obtain ⟨a, d, z, h1, h2, h4, h3⟩ := h
    exact ⟨a, d, z, h1, e _ _ h2, h4, e _ _ h3⟩
  | .ndc kvs, _, h => by
    obtain ⟨a, vs, h1, h2, h3⟩ := h
    exact ⟨a, vs, h1, h2.up (fun _ q => e.rd q) (fun _ _ q => e.t q), RepN.mono e kvs vs h3⟩
theorem RepL.mono {K : PySem.W.Frag} {B B' : Hp} (e : Ex B B') : ∀ (us : List U) (vs : List V), RepL K B us vs → RepL K B' us vs
  | [], _, h => h
  | u :: us, _, h => by
    obtain ⟨v, r, h1, h2, h3⟩ := h
    exact ⟨v, r, h1, Rep.mono e u v h2, RepL.mono e us r h3⟩
theorem RepD.mono {K : PySem.W.Frag} {B B' : Hp} (e : Ex B B') : ∀ (us : List (Key × U)) (vs : List (Key × V)), RepD K B us vs → RepD K B' us vs
  | [], _, h => h
  | (k, u) :: us, _, h => by
    obtain ⟨v, r, h1, h2, h3⟩ := h
    exact ⟨v, r, h1, Rep.mono e u v h2, RepD.mono e us r h3⟩
theorem RepN.mono {K : PySem.W.Frag} {B B' : Hp} (e : Ex B B') : ∀ (us : List (KT × U)) (vs : List (KT × V)), RepN K B us vs → RepN K B' us vs
  | [], _, h => h
  | (k, u) :: us, _, h => by
    obtain ⟨v, r, h1, h2, h3⟩ := h
    exact ⟨v, r, h1, Rep.mono e u v h2, RepN.mono e us r h3⟩
theorem RepF.mono {K : PySem.W.Frag} {B B' : Hp} (e : Ex B B') : ∀ (us : List (Str × U)) (vs : List (Str × V)), RepF K B us vs → RepF K B' us vs
  | [], _, h => h
  | (k, u) :: us, _, h => by
    obtain ⟨v, r, h1, h2, h3⟩ := h
    exact ⟨v, r, h1, Rep.mono e u v h2, RepF.mono e us r h3⟩
end
mutual
def ktU : KT → U
  | .non => .non
  | .bl b => .bl b
  | .int i => .int i
  | .tup ks => .tup (ktUs ks)
def ktUs : List KT → List U
  | [] => []
  | k :: ks => ktU k :: ktUs ks
end
mutual
inductive KeyU : U → KT → Prop
  | non : KeyU .non .non
  | bl (b : Bool) : KeyU (.bl b) (.bl b)
  | int (i : Int) : KeyU (.int i) (.int i)
  | tup {us : List U} {ks : List KT} : KeysU us ks → KeyU (.tup us) (.tup ks)
inductive KeysU : List U → List KT → Prop
  | nil : KeysU [] []
  | cons {u : U} {k : KT} {us : List U} {ks : List KT} : KeyU u k → KeysU us ks → KeysU (u :: us) (k :: ks)
end
mutual
theorem KeyV.repU {K : PySem.W.Frag} {B : Hp} : ∀ {k : KT} {v : V}, KeyV K B k v → Rep K B (ktU k) v
  | _, _, .non => rfl
  | _, _, .bl b => rfl
  | _, _, .int i => rfl
  | _, _, .tup e t => ⟨_, _, rfl, e, KeysV.repU t⟩
theorem KeysV.repU {K : PySem.W.Frag} {B : Hp} : ∀ {ks : List KT} {vs : List V}, KeysV K B ks vs → RepL K B (ktUs ks) vs
  | _, _, .nil => rfl
  | _, _, .cons a b => ⟨_, _, rfl, KeyV.repU a, KeysV.repU b⟩
end
mutual
theorem ktU_key : ∀ (k : KT), KeyU (ktU k) k
  | .non => .non
  | .bl b => .bl b
  | .int i => .int i
  | .tup ks => .tup (ktUs_key ks)
theorem ktUs_key : ∀ (ks : List KT), KeysU (ktUs ks) ks
  | [] => .nil
  | k :: ks => .cons (ktU_key k) (ktUs_key ks)
end
theorem KeyV.rep {K : PySem.W.Frag} {B : Hp} {k : KT} {v : V} (h : KeyV K B k v) : ∃ u, KeyU u k ∧ Rep K B u v := ⟨ktU k, ktU_key k, h.repU⟩
mutual
theorem KeyU.v {K : PySem.W.Frag} {B : Hp} : ∀ {u : U} {k : KT} {v : V}, KeyU u k → Rep K B u v → KeyV K B k v
  | _, _, _, .non, r => by cases r; exact .non
  | _, _, _, .bl b, r => by cases r; exact .bl b
  | _, _, _, .int i, r => by cases r; exact .int i
  | _, _, _, .tup t, r => by
    obtain ⟨a, vs, rfl, e, r⟩ := r
    exact .tup e (KeysU.v t r)
theorem KeysU.v {K : PySem.W.Frag} {B : Hp} : ∀ {us : List U} {ks : List KT} {vs : List V}, KeysU us ks → RepL K B us vs → KeysV K B ks vs
  | _, _, _, .nil, r => by cases r; exact .nil
  | _, _, _, .cons a b, r => by
    obtain ⟨v, r, rfl, r1, r2⟩ := r
    exact .cons (KeyU.v a r1) (KeysU.v b r2)
end
theorem KeyV.tr {K : PySem.W.Frag} {B B' : Hp} (t : ∀ u v, Rep K B u v → Rep K B' u v) {k : KT} {v : V} (h : KeyV K B k v) : KeyV K B' k v :=
  let ⟨u, a, r⟩ := h.rep; a.v (t u v r)
theorem NT.tr {K : PySem.W.Frag} {B B' : Hp} (t : ∀ u v, Rep K B u v → Rep K B' u v) {kvs : List (KT × V)} {xs : List (NestedKey × Addr × Value)} (r : NT K B kvs xs) : NT K B' kvs xs :=
  Paired.mapP r fun _ _ z => ⟨z.1, ⟨z.2.1.1.tr t, z.2.1.2⟩, z.2.2⟩
theorem ND2.tr {K : PySem.W.Frag} {B B' H : Hp} (t : ∀ u v, Rep K B u v → Rep K B' u v) {a : Addr} {kvs : List (KT × V)} (m : ND2 K B H a kvs) : ND2 K B' H a kvs := by
  obtain ⟨z, y, xs, es, ep, e, e1, nt, r⟩ := m
  exact ⟨z, y, xs, es, ep, e, e1, nt.tr t, r⟩
theorem RepN.tr {K : PySem.W.Frag} {B B' : Hp} (t : ∀ u v, Rep K B u v → Rep K B' u v) : ∀ {us : List (KT × U)} {vs : List (KT × V)}, RepN K B us vs → RepN K B' us vs
  | [], _, h => h
  | (k, u) :: us, _, h => by
    obtain ⟨v, r, rfl, h1, h2⟩ := h
    exact ⟨v, r, rfl, t u v h1, RepN.tr t h2⟩
theorem scV_rep {K : PySem.W.Frag} {B B' : Hp} {u : U} {v z : V} (h : scV u = some z) (r : Rep K B u v) : v = z ∧ Rep K B' u v := by
  cases u <;> first | (cases h; exact ⟨r, r⟩) | cases h
theorem rep_sc {K : PySem.W.Frag} {B : Hp} {u : U} {z : V} (h : scV u = some z) : Rep K B u z := by
  cases u <;> first | (cases h; rfl) | cases h
theorem RepL.length {K : PySem.W.Frag} {B : Hp} : ∀ {us : List U} {vs : List V}, RepL K B us vs → vs.length = us.length
  | [], _, h => by cases h; rfl
  | u :: us, _, h => by
    obtain ⟨v, r, rfl, _, h3⟩ := h
    simp [RepL.length h3]
theorem RepL.get {K : PySem.W.Frag} {B : Hp} : ∀ {us : List U} {vs : List V} {i : Nat} {u : U}, RepL K B us vs → us[i]? = some u → ∃ v, vs[i]? = some v ∧ Rep K B u v
  | [], _, _, _, _, e => by simp at e
  | u :: us, _, 0, w, h, e => by
    obtain ⟨v, r, rfl, h2, _⟩ := h
    simp at e; subst e; exact ⟨v, rfl, h2⟩
  | u :: us, _, i + 1, w, h, e => by
    obtain ⟨v, r, rfl, _, h3⟩ := h
    obtain ⟨x, h4, h5⟩ := RepL.get (i := i) h3 (by simpa using e)
    exact ⟨x, by simpa using h4, h5⟩
theorem RepL.append {K : PySem.W.Frag} {B : Hp} : ∀ {us us' : List U} {vs vs' : List V}, RepL K B us vs → RepL K B us' vs' → RepL K B (us ++ us') (vs ++ vs')
  | [], _, _, _, h, h' => by cases h; exact h'
  | u :: us, _, _, _, h, h' => by
    obtain ⟨v, r, rfl, h2, h3⟩ := h
    exact ⟨v, _, rfl, h2, RepL.append h3 h'⟩
theorem RepL.one {K : PySem.W.Frag} {B : Hp} {u : U} {v : V} (h : Rep K B u v) : RepL K B [u] [v] := ⟨v, [], rfl, h, rfl⟩
theorem RepL.set {K : PySem.W.Frag} {B : Hp} {u : U} {v : V} (q : Rep K B u v) : ∀ {us : List U} {vs : List V} (i : Nat), RepL K B us vs → RepL K B (us.set i u) (vs.set i v)
  | [], _, _, h => by cases h; exact rfl
  | w :: us, _, 0, h => by
    obtain ⟨x, r, rfl, _, h3⟩ := h
    exact ⟨v, r, rfl, q, h3⟩
  | w :: us, _, i + 1, h => by
    obtain ⟨x, r, rfl, h2, h3⟩ := h
    exact ⟨x, _, rfl, h2, RepL.set q i h3⟩
theorem RepL.take {K : PySem.W.Frag} {B : Hp} : ∀ {us : List U} {vs : List V} (n : Nat), RepL K B us vs → RepL K B (us.take n) (vs.take n)
  | _, _, 0, _ => by simp [RepL]
  | [], _, _ + 1, h => by cases h; simp [RepL]
  | w :: us, _, n + 1, h => by
    obtain ⟨x, r, rfl, h2, h3⟩ := h
    exact ⟨x, _, rfl, h2, RepL.take n h3⟩
theorem RepL.drop {K : PySem.W.Frag} {B : Hp} : ∀ {us : List U} {vs : List V} (n : Nat), RepL K B us vs → RepL K B (us.drop n) (vs.drop n)
  | _, _, 0, h => h
  | [], _, _ + 1, h => by cases h; simp [RepL]
  | w :: us, _, n + 1, h => by
    obtain ⟨x, r, rfl, h2, h3⟩ := h
    exact RepL.drop n h3
theorem RepL.reverse {K : PySem.W.Frag} {B : Hp} : ∀ {us : List U} {vs : List V}, RepL K B us vs → RepL K B us.reverse vs.reverse
  | [], _, h => by cases h; exact rfl
  | w :: us, _, h => by
    obtain ⟨x, r, rfl, h2, h3⟩ := h
    rw [List.reverse_cons, List.reverse_cons]
    exact RepL.append (RepL.reverse h3) (RepL.one h2)
theorem RepL.eraseIdx {K : PySem.W.Frag} {B : Hp} : ∀ {us : List U} {vs : List V} (i : Nat), RepL K B us vs → RepL K B (us.eraseIdx i) (vs.eraseIdx i)
  | [], _, _, h => by cases h; exact rfl
  | w :: us, _, 0, h => by
    obtain ⟨x, r, rfl, _, h3⟩ := h
    exact h3
  | w :: us, _, i + 1, h => by
    obtain ⟨x, r, rfl, h2, h3⟩ := h
    exact ⟨x, _, rfl, h2, RepL.eraseIdx i h3⟩
theorem RepL.replicate {K : PySem.W.Frag} {B : Hp} {us : List U} {vs : List V} (h : RepL K B us vs) : ∀ n : Nat, RepL K B (List.replicate n us).flatten (List.replicate n vs).flatten
  | 0 => rfl
  | n + 1 => by
    rw [List.replicate_succ, List.replicate_succ, List.flatten_cons, List.flatten_cons]
    exact RepL.append h (RepL.replicate h n)
structure Fc where
  B0 : Hp
  H0 : Hp
  M : List Addr
  X : List (Addr × HO)
  S : St
  O : List Addr
inductive Fld where
  | v (u : U) | l (us : List U) | d (kvs : List (Key × U)) | ll (uss : List (List U)) | dl (kvs : List (Key × List U)) | dn (kvs : List (KT × U))
inductive Slot where
  | non | val (u : U) | cel (own : Bool) (us : List U) | celD (own : Bool) (kvs : List (Key × U)) | lck (kvs : List (Key × U)) | nam (a : Addr) (u : U)
  | obj (own : Bool) (c : Str) (fs : List (Str × Fld)) | fld (own : Bool) (fl : Fld)
abbrev Env := List Slot
def Slot.isC : Slot → Bool
  | .cel _ _ => true
  | .celD _ _ => true
  | .obj _ _ _ => true
  | .fld _ _ => true
  | _ => false
def Slot.lent : Slot → Bool
  | .cel false _ => true
  | .celD false _ => true
  | .obj false _ _ => true
  | .fld false _ => true
  | _ => false
def LsOk (K : PySem.W.Frag) (B H : Hp) : List (List U) → List V → Prop
  | [], ws => ws = []
  | us :: uss, ws => ∃ q vs r, ws = .ref q :: r ∧ H q = some (.lst vs) ∧ RepL K B us vs ∧ LsOk K B H uss r
def DsOk (K : PySem.W.Frag) (B H : Hp) : List (Key × List U) → List (Key × V) → Prop
  | [], ws => ws = []
  | (k, us) :: uss, ws => ∃ q vs r, ws = (k, .ref q) :: r ∧ H q = some (.lst vs) ∧ RepL K B us vs ∧ DsOk K B H uss r
def FlOk (K : PySem.W.Frag) (B H : Hp) : Fld → V → Prop
  | .v u, x => Rep K B u x
  | .l us, x => ∃ q ws, x = .ref q ∧ H q = some (.lst ws) ∧ RepL K B us ws
  | .d kvs, x => ∃ q ws, x = .ref q ∧ H q = some (.dK ws) ∧ RepD K B kvs ws
  | .ll uss, x => ∃ q ws, x = .ref q ∧ H q = some (.lst ws) ∧ LsOk K B H uss ws
  | .dl kvs, x => ∃ q ws, x = .ref q ∧ H q = some (.dK ws) ∧ DsOk K B H kvs ws
  | .dn kvs, x => ∃ q ws, x = .ref q ∧ ND2 K B H q ws ∧ RepN K B kvs ws
def FsOk (K : PySem.W.Frag) (B H : Hp) : List (Str × Fld) → List (Str × V) → Prop
  | [], ws => ws = []
  | (k, f) :: fs, ws => ∃ x r, ws = (k, x) :: r ∧ FlOk K B H f x ∧ FsOk K B H fs r
def adV : V → List Addr
  | .ref q => [q]
  | _ => []
def lstW : Option HO → List V
  | some (.lst ws) => ws
  | _ => []
def dicW : Option HO → List (Key × V)
  | some (.dK ws) => ws
  | _ => []
def inn1 (H : Hp) : Fld → V → List Addr
  | .v _, _ => []
  | .l _, x => adV x
  | .d _, x => adV x
  | .ll _, x => adV x ++ (adV x).flatMap fun p => (lstW (H p)).flatMap adV
  | .dl _, x => adV x ++ (adV x).flatMap fun p => (dicW (H p)).flatMap fun kv => adV kv.2
  | .dn _, x => adV x
def inn (H : Hp) : List (Str × Fld) → List (Str × V) → List Addr
  | (_, f) :: fs, (_, x) :: ws => inn1 H f x ++ inn H fs ws
  | _, _ => []
def adO : Option V → List Addr
  | some (.ref p) => [p]
  | _ => []
def insW : Option HO → List (Str × V)
  | some (.ins _ _ ws) => ws
  | _ => []
def Slot.ow (H : Hp) (s : Slot) (o : Option V) : List Addr :=
  match s with
  | .cel _ _ => adO o
  | .celD _ _ => adO o
  | .obj _ _ fs => match o with
    | some (.ref p) => p :: inn H fs (insW (H p))
    | _ => []
  | .fld _ fl => match o with
    | some x => inn1 H fl x
    | none => []
  | _ => []
def SlotOk (K : PySem.W.Frag) (F : Fc) (B H : Hp) : Slot → Option V → Prop
  | .non, _ => True
  | .val u, o => ∃ v, o = some v ∧ Rep K B u v
  | .cel own us, o => ∃ p ws, o = some (.ref p) ∧ H p = some (.lst ws) ∧ B p = none ∧ RepL K B us ws ∧ (if own then F.H0 p = none else p ∈ F.M)
  | .celD own kvs, o => ∃ p ws, o = some (.ref p) ∧ H p = some (.dK ws) ∧ B p = none ∧ RepD K B kvs ws ∧ (if own then F.H0 p = none else p ∈ F.M)
  | .lck kvs, o => ∃ d ws q, o = some (.ref d) ∧ B d = some (.frz q (.dK ws)) ∧ RepD K B kvs ws
  | .nam a u, o => o = some (.ref a) ∧ Rep K B u (.ref a)
  | .obj own c fs, o => ∃ p dx ws, o = some (.ref p) ∧ H p = some (.ins (He.ga K c) dx ws) ∧ FsOk K B H fs ws ∧ (p :: inn H fs ws).Nodup ∧ ∀ q ∈ p :: inn H fs ws, B q = none ∧ (if own then F.H0 q = none else (q ∈ F.M ∧ q ∈ F.O) ∨ F.H0 q = none)
  | .fld own fl, o => ∃ x, o = some x ∧ FlOk K B H fl x ∧ (inn1 H fl x).Nodup ∧ ∀ q ∈ inn1 H fl x, B q = none ∧ (if own then F.H0 q = none else (q ∈ F.M ∧ q ∉ F.O) ∨ F.H0 q = none)
structure Rel (K : PySem.W.Frag) (F : Fc) (ρ : Env) (σ : St) (B H : Hp) : Prop where
  len : σ.length = ρ.length
  ex : Ex B H
  sl : ∀ (i : Nat) s, ρ[i]? = some s → SlotOk K F B H s (σ.getD i none)
  ds : ∀ (i j : Nat) s t p, i ≠ j → ρ[i]? = some s → ρ[j]? = some t → p ∈ s.ow H (σ.getD i none) → p ∈ t.ow H (σ.getD j none) → False
  bb : Ex F.B0 B
  hh : ∀ a o, a ∉ F.M → F.H0 a = some o → H a = some o
  th : ∀ a o, F.H0 a = some o → ∃ o', H a = some o'
  nw : ∀ a o, F.B0 a = none → F.H0 a = some o → B a = none
  xx : ∀ a o, (a, o) ∈ F.X → H a = some o ∧ B a = none ∧ F.H0 a = none
  xs : ∀ a o, (a, o) ∈ F.X → ∀ (j : Nat) s, ρ[j]? = some s → a ∉ s.ow H (σ.getD j none)
  xd : (F.X.map (·.1)).Nodup
  ln : ∀ (i : Nat) s, ρ[i]? = some s → s.lent = true → σ.getD i none = F.S.getD i none
structure Go (N : List Addr) (B H B' H' : Hp) : Prop where
  bb : Ex B B'
  bh : Ex B' H'
  hh : ∀ a o, a ∉ N → H a = some o → H' a = some o
  th : ∀ a o, H a = some o → ∃ o', H' a = some o'
  nw : ∀ a o, B a = none → H a = some o → B' a = none
section
variable {K : PySem.W.Frag} {F : Fc} {ρ : Env} {σ : St} {B H B' H' : Hp} {p : Addr} {o : HO} {N : List Addr}
theorem Go.refl (e : Ex B H) : Go N B H B H := ⟨Ex.refl, e, fun _ _ _ h => h, fun _ o h => ⟨o, h⟩, fun _ _ h _ => h⟩
theorem Go.trans {B1 H1 : Hp} (a : Go N B H B1 H1) (b : Go N B1 H1 B' H') : Go N B H B' H' :=
  ⟨a.bb.trans b.bb, b.bh, fun x o n h => b.hh x o n (a.hh x o n h), fun x o h => by obtain ⟨o', h'⟩ := a.th x o h; exact b.th x o' h',
    fun x o n h => by obtain ⟨o', h'⟩ := a.th x o h; exact b.nw x o' (a.nw x o n h) h'⟩
theorem Go.mono {N' : List Addr} (g : Go N B H B' H') (h : ∀ a ∈ N, a ∈ N') : Go N' B H B' H' :=
  ⟨g.bb, g.bh, fun a o n => g.hh a o (fun m => n (h a m)), g.th, g.nw⟩
theorem Go.ex (g : Go [] B H B' H') : Ex H H' := fun a o h => g.hh a o (by simp) h
theorem Go.newB (e : Ex B H) (h : H p = none) : Go [] B H (upd B p o) (upd H p o) := by
  refine ⟨Ex.new (e.none h), fun a u q => ?_, fun a u _ q => Ex.new h a u q, fun a u q => ⟨u, Ex.new h a u q⟩, fun a u n q => ?_⟩
  · by_cases c : a = p
    · subst c; rw [upd_same] at q ⊢; exact q
    · rw [upd_ne c] at q ⊢; exact e a u q
  · rw [upd_ne (ne_of_none q h)]; exact n
theorem Go.newC (e : Ex B H) (h : H p = none) : Go [] B H B (upd H p o) :=
  ⟨Ex.refl, e.trans (Ex.new h), fun a u _ q => Ex.new h a u q, fun a u q => ⟨u, Ex.new h a u q⟩, fun _ _ n _ => n⟩
theorem Go.wr (e : Ex B H) (h : B p = none) : Go [p] B H B (upd H p o) := by
  refine ⟨Ex.refl, fun a u q => ?_, fun a u n q => ?_, fun a u q => ?_, fun _ _ n _ => n⟩
  · rw [upd_ne (ne_of_none q h)]; exact e a u q
  · rw [upd_ne (by simpa using n)]; exact q
  · by_cases c : a = p
    · exact ⟨o, by rw [c, upd_same]⟩
    · exact ⟨u, by rw [upd_ne c]; exact q⟩
theorem ow_cel {own : Bool} {us : List U} {ov : Option V} (e : ov = some (.ref p)) : p ∈ (Slot.cel own us).ow H ov := by subst e; exact List.mem_singleton_self p
theorem ow_celD {own : Bool} {us : List (Key × U)} {ov : Option V} (e : ov = some (.ref p)) : p ∈ (Slot.celD own us).ow H ov := by subst e; exact List.mem_singleton_self p
theorem of_adO {ov : Option V} (h : p ∈ adO ov) : ov = some (.ref p) := by
  unfold adO at h
  split at h
  · rw [List.mem_singleton.mp h]
  · cases h
theorem of_ow_cel {own : Bool} {us : List U} {ov : Option V} (h : p ∈ (Slot.cel own us).ow H ov) : ov = some (.ref p) := of_adO h
theorem of_ow_celD {own : Bool} {us : List (Key × U)} {ov : Option V} (h : p ∈ (Slot.celD own us).ow H ov) : ov = some (.ref p) := of_adO h
theorem ow_no {s : Slot} {ov : Option V} (h : s.isC = false) : s.ow H ov = [] := by cases s <;> first | rfl | cases h
theorem ow_isC {s : Slot} {ov : Option V} (h : p ∈ s.ow H ov) : s.isC = true := by
  cases c : s.isC with
  | true => rfl
  | false => rw [ow_no c] at h; cases h
theorem RepL.tr (t : ∀ u v, Rep K B u v → Rep K B' u v) : ∀ {us : List U} {vs : List V}, RepL K B us vs → RepL K B' us vs
  | [], _, h => h
  | u :: us, _, h => by
    obtain ⟨v, r, rfl, h1, h2⟩ := h
    exact ⟨v, r, rfl, t u v h1, RepL.tr t h2⟩
theorem RepD.tr (t : ∀ u v, Rep K B u v → Rep K B' u v) : ∀ {us : List (Key × U)} {vs : List (Key × V)}, RepD K B us vs → RepD K B' us vs
  | [], _, h => h
  | (k, u) :: us, _, h => by
    obtain ⟨v, r, rfl, h1, h2⟩ := h
    exact ⟨v, r, rfl, t u v h1, RepD.tr t h2⟩
theorem LsOk.tr (t : ∀ u v, Rep K B u v → Rep K B' u v) : ∀ {uss : List (List U)} {ws : List V}, (∀ q ∈ ws.flatMap adV, H' q = H q) → LsOk K B H uss ws → LsOk K B' H' uss ws
  | [], _, _, h => h
  | us :: uss, _, hq, h => by
    obtain ⟨q, vs, r, rfl, h1, h2, h3⟩ := h
    exact ⟨q, vs, r, rfl, by rw [hq q List.mem_cons_self]; exact h1, RepL.tr t h2, LsOk.tr t (fun z hz => hq z (List.mem_cons_of_mem _ hz)) h3⟩
theorem DsOk.tr (t : ∀ u v, Rep K B u v → Rep K B' u v) : ∀ {uss : List (Key × List U)} {ws : List (Key × V)}, (∀ q ∈ ws.flatMap (fun kv => adV kv.2), H' q = H q) → DsOk K B H uss ws → DsOk K B' H' uss ws
  | [], _, _, h => h
  | (k, us) :: uss, _, hq, h => by
    obtain ⟨q, vs, r, rfl, h1, h2, h3⟩ := h
    exact ⟨q, vs, r, rfl, by rw [hq q List.mem_cons_self]; exact h1, RepL.tr t h2, DsOk.tr t (fun z hz => hq z (List.mem_cons_of_mem _ hz)) h3⟩
theorem LsOk.alive : ∀ {uss : List (List U)} {ws : List V}, LsOk K B H uss ws → ∀ q ∈ ws.flatMap adV, ∃ u, H q = some u
  | [], _, h, q, hq => by cases h; cases hq
  | us :: uss, _, h, q, hq => by
    obtain ⟨z, vs, r, rfl, h1, h2, h3⟩ := h
    rcases List.mem_cons.mp (show q ∈ z :: r.flatMap adV from hq) with e | e
    · rw [e]; exact ⟨_, h1⟩
    · exact LsOk.alive h3 q e
theorem DsOk.alive : ∀ {uss : List (Key × List U)} {ws : List (Key × V)}, DsOk K B H uss ws → ∀ q ∈ ws.flatMap (fun kv => adV kv.2), ∃ u, H q = some u
  | [], _, h, q, hq => by cases h; cases hq
  | (k, us) :: uss, _, h, q, hq => by
    obtain ⟨z, vs, r, rfl, h1, h2, h3⟩ := h
    rcases List.mem_cons.mp (show q ∈ z :: r.flatMap (fun kv => adV kv.2) from hq) with e | e
    · rw [e]; exact ⟨_, h1⟩
    · exact DsOk.alive h3 q e
theorem inn1_ll {uss : List (List U)} {p : Addr} {ws : List V} (h : H p = some (.lst ws)) : inn1 H (.ll uss) (.ref p) = p :: ws.flatMap adV := by
  show [p] ++ ([p].flatMap fun p => (lstW (H p)).flatMap adV) = _
  rw [List.flatMap_singleton, h]; rfl
theorem inn1_dl {uss : List (Key × List U)} {p : Addr} {ws : List (Key × V)} (h : H p = some (.dK ws)) : inn1 H (.dl uss) (.ref p) = p :: ws.flatMap (fun kv => adV kv.2) := by
  show [p] ++ ([p].flatMap fun p => (dicW (H p)).flatMap fun kv => adV kv.2) = _
  rw [List.flatMap_singleton, h]; rfl
theorem FlOk.tr (t : ∀ u v, Rep K B u v → Rep K B' u v) {fl : Fld} {x : V} (hq : ∀ q ∈ inn1 H fl x, H' q = H q) (h : FlOk K B H fl x) : FlOk K B' H' fl x ∧ inn1 H' fl x = inn1 H fl x := by
  cases fl with
  | v u => exact ⟨t u x h, rfl⟩
  | l us => obtain ⟨q, ws, rfl, h1, h2⟩ := h; exact ⟨⟨q, ws, rfl, by rw [hq q (List.mem_singleton_self q)]; exact h1, RepL.tr t h2⟩, rfl⟩
  | d us => obtain ⟨q, ws, rfl, h1, h2⟩ := h; exact ⟨⟨q, ws, rfl, by rw [hq q (List.mem_singleton_self q)]; exact h1, RepD.tr t h2⟩, rfl⟩
  | ll uss =>
    obtain ⟨q, ws, rfl, h1, h2⟩ := h
    rw [inn1_ll h1] at hq ⊢
    have h1' : H' q = some (.lst ws) := by rw [hq q List.mem_cons_self]; exact h1
    exact ⟨⟨q, ws, rfl, h1', h2.tr t fun z hz => hq z (List.mem_cons_of_mem _ hz)⟩, inn1_ll h1'⟩
  | dl uss =>
    obtain ⟨q, ws, rfl, h1, h2⟩ := h
    rw [inn1_dl h1] at hq ⊢
    have h1' : H' q = some (.dK ws) := by rw [hq q List.mem_cons_self]; exact h1
    exact ⟨⟨q, ws, rfl, h1', h2.tr t fun z hz => hq z (List.mem_cons_of_mem _ hz)⟩, inn1_dl h1'⟩
  | dn us => obtain ⟨q, ws, rfl, h1, h2⟩ := h; exact ⟨⟨q, ws, rfl, (h1.at (hq q (List.mem_singleton_self q))).tr t, RepN.tr t h2⟩, rfl⟩
theorem FlOk.move (xb : Ex B B') {fl : Fld} {x : V} (hq : ∀ q ∈ inn1 H fl x, H' q = H q) (h : FlOk K B H fl x) : FlOk K B' H' fl x ∧ inn1 H' fl x = inn1 H fl x := h.tr (fun u v => Rep.mono xb u v) hq
theorem FlOk.alive {fl : Fld} {x : V} (h : FlOk K B H fl x) : ∀ q ∈ inn1 H fl x, ∃ u, H q = some u := fun q hq => by
  cases fl with
  | v u => cases hq
  | l us => obtain ⟨z, ws, rfl, h1, h2⟩ := h; rw [List.mem_singleton.mp (show q ∈ [z] from hq)]; exact ⟨_, h1⟩
  | d us => obtain ⟨z, ws, rfl, h1, h2⟩ := h; rw [List.mem_singleton.mp (show q ∈ [z] from hq)]; exact ⟨_, h1⟩
  | ll uss =>
    obtain ⟨z, ws, rfl, h1, h2⟩ := h
    rw [inn1_ll h1] at hq
    rcases List.mem_cons.mp hq with e | e
    · rw [e]; exact ⟨_, h1⟩
    · exact h2.alive q e
  | dl uss =>
    obtain ⟨z, ws, rfl, h1, h2⟩ := h
    rw [inn1_dl h1] at hq
    rcases List.mem_cons.mp hq with e | e
    · rw [e]; exact ⟨_, h1⟩
    · exact h2.alive q e
  | dn us => obtain ⟨z, ws, rfl, h1, h2⟩ := h; rw [List.mem_singleton.mp (show q ∈ [z] from hq)]; obtain ⟨es, ep, e⟩ := h1.some; exact ⟨_, e⟩
theorem FsOk.tr (t : ∀ u v, Rep K B u v → Rep K B' u v) : ∀ {fs : List (Str × Fld)} {ws : List (Str × V)}, (∀ q ∈ inn H fs ws, H' q = H q) → FsOk K B H fs ws → FsOk K B' H' fs ws ∧ inn H' fs ws = inn H fs ws
  | [], _, _, h => ⟨h, rfl⟩
  | (k, f) :: fs, _, hq, h => by
    obtain ⟨x, r, rfl, h1, h2⟩ := h
    obtain ⟨a1, a2⟩ := h1.tr t fun q hm => hq q (List.mem_append_left _ hm)
    obtain ⟨b1, b2⟩ := FsOk.tr t (fun q hm => hq q (List.mem_append_right _ hm)) h2
    exact ⟨⟨x, r, rfl, a1, b1⟩, by show inn1 H' f x ++ inn H' fs r = inn1 H f x ++ inn H fs r; rw [a2, b2]⟩
theorem FsOk.move (xb : Ex B B') {fs : List (Str × Fld)} {ws : List (Str × V)} (h : ∀ q ∈ inn H fs ws, H' q = H q) (r : FsOk K B H fs ws) : FsOk K B' H' fs ws ∧ inn H' fs ws = inn H fs ws := r.tr (fun u v => Rep.mono xb u v) h
theorem FsOk.alive : ∀ {fs : List (Str × Fld)} {ws : List (Str × V)}, FsOk K B H fs ws → ∀ q ∈ inn H fs ws, ∃ u, H q = some u
  | [], _, h, q, hq => by cases h; cases hq
  | (k, f) :: fs, _, h, q, hq => by
    obtain ⟨x, r, rfl, h1, h2⟩ := h
    rcases List.mem_append.mp (show q ∈ inn1 H f x ++ inn H fs r from hq) with e | e
    · exact h1.alive q e
    · exact FsOk.alive h2 q e
theorem SlotOk.owned {s : Slot} {ov : Option V} (h : SlotOk K F B H s ov) (hp : p ∈ s.ow H ov) : (∃ u, H p = some u) ∧ B p = none ∧ (F.H0 p = none ∨ p ∈ F.M) := by
  cases s with
  | cel own us =>
    obtain ⟨p', ws, e, h1, h2, h3, h4⟩ := h
    rw [of_ow_cel hp] at e; cases e
    cases own with
    | true => exact ⟨⟨_, h1⟩, h2, .inl h4⟩
    | false => exact ⟨⟨_, h1⟩, h2, .inr h4⟩
  | celD own us =>
    obtain ⟨p', ws, e, h1, h2, h3, h4⟩ := h
    rw [of_ow_celD hp] at e; cases e
    cases own with
    | true => exact ⟨⟨_, h1⟩, h2, .inl h4⟩
    | false => exact ⟨⟨_, h1⟩, h2, .inr h4⟩
  | obj own c fs =>
    obtain ⟨a, dx, ws, rfl, h1, h2, h3, h4⟩ := h
    have hp' : p ∈ a :: inn H fs ws := by
      have : p ∈ a :: inn H fs (insW (H a)) := hp
      rw [h1] at this; exact this
    obtain ⟨q1, q2⟩ := h4 p hp'
    refine ⟨?_, q1, ?_⟩
    · rcases List.mem_cons.mp hp' with e | e
      · rw [e]; exact ⟨_, h1⟩
      · exact h2.alive p e
    · cases own with
      | true => exact .inl q2
      | false => exact (Or.symm q2).imp id And.left
  | fld own fl =>
    obtain ⟨x, rfl, h2, h3, h4⟩ := h
    obtain ⟨q1, q2⟩ := h4 p hp
    refine ⟨h2.alive p hp, q1, ?_⟩
    cases own with
    | true => exact .inl q2
    | false => exact (Or.symm q2).imp id And.left
  | non => cases hp
  | val u => cases hp
  | lck u => cases hp
  | nam a u => cases hp
theorem SlotOk.move {s : Slot} {ov : Option V} (h : SlotOk K F B H s ov) (xb : Ex B B') (hm : ∀ q ∈ s.ow H ov, H' q = H q ∧ B' q = none) : SlotOk K F B' H' s ov ∧ s.ow H' ov = s.ow H ov := by
  cases s with
  | non => exact ⟨trivial, rfl⟩
  | val u => obtain ⟨v, e, r⟩ := h; exact ⟨⟨v, e, Rep.mono xb u v r⟩, rfl⟩
  | cel own us =>
    obtain ⟨p, ws, e, h1, h2, h3, h4⟩ := h
    obtain ⟨m1, m2⟩ := hm p (ow_cel e)
    exact ⟨⟨p, ws, e, by rw [m1]; exact h1, m2, RepL.mono xb us ws h3, h4⟩, rfl⟩
  | celD own us =>
    obtain ⟨p, ws, e, h1, h2, h3, h4⟩ := h
    obtain ⟨m1, m2⟩ := hm p (ow_celD e)
    exact ⟨⟨p, ws, e, by rw [m1]; exact h1, m2, RepD.mono xb us ws h3, h4⟩, rfl⟩
  | lck us => obtain ⟨d, ws, q, e, h1, h2⟩ := h; exact ⟨⟨d, ws, q, e, xb _ _ h1, RepD.mono xb us ws h2⟩, rfl⟩
  | nam a u => exact ⟨⟨h.1, Rep.mono xb u _ h.2⟩, rfl⟩
  | obj own c fs =>
    obtain ⟨a, dx, ws, rfl, h1, h2, h3, h4⟩ := h
    have hm' : ∀ q ∈ a :: inn H fs ws, H' q = H q ∧ B' q = none := fun q hq => hm q (by show q ∈ a :: inn H fs (insW (H a)); rw [h1]; exact hq)
    have ha := (hm' a List.mem_cons_self).1
    obtain ⟨f1, f2⟩ := h2.move (H' := H') xb fun q hq => (hm' q (List.mem_cons_of_mem _ hq)).1
    exact ⟨⟨a, dx, ws, rfl, by rw [ha]; exact h1, f1, by rw [f2]; exact h3, by rw [f2]; exact fun q hq => ⟨(hm' q hq).2, (h4 q hq).2⟩⟩, by show a :: inn H' fs (insW (H' a)) = a :: inn H fs (insW (H a)); rw [ha, h1]; show a :: inn H' fs ws = a :: inn H fs ws; rw [f2]⟩
  | fld own fl =>
    obtain ⟨x, rfl, h2, h3, h4⟩ := h
    obtain ⟨f1, f2⟩ := h2.move (H' := H') xb fun q hq => (hm q hq).1
    exact ⟨⟨x, rfl, f1, by rw [f2]; exact h3, by rw [f2]; exact fun q hq => ⟨(hm q hq).2, (h4 q hq).2⟩⟩, f2⟩
theorem getD_set {σ : St} {i j : Nat} {x : Option V} (hi : i < σ.length) : (σ.set i x).getD j none = if j = i then x else σ.getD j none := by
  rw [List.getD_eq_getElem?_getD, List.getD_eq_getElem?_getD, List.getElem?_set]
  by_cases c : i = j
  · subst c; simp [hi]
  · rw [if_neg c, if_neg (Ne.symm c)]
theorem getD_set_ne {σ : St} {i j : Nat} {x : Option V} (h : j ≠ i) : (σ.set i x).getD j none = σ.getD j none := by
  rw [List.getD_eq_getElem?_getD, List.getD_eq_getElem?_getD, List.getElem?_set_ne (Ne.symm h)]
theorem getElem_set {ρ : Env} {i j : Nat} {x s : Slot} (h : (ρ.set i x)[j]? = some s) : (j = i ∧ s = x) ∨ (j ≠ i ∧ ρ[j]? = some s) := by
  rw [List.getElem?_set] at h
  by_cases c : i = j
  · subst c
    rw [if_pos rfl] at h
    by_cases l : i < ρ.length
    · rw [if_pos l] at h; exact .inl ⟨rfl, (Option.some.inj h).symm⟩
    · rw [if_neg l] at h; cases h
  · rw [if_neg c] at h; exact .inr ⟨Ne.symm c, h⟩
theorem Rel.owned (R : Rel K F ρ σ B H) {j : Nat} {s : Slot} (e : ρ[j]? = some s) (h : p ∈ s.ow H (σ.getD j none)) : (∃ u, H p = some u) ∧ B p = none ∧ (F.H0 p = none ∨ p ∈ F.M) := (R.sl j s e).owned h
theorem Rel.move (R : Rel K F ρ σ B H) (xb : Ex B B') (x : Ex B' H') (h : ∀ (j : Nat) s q, ρ[j]? = some s → q ∈ s.ow H (σ.getD j none) → H' q = H q ∧ B' q = none)
    (hh : ∀ a o, a ∉ F.M → F.H0 a = some o → H' a = some o) (th : ∀ a o, F.H0 a = some o → ∃ o', H' a = some o') (nw : ∀ a o, F.B0 a = none → F.H0 a = some o → B' a = none) (xx : ∀ a o, (a, o) ∈ F.X → H' a = some o ∧ B' a = none ∧ F.H0 a = none) : Rel K F ρ σ B' H' := by
  have hs : ∀ (j : Nat) s, ρ[j]? = some s → SlotOk K F B' H' s (σ.getD j none) ∧ s.ow H' (σ.getD j none) = s.ow H (σ.getD j none) := fun j s e => (R.sl j s e).move xb fun q hq => h j s q e hq
  refine ⟨R.len, x, fun i s e => (hs i s e).1, fun i j s t q ne e1 e2 h1 h2 => ?_, R.bb.trans xb, hh, th, nw, xx, fun a o ho j s e hm => ?_, R.xd, R.ln⟩
  · rw [(hs i s e1).2] at h1; rw [(hs j t e2).2] at h2
    exact R.ds i j s t q ne e1 e2 h1 h2
  · rw [(hs j s e).2] at hm; exact R.xs a o ho j s e hm
theorem Rel.grow (R : Rel K F ρ σ B H) (g : Go [] B H B' H') : Rel K F ρ σ B' H' :=
  R.move g.bb g.bh (fun j s q e hq => by
    obtain ⟨⟨u, hu⟩, hb, _⟩ := R.owned e hq
    exact ⟨by rw [hu]; exact g.ex _ _ hu, g.nw _ _ hb hu⟩) (fun a o n h => g.ex _ _ (R.hh a o n h)) (fun a o h => by obtain ⟨o', h'⟩ := R.th a o h; exact g.th a o' h')
    (fun a o n h => by obtain ⟨o', h'⟩ := R.th a o h; exact g.nw a o' (R.nw a o n h) h') (fun a o h => by obtain ⟨h1, h2, h3⟩ := R.xx a o h; exact ⟨g.ex _ _ h1, g.nw _ _ h2 h1, h3⟩)
theorem Rel.setG {i : Nat} {s' : Slot} {σ' : St} (R : Rel K F ρ σ B H) (hl : σ'.length = σ.length) (he : ∀ j, j ≠ i → σ'.getD j none = σ.getD j none) (ok : i < σ.length → SlotOk K F B H s' (σ'.getD i none))
    (h5 : i < σ.length → ∀ (j : Nat) s q, j ≠ i → ρ[j]? = some s → q ∈ s.ow H (σ.getD j none) → q ∈ s'.ow H (σ'.getD i none) → False) (h6 : i < σ.length → ∀ q o, q ∈ s'.ow H (σ'.getD i none) → (q, o) ∉ F.X)
    (hL : s'.lent = true → σ'.getD i none = F.S.getD i none := by exact fun z => nomatch z) : Rel K F (ρ.set i s') σ' B H := by
  have gi : ∀ {s}, (ρ.set i s')[i]? = some s → i < σ.length := fun e => by
    have := (List.getElem?_eq_some_iff.mp e).1
    rw [List.length_set] at this; rw [R.len]; exact this
  refine ⟨by rw [hl, List.length_set]; exact R.len, R.ex, fun j s e => ?_, fun j l s t q ne e1 e2 h1 h2 => ?_, R.bb, R.hh, R.th, R.nw, R.xx, fun a o h j s e hm => ?_, R.xd, fun j s e l => ?_⟩
  rotate_left 3
  · rcases getElem_set e with ⟨rfl, rfl⟩ | ⟨ne, e'⟩
    · exact hL l
    · rw [he j ne]; exact R.ln j s e' l
  · rcases getElem_set e with ⟨rfl, rfl⟩ | ⟨ne, e'⟩
    · exact ok (gi e)
    · rw [he j ne]; exact R.sl j s e'
  · rcases getElem_set e1 with ⟨rfl, rfl⟩ | ⟨n1, f1⟩
    · rcases getElem_set e2 with ⟨rfl, rfl⟩ | ⟨n2, f2⟩
      · exact ne rfl
      · rw [he l n2] at h2; exact h5 (gi e1) l t q n2 f2 h2 h1
    · rcases getElem_set e2 with ⟨rfl, rfl⟩ | ⟨n2, f2⟩
      · rw [he j n1] at h1; exact h5 (gi e2) j s q n1 f1 h1 h2
      · rw [he j n1] at h1; rw [he l n2] at h2; exact R.ds j l s t q ne f1 f2 h1 h2
  · rcases getElem_set e with ⟨rfl, rfl⟩ | ⟨ne, e'⟩
    · exact h6 (gi e) a o hm h
    · rw [he j ne] at hm; exact R.xs a o h j s e' hm
theorem Rel.setV {i : Nat} {u : U} {v : V} (R : Rel K F ρ σ B H) (r : Rep K B u v) : Rel K F (ρ.set i (.val u)) (σ.set i (some v)) B H :=
  R.setG (by simp) (fun j ne => getD_set_ne ne) (fun hi => ⟨v, by rw [getD_set hi, if_pos rfl], r⟩) (fun _ _ _ _ _ _ _ h => nomatch h) fun _ _ _ h => nomatch h
theorem Rel.kill {i : Nat} (R : Rel K F ρ σ B H) : Rel K F (ρ.set i .non) σ B H :=
  R.setG rfl (fun _ _ => rfl) (fun _ => trivial) (fun _ _ _ _ _ _ _ h => nomatch h) fun _ _ _ h => nomatch h
theorem Rel.killσ {i : Nat} {x : Option V} (R : Rel K F ρ σ B H) : Rel K F (ρ.set i .non) (σ.set i x) B H :=
  R.setG (by simp) (fun j ne => getD_set_ne ne) (fun _ => trivial) (fun _ _ _ _ _ _ _ h => nomatch h) fun _ _ _ h => nomatch h
theorem Rel.setC {i : Nat} {us : List U} {ws : List V} (R : Rel K F ρ σ B H) (h1 : H p = some (.lst ws)) (h2 : B p = none) (h3 : RepL K B us ws) (h4 : F.H0 p = none)
    (h5 : ∀ (j : Nat) s, ρ[j]? = some s → p ∉ s.ow H (σ.getD j none)) (h6 : ∀ o, (p, o) ∉ F.X) : Rel K F (ρ.set i (.cel true us)) (σ.set i (some (.ref p))) B H :=
  R.setG (by simp) (fun j ne => getD_set_ne ne) (fun hi => ⟨p, ws, by rw [getD_set hi, if_pos rfl], h1, h2, h3, h4⟩) (fun hi j s q ne e hq hq2 => by
    rw [getD_set hi, if_pos rfl] at hq2
    have : q = p := List.mem_singleton.mp hq2
    subst this; exact h5 j s e hq) fun hi q o hq => by
    rw [getD_set hi, if_pos rfl] at hq
    have : q = p := List.mem_singleton.mp hq
    subst this; exact h6 o
theorem Rel.chg {i : Nat} {s : Slot} (R : Rel K F ρ σ B H) (hi : ρ[i]? = some s) (xb : Ex B B') (x : Ex B' H') (hn : ∀ a o, a ∉ s.ow H (σ.getD i none) → H a = some o → H' a = some o ∧ (B a = none → B' a = none))
    (ht : ∀ a ∈ s.ow H (σ.getD i none), ∃ o', H' a = some o') (hM : ∀ a o, a ∈ s.ow H (σ.getD i none) → F.H0 a = some o → B' a = none) : Rel K F (ρ.set i .non) σ B' H' := by
  refine R.kill.move xb x (fun j t q e hq => ?_) (fun a o n h => ?_) (fun a o h => ?_) (fun a o n h => ?_) (fun a o h => ?_)
  · rcases getElem_set e with ⟨rfl, rfl⟩ | ⟨ne, e⟩
    · cases hq
    · obtain ⟨⟨u, hu⟩, hb, _⟩ := R.owned e hq
      have nq : q ∉ s.ow H (σ.getD i none) := fun z => R.ds j i t s q ne e hi hq z
      obtain ⟨z1, z2⟩ := hn q u nq hu
      exact ⟨by rw [hu]; exact z1, z2 hb⟩
  · refine (hn a o (fun z => ?_) (R.hh a o n h)).1
    rcases (R.owned hi z).2.2 with y | y
    · rw [y] at h; cases h
    · exact n y
  · obtain ⟨o', h'⟩ := R.th a o h
    by_cases z : a ∈ s.ow H (σ.getD i none)
    · exact ht a z
    · exact ⟨o', (hn a o' z h').1⟩
  · obtain ⟨o', h'⟩ := R.th a o h
    by_cases z : a ∈ s.ow H (σ.getD i none)
    · exact hM a o z h
    · exact (hn a o' z h').2 (R.nw a o n h)
  · obtain ⟨z1, z2, z3⟩ := R.xx a o h
    obtain ⟨y1, y2⟩ := hn a o (R.xs a o h i s hi) z1
    exact ⟨y1, y2 z2, z3⟩
theorem Rel.wr1 {i : Nat} {s : Slot} {o' : HO} (R : Rel K F ρ σ B H) (hi : ρ[i]? = some s) (hp : p ∈ s.ow H (σ.getD i none)) : Rel K F (ρ.set i .non) σ B (upd H p o') := by
  have hb := (R.owned hi hp).2.1
  have g := Go.wr (o := o') R.ex hb
  refine R.chg hi Ex.refl g.bh (fun a u n h => ⟨by rw [upd_ne fun z => n (by rw [z]; exact hp)]; exact h, fun z => z⟩) (fun a ha => ?_) fun a _ ha _ => (R.owned hi ha).2.1
  obtain ⟨⟨u, hu⟩, _⟩ := R.owned hi ha
  exact g.th a u hu
theorem Rel.back {i : Nat} {s' : Slot} (R : Rel K F (ρ.set i .non) σ B H) (ok : SlotOk K F B H s' (σ.getD i none)) (h5 : ∀ (j : Nat) s q, j ≠ i → ρ[j]? = some s → q ∈ s.ow H (σ.getD j none) → q ∈ s'.ow H (σ.getD i none) → False) (h6 : ∀ q o, q ∈ s'.ow H (σ.getD i none) → (q, o) ∉ F.X)
    (hL : s'.lent = true → σ.getD i none = F.S.getD i none := by exact fun z => nomatch z) : Rel K F (ρ.set i s') σ B H := by
  have := R.setG (i := i) (s' := s') (σ' := σ) rfl (fun _ _ => rfl) (fun _ => ok) (fun _ j s q ne e => h5 j s q ne (by rw [List.getElem?_set_ne (Ne.symm ne)] at e; exact e)) (fun _ => h6) hL
  rw [List.set_set] at this
  exact this
theorem Rel.wrC {i : Nat} {own : Bool} {us us' : List U} {ws ws' : List V} (R : Rel K F ρ σ B H) (hi : ρ[i]? = some (.cel own us)) (e : σ.getD i none = some (.ref p)) (h1 : H p = some (.lst ws)) (h2 : B p = none) (h3 : RepL K B us' ws') :
    Rel K F (ρ.set i (.cel own us')) σ B (upd H p (.lst ws')) := by
  have pm0 : (if own then F.H0 p = none else p ∈ F.M) := by
    obtain ⟨p', _, e', _, _, _, h⟩ := R.sl i _ hi
    rw [e] at e'; cases e'; exact h
  have hp : p ∈ (Slot.cel own us).ow H (σ.getD i none) := ow_cel e
  have g := R.wr1 (o' := .lst ws') hi hp
  refine g.back ⟨p, ws', e, upd_same, h2, h3, pm0⟩ (fun j s q ne es hq hq2 => ?_) (fun q o hq ho => ?_) (fun l => R.ln i _ hi (by cases own <;> exact l))
  · have ez := of_ow_cel hq2
    rw [e] at ez; cases ez
    have hs := (R.sl j s es).move (B' := B) (H' := upd H p (.lst ws')) Ex.refl fun z hz => ⟨by rw [upd_ne fun y => R.ds j i s _ p ne es hi (by rw [← y]; exact hz) hp], (R.owned es hz).2.1⟩
    rw [hs.2] at hq
    exact R.ds j i s _ p ne es hi hq hp
  · have ez := of_ow_cel hq
    rw [e] at ez; cases ez
    exact R.xs p o ho i _ hi hp
theorem Rel.freeze {i : Nat} {us : List U} (R : Rel K F ρ σ B H) (hi : ρ[i]? = some (.cel true us)) : ∃ p ws, σ.getD i none = some (.ref p) ∧ H p = some (.lst ws) ∧ RepL K B us ws ∧ B p = none ∧
    Rel K F (ρ.set i (.val (.lst us))) σ (upd B p (.lst ws)) H ∧ Ex B (upd B p (.lst ws)) ∧ Rep K (upd B p (.lst ws)) (.lst us) (.ref p) := by
  obtain ⟨p, ws, e, h1, h2, h3, pm⟩ := R.sl i _ hi
  have xb : Ex B (upd B p (.lst ws)) := Ex.new h2
  have rp : Rep K (upd B p (.lst ws)) (.lst us) (.ref p) := ⟨p, ws, rfl, upd_same, RepL.mono xb _ _ h3⟩
  have hp : p ∈ (Slot.cel true us).ow H (σ.getD i none) := ow_cel e
  have g := R.chg (B' := upd B p (.lst ws)) (H' := H) hi xb (fun a o q => by
    by_cases c : a = p
    · subst c; rw [upd_same] at q; cases q; exact h1
    · rw [upd_ne c] at q; exact R.ex a o q) (fun a o n h => ⟨h, fun z => by rw [upd_ne fun y => n (by rw [y]; exact hp)]; exact z⟩) (fun a ha => (R.owned hi ha).1) fun a o ha hm => by
      have ez := of_ow_cel ha
      rw [e] at ez; cases ez
      have z : F.H0 p = none := pm
      rw [z] at hm; cases hm
  exact ⟨p, ws, e, h1, h3, h2, g.back ⟨_, e, rp⟩ (fun _ _ _ _ _ _ h => nomatch h) (fun _ _ h => nomatch h), xb, rp⟩
theorem Rel.know {q : Addr} (R : Rel K F ρ σ B H) (h1 : H q = some o) (h2 : B q = none) (h3 : F.H0 q = none) (h4 : ∀ (j : Nat) s, ρ[j]? = some s → q ∉ s.ow H (σ.getD j none)) (h5 : ∀ u, (q, u) ∉ F.X) :
    Rel K F ρ σ (upd B q o) H := by
  have xb : Ex B (upd B q o) := Ex.new h2
  refine R.move xb (fun b u e => ?_) (fun j s z e hz => ⟨rfl, ?_⟩) R.hh R.th (fun b u n e => ?_) fun b u e => ?_
  · by_cases c : b = q
    · subst c; rw [upd_same] at e; cases e; exact h1
    · rw [upd_ne c] at e; exact R.ex b u e
  · rw [upd_ne fun c => h4 j s e (by rw [← c]; exact hz)]; exact (R.owned e hz).2.1
  · have np : b ≠ q := fun c => by rw [c, h3] at e; cases e
    rw [upd_ne np]; exact R.nw b u n e
  · obtain ⟨z1, z2, z3⟩ := R.xx b u e
    have np : b ≠ q := fun c => by rw [c] at e; exact h5 u e
    exact ⟨z1, by rw [upd_ne np]; exact z2, z3⟩
theorem Rel.notC {q : Addr} (R : Rel K F ρ σ B H) (h : H q = none) (j : Nat) (s : Slot) (e : ρ[j]? = some s) : q ∉ s.ow H (σ.getD j none) := fun z => by
  obtain ⟨⟨u, hu⟩, _⟩ := R.owned e z
  rw [h] at hu; cases hu
theorem Rel.ow_eq (R : Rel K F ρ σ B H) (g : Go [] B H B' H') {j : Nat} {s : Slot} (e : ρ[j]? = some s) : s.ow H' (σ.getD j none) = s.ow H (σ.getD j none) :=
  ((R.sl j s e).move g.bb fun z hz => by
    obtain ⟨⟨u, hu⟩, hb, _⟩ := R.owned e hz
    exact ⟨by rw [hu]; exact g.ex _ _ hu, g.nw _ _ hb hu⟩).2
theorem Rel.plain {ρ' : Env} {S : St} {O : List Addr} (hl : σ.length = ρ'.length) (x : Ex B H) (h : ∀ (j : Nat) s, ρ'[j]? = some s → s.isC = false ∧ SlotOk K ⟨B, H, [], [], S, O⟩ B H s (σ.getD j none)) : Rel K ⟨B, H, [], [], S, O⟩ ρ' σ B H :=
  ⟨hl, x, fun j s e => (h j s e).2, fun j l s t p ne e1 e2 h1 h2 => (by rw [ow_no (h j s e1).1] at h1; cases h1), Ex.refl, fun _ _ _ h => h, fun _ o h => ⟨o, h⟩, fun _ _ h _ => h, fun _ _ h => by simp at h, fun _ _ h => by simp at h, by simp, fun j s e l => (by
    have := (h j s e).1
    cases s <;> first | (cases l; done) | (cases this; done))⟩
end
end Sg
set_option Elab.async false
set_option linter.all false
set_option maxRecDepth 100000
set_option maxHeartbeats 4000000
namespace Sg
open PySem L2
structure Exn where
  c : Str
  arg : Option (Str × U) := none
inductive EO where
  | ok (u : U) (ρ : Env)
  | ex (e : Exn) (ρ : Env)
def XRelC (K : PySem.W.Frag) (H0 : Hp) (e : Exn) (cls : Value) (d : Option Addr) (H : Hp) : Prop :=
  cls = .ref (He.ga K e.c) ∧ match e.arg with
  | none => d = none
  | some (f, u) => ∃ dd z, d = some dd ∧ scV u = some z ∧ H dd = some (.xd [(f, z)]) ∧ H0 dd = none
def XRel (K : PySem.W.Frag) (F : Fc) (e : Exn) (cls : Value) (d : Option Addr) (H : Hp) : Prop := XRelC K F.H0 e cls d H ∧ ∀ dd, d = some dd → ∀ o, (dd, o) ∉ F.X
theorem XRel.up {K : PySem.W.Frag} {F : Fc} {ρ : Env} {σ : St} {B H H' : Hp} {e : Exn} {cls : Value} {d : Option Addr} (R : Rel K F ρ σ B H) (x : XRelC K H e cls d H') : XRel K F e cls d H' := by
  obtain ⟨h1, h2⟩ := x
  cases q : e.arg with
  | none =>
    rw [q] at h2
    exact ⟨⟨h1, by rw [q]; exact h2⟩, fun dd e1 => by rw [h2] at e1; cases e1⟩
  | some p =>
    rw [q] at h2
    obtain ⟨dd, z, h3, h4, h5, h6⟩ := h2
    have h7 : F.H0 dd = none := by
      cases g : F.H0 dd with
      | none => rfl
      | some o =>
        obtain ⟨o', h'⟩ := R.th dd o g
        rw [h6] at h'; cases h'
    refine ⟨⟨h1, by rw [q]; exact ⟨dd, z, h3, h4, h5, h7⟩⟩, fun d2 e1 o ho => ?_⟩
    · rw [h3] at e1
      cases e1
      have z1 := (R.xx _ _ ho).1
      rw [h6] at z1; cases z1
theorem XRel.down {K : PySem.W.Frag} {F : Fc} {e : Exn} {cls : Value} {d : Option Addr} {H' : Hp} (x : XRel K F e cls d H') : XRelC K F.H0 e cls d H' := x.1
theorem XRel.sub {K : PySem.W.Frag} {F F' : Fc} {e : Exn} {cls : Value} {d : Option Addr} {H' : Hp} (h0 : F'.H0 = F.H0) (hX : ∀ y ∈ F'.X, y ∈ F.X) (x : XRel K F e cls d H') : XRel K F' e cls d H' := ⟨by rw [h0]; exact x.1, fun dd e1 o ho => x.2 dd e1 o (hX _ ho)⟩
def Fin (K : PySem.W.Frag) (F : Fc) (W : WX) (p k : Bool) (ρ : Env) (σ : St) (B H : Hp) (Q : VK) : EO → Prop
  | .ok u ρ' => ∀ v B' H', Ex B B' → (p = true → Ex H H' ∧ ρ' = ρ) → Rel K F ρ' σ B' H' → Rep K (if k then B' else H') u v → Q v H'
  | .ex e ρ' => ∀ cls d B' H', Ex B B' → Rel K F ρ' σ B' H' → XRel K F e cls d H' → W cls d σ H'
structure ME (K : PySem.W.Frag) where
  t : WX → TE
  m : Env → Option EO
  p : Bool
  k : Bool
  ok : ∀ (F : Fc) (W : WX) (ρ : Env) (σ : St) (B H : Hp) (Q : VK) (o : EO), m ρ = some o → Rel K F ρ σ B H → Fin K F W p k ρ σ B H Q o → t W σ H Q
def bindE (a : Option EO) (f : U → Env → Option EO) : Option EO :=
  match a with
  | none => none
  | some (.ex e ρ) => some (.ex e ρ)
  | some (.ok u ρ) => f u ρ
theorem bindE_ok {u : U} {ρ : Env} {f : U → Env → Option EO} : bindE (some (.ok u ρ)) f = f u ρ := rfl
theorem bindE_ex {e : Exn} {ρ : Env} {f : U → Env → Option EO} : bindE (some (.ex e ρ)) f = some (.ex e ρ) := rfl
theorem bindE_some {a : Option EO} {f : U → Env → Option EO} {o : EO} (h : bindE a f = some o) : (∃ u ρ', a = some (.ok u ρ') ∧ f u ρ' = some o) ∨ ∃ e ρ', a = some (.ex e ρ') ∧ o = .ex e ρ' := by
  cases a with
  | none => cases h
  | some x =>
    cases x with
    | ok u ρ => exact .inl ⟨u, ρ, rfl, h⟩
    | ex e ρ => exact .inr ⟨e, ρ, rfl, (Option.some.inj h).symm⟩
section
variable {K : PySem.W.Frag} {F : Fc} {W : WX} {ρ ρ' : Env} {σ : St} {B H : Hp} {Q : VK}
theorem rep_up {k : Bool} {B' H' : Hp} {u : U} {v : V} (R : Rel K F ρ σ B' H') (r : Rep K (if k = true then B' else H') u v) : Rep K H' u v := by
  cases k with
  | true => exact Rep.mono R.ex u v r
  | false => exact r
end
variable {K : PySem.W.Frag}
def mC (u : U) (z : V) (h : scV u = some z := by exact id rfl) : ME K where
  t := fun _ => tC z
  m := fun ρ => some (.ok u ρ)
  p := true
  k := true
  ok := fun F W ρ σ B H Q o e R f => by
    cases e
    exact f z B H Ex.refl (fun _ => ⟨Ex.refl, rfl⟩) R (rep_sc h)
def mVar (i : Nat) : ME K where
  t := fun _ => tVar i
  m := fun ρ => match ρ[i]? with
    | some (.val u) => some (.ok u ρ)
    | some (.lck kvs) => some (.ok (.dic kvs) ρ)
    | some (.nam _ u) => some (.ok u ρ)
    | _ => none
  p := true
  k := true
  ok := fun F W ρ σ B H Q o e R f => by
    split at e
    · rename_i u hu
      cases e
      obtain ⟨v, hv, r⟩ := R.sl i _ hu
      refine ⟨v, ?_, f v B H Ex.refl (fun _ => ⟨Ex.refl, rfl⟩) R r⟩
      rw [List.getD_eq_getElem?_getD] at hv
      cases q : σ[i]? with
      | none => rw [q] at hv; cases hv
      | some x => rw [q] at hv; exact congrArg some hv
    · rename_i us hu
      cases e
      obtain ⟨d, ws, q, hv, h1, h2⟩ := R.sl i _ hu
      refine ⟨.ref d, ?_, f _ B H Ex.refl (fun _ => ⟨Ex.refl, rfl⟩) R ⟨d, ws, rfl, .inr ⟨q, h1⟩, h2⟩⟩
      rw [List.getD_eq_getElem?_getD] at hv
      cases q : σ[i]? with
      | none => rw [q] at hv; cases hv
      | some x => rw [q] at hv; exact congrArg some hv
    · rename_i a u hu
      cases e
      obtain ⟨hv, r⟩ := R.sl i _ hu
      refine ⟨.ref a, ?_, f _ B H Ex.refl (fun _ => ⟨Ex.refl, rfl⟩) R r⟩
      rw [List.getD_eq_getElem?_getD] at hv
      cases q : σ[i]? with
      | none => rw [q] at hv; cases hv
      | some x => rw [q] at hv; exact congrArg some hv
    · cases e
theorem getD_some {σ : St} {i : Nat} {v : V} (h : σ.getD i none = some v) : σ[i]? = some (some v) := by
  rw [List.getD_eq_getElem?_getD] at h
  cases q : σ[i]? with
  | none => rw [q] at h; cases h
  | some x => rw [q] at h; exact congrArg some h
def mLook (i : Nat) : ME K where
  t := fun _ => tVar i
  m := fun ρ => match ρ[i]? with
    | some (.val u) => some (.ok u ρ)
    | some (.cel _ us) => some (.ok (.lst us) ρ)
    | some (.celD _ us) => some (.ok (.dic us) ρ)
    | some (.lck us) => some (.ok (.dic us) ρ)
    | some (.nam _ u) => some (.ok u ρ)
    | _ => none
  p := true
  k := false
  ok := fun F W ρ σ B H Q o e R f => by
    split at e
    · rename_i u hu
      cases e
      obtain ⟨v, hv, r⟩ := R.sl i _ hu
      exact ⟨v, getD_some hv, f v B H Ex.refl (fun _ => ⟨Ex.refl, rfl⟩) R (Rep.mono R.ex _ _ r)⟩
    · rename_i own us hu
      cases e
      obtain ⟨p, ws, hv, h1, h2, h3, _⟩ := R.sl i _ hu
      exact ⟨_, getD_some hv, f _ B H Ex.refl (fun _ => ⟨Ex.refl, rfl⟩) R ⟨p, ws, rfl, h1, RepL.mono R.ex _ _ h3⟩⟩
    · rename_i own us hu
      cases e
      obtain ⟨p, ws, hv, h1, h2, h3, _⟩ := R.sl i _ hu
      exact ⟨_, getD_some hv, f _ B H Ex.refl (fun _ => ⟨Ex.refl, rfl⟩) R ⟨p, ws, rfl, .inl h1, RepD.mono R.ex _ _ h3⟩⟩
    · rename_i us hu
      cases e
      obtain ⟨d, ws, q, hv, h1, h2⟩ := R.sl i _ hu
      exact ⟨_, getD_some hv, f _ B H Ex.refl (fun _ => ⟨Ex.refl, rfl⟩) R ⟨d, ws, rfl, .inr ⟨q, R.ex _ _ h1⟩, RepD.mono R.ex _ _ h2⟩⟩
    · rename_i a u hu
      cases e
      obtain ⟨hv, r⟩ := R.sl i _ hu
      exact ⟨_, getD_some hv, f _ B H Ex.refl (fun _ => ⟨Ex.refl, rfl⟩) R (Rep.mono R.ex _ _ r)⟩
    · cases e
def mLet (i : Nat) : ME K where
  t := fun _ => tVar i
  m := fun ρ => match ρ[i]? with
    | some (.val u) => some (.ok u ρ)
    | some (.cel true us) => some (.ok (.lst us) (ρ.set i (.val (.lst us))))
    | _ => none
  p := false
  k := true
  ok := fun F W ρ σ B H Q o e R f => by
    split at e
    · rename_i u hu
      cases e
      obtain ⟨v, hv, r⟩ := R.sl i _ hu
      exact ⟨v, getD_some hv, f v B H Ex.refl (fun z => nomatch z) R r⟩
    · rename_i us hu
      cases e
      obtain ⟨p, ws, hv, h1, h3, h2, R', xb, rp⟩ := R.freeze hu
      exact ⟨_, getD_some hv, f _ _ H xb (fun z => nomatch z) R' rp⟩
    · cases e
structure Op2 (K : PySem.W.Frag) where
  r : R2
  f : U → U → Option U
  ok : ∀ (H : Hp) (x y : V) (u v w : U), Rep K H u x → Rep K H v y → f u v = some w → ∃ z, scV w = some z ∧ ∀ Q : VK, Q z H → r x y H Q
def mOp (o : Op2 K) (a b : ME K) (h : (a.k || b.p) = true := by exact id rfl) : ME K where
  t := fun W => tOp o.r (a.t W) (b.t W)
  m := fun ρ => bindE (a.m ρ) fun u ρ1 => bindE (b.m ρ1) fun v ρ2 => (o.f u v).map fun w => .ok w ρ2
  p := a.p && b.p
  k := true
  ok := fun F W ρ σ B H Q out e R f => by
    rcases bindE_some e with ⟨u, ρ1, e1, e⟩ | ⟨x, ρ1, e1, rfl⟩
    · refine a.ok F W ρ σ B H _ _ e1 R fun v1 B1 H1 x1 p1 R1 r1 => ?_
      rcases bindE_some e with ⟨v, ρ2, e2, e⟩ | ⟨x, ρ2, e2, rfl⟩
      · refine b.ok F W ρ1 σ B1 H1 _ _ e2 R1 fun v2 B2 H2 x2 p2 R2' r2 => ?_
        obtain ⟨w, ew, rfl⟩ := Option.map_eq_some_iff.mp e
        have r1' : Rep K H2 u v1 := by
          rcases Bool.or_eq_true_iff.mp h with c | c
          · rw [c] at r1
            exact Rep.mono R2'.ex _ _ (Rep.mono x2 _ _ r1)
          · exact Rep.mono (p2 c).1 _ _ (rep_up R1 r1)
        obtain ⟨z, hz, q⟩ := o.ok H2 v1 v2 u v w r1' (rep_up R2' r2) ew
        refine q _ (f z B2 H2 (x1.trans x2) (fun c => ?_) R2' (by show Rep K B2 w z; exact rep_sc hz))
        obtain ⟨c1, c2⟩ := Bool.and_eq_true_iff.mp c
        exact ⟨(p1 c1).1.trans (p2 c2).1, (p2 c2).2.trans (p1 c1).2⟩
      · exact b.ok F W ρ1 σ B1 H1 _ _ e2 R1 fun cls d B2 H2 x2 R2' xr => f cls d B2 H2 (x1.trans x2) R2' xr
    · exact a.ok F W ρ σ B H _ _ e1 R fun cls d B1 H1 x1 R1 xr => f cls d B1 H1 x1 R1 xr
structure Op1 (K : PySem.W.Frag) where
  r : V → Hp → VK → Prop
  f : U → Option U
  ok : ∀ (H : Hp) (x : V) (u w : U), Rep K H u x → f u = some w → ∃ z, scV w = some z ∧ ∀ Q : VK, Q z H → r x H Q
def mUn (o : Op1 K) (a : ME K) : ME K where
  t := fun W => tUn o.r (a.t W)
  m := fun ρ => bindE (a.m ρ) fun u ρ1 => (o.f u).map fun w => .ok w ρ1
  p := a.p
  k := true
  ok := fun F W ρ σ B H Q out e R f => by
    rcases bindE_some e with ⟨u, ρ1, e1, e⟩ | ⟨x, ρ1, e1, rfl⟩
    · refine a.ok F W ρ σ B H _ _ e1 R fun v1 B1 H1 x1 p1 R1 r1 => ?_
      obtain ⟨w, ew, rfl⟩ := Option.map_eq_some_iff.mp e
      obtain ⟨z, hz, q⟩ := o.ok H1 v1 u w (rep_up R1 r1) ew
      exact q _ (f z B1 H1 x1 p1 R1 (by show Rep K B1 w z; exact rep_sc hz))
    · exact a.ok F W ρ σ B H _ _ e1 R fun cls d B1 H1 x1 R1 xr => f cls d B1 H1 x1 R1 xr
structure OpI (K : PySem.W.Frag) where
  r : R2
  f : U → U → Option U
  ok : ∀ (B H : Hp) (x y : V) (u v w : U) (Q : VK), Ex B H → Rep K B u x → Rep K H v y → f u v = some w → (∀ z, Rep K B w z → Q z H) → r x y H Q
def mIx (o : OpI K) (a b : ME K) (h : (a.k || b.p) = true := by exact id rfl) : ME K where
  t := fun W => tOp o.r (a.t W) (b.t W)
  m := fun ρ => bindE (a.m ρ) fun u ρ1 => bindE (b.m ρ1) fun v ρ2 => (o.f u v).map fun w => .ok w ρ2
  p := a.p && b.p
  k := a.k
  ok := fun F W ρ σ B H Q out e R f => by
    rcases bindE_some e with ⟨u, ρ1, e1, e⟩ | ⟨x, ρ1, e1, rfl⟩
    · refine a.ok F W ρ σ B H _ _ e1 R fun v1 B1 H1 x1 p1 R1 r1 => ?_
      rcases bindE_some e with ⟨v, ρ2, e2, e⟩ | ⟨x, ρ2, e2, rfl⟩
      · refine b.ok F W ρ1 σ B1 H1 _ _ e2 R1 fun v2 B2 H2 x2 p2 R2' r2 => ?_
        obtain ⟨w, ew, rfl⟩ := Option.map_eq_some_iff.mp e
        have r1' : Rep K (if a.k = true then B2 else H2) u v1 := by
          cases ck : a.k with
          | true =>
            rw [ck] at r1
            exact Rep.mono x2 _ _ r1
          | false =>
            rw [ck] at r1 h
            exact Rep.mono (p2 (by simpa using h)).1 _ _ r1
        have ex' : Ex (if a.k = true then B2 else H2) H2 := by
          split
          · exact R2'.ex
          · exact Ex.refl
        refine o.ok _ H2 v1 v2 u v w _ ex' r1' (rep_up R2' r2) ew fun z r3 => ?_
        refine f z B2 H2 (x1.trans x2) (fun c => ?_) R2' r3
        obtain ⟨c1, c2⟩ := Bool.and_eq_true_iff.mp c
        exact ⟨(p1 c1).1.trans (p2 c2).1, (p2 c2).2.trans (p1 c1).2⟩
      · exact b.ok F W ρ1 σ B1 H1 _ _ e2 R1 fun cls d B2 H2 x2 R2' xr => f cls d B2 H2 (x1.trans x2) R2' xr
    · exact a.ok F W ρ σ B H _ _ e1 R fun cls d B1 H1 x1 R1 xr => f cls d B1 H1 x1 R1 xr
def mSc (a : ME K) : ME K where
  t := a.t
  m := fun ρ => bindE (a.m ρ) fun u ρ1 => if (scV u).isSome then some (.ok u ρ1) else none
  p := a.p
  k := true
  ok := fun F W ρ σ B H Q out e R f => by
    rcases bindE_some e with ⟨u, ρ1, e1, e⟩ | ⟨x, ρ1, e1, rfl⟩
    · refine a.ok F W ρ σ B H _ _ e1 R fun v1 B1 H1 x1 p1 R1 r1 => ?_
      split at e
      · rename_i c
        cases e
        obtain ⟨z, hz⟩ := Option.isSome_iff_exists.mp c
        obtain ⟨rfl, r2⟩ := scV_rep (B' := B1) hz r1
        exact f v1 B1 H1 x1 p1 R1 r2
      · cases e
    · exact a.ok F W ρ σ B H _ _ e1 R fun cls d B1 H1 x1 R1 xr => f cls d B1 H1 x1 R1 xr
inductive AO where
  | ok (us : List U) (ρ : Env)
  | ex (e : Exn) (ρ : Env)
def FinA (K : PySem.W.Frag) (F : Fc) (W : WX) (p k : Bool) (ρ : Env) (σ : St) (B H : Hp) (Q : List V → Hp → Prop) : AO → Prop
  | .ok us ρ' => ∀ vs B' H', Ex B B' → (p = true → Ex H H' ∧ ρ' = ρ) → Rel K F ρ' σ B' H' → RepL K (if k then B' else H') us vs → Q vs H'
  | .ex e ρ' => ∀ cls d B' H', Ex B B' → Rel K F ρ' σ B' H' → XRel K F e cls d H' → W cls d σ H'
structure MA (K : PySem.W.Frag) where
  t : WX → TA
  m : Env → Option AO
  p : Bool
  k : Bool
  ok : ∀ (F : Fc) (W : WX) (ρ : Env) (σ : St) (B H : Hp) (Q : List V → Hp → Prop) (o : AO), m ρ = some o → Rel K F ρ σ B H → FinA K F W p k ρ σ B H Q o → t W σ H Q
def bindEA (a : Option EO) (f : U → Env → Option AO) : Option AO :=
  match a with
  | none => none
  | some (.ex e ρ) => some (.ex e ρ)
  | some (.ok u ρ) => f u ρ
theorem bindEA_some {a : Option EO} {f : U → Env → Option AO} {o : AO} (h : bindEA a f = some o) : (∃ u ρ', a = some (.ok u ρ') ∧ f u ρ' = some o) ∨ ∃ e ρ', a = some (.ex e ρ') ∧ o = .ex e ρ' := by
  cases a with
  | none => cases h
  | some x =>
    cases x with
    | ok u ρ => exact .inl ⟨u, ρ, rfl, h⟩
    | ex e ρ => exact .inr ⟨e, ρ, rfl, (Option.some.inj h).symm⟩
def bindAE (a : Option AO) (f : List U → Env → Option EO) : Option EO :=
  match a with
  | none => none
  | some (.ex e ρ) => some (.ex e ρ)
  | some (.ok u ρ) => f u ρ
theorem bindAE_some {a : Option AO} {f : List U → Env → Option EO} {o : EO} (h : bindAE a f = some o) : (∃ u ρ', a = some (.ok u ρ') ∧ f u ρ' = some o) ∨ ∃ e ρ', a = some (.ex e ρ') ∧ o = .ex e ρ' := by
  cases a with
  | none => cases h
  | some x =>
    cases x with
    | ok u ρ => exact .inl ⟨u, ρ, rfl, h⟩
    | ex e ρ => exact .inr ⟨e, ρ, rfl, (Option.some.inj h).symm⟩
def mNil : MA K where
  t := fun _ => tNil
  m := fun ρ => some (.ok [] ρ)
  p := true
  k := true
  ok := fun F W ρ σ B H Q o e R f => by
    cases e
    exact f [] B H Ex.refl (fun _ => ⟨Ex.refl, rfl⟩) R rfl
def mCons (a : ME K) (b : MA K) (h : (a.k || b.p) = true := by exact id rfl) : MA K where
  t := fun W => tCons (a.t W) (b.t W)
  m := fun ρ => bindEA (a.m ρ) fun u ρ1 => match b.m ρ1 with
    | none => none
    | some (.ex e ρ2) => some (.ex e ρ2)
    | some (.ok us ρ2) => some (.ok (u :: us) ρ2)
  p := a.p && b.p
  k := a.k && b.k
  ok := fun F W ρ σ B H Q out e R f => by
    rcases bindEA_some e with ⟨u, ρ1, e1, e⟩ | ⟨x, ρ1, e1, rfl⟩
    · refine a.ok F W ρ σ B H _ _ e1 R fun v1 B1 H1 x1 p1 R1 r1 => ?_
      split at e
      · cases e
      · rename_i x ρ2 e2
        cases e
        exact b.ok F W ρ1 σ B1 H1 _ _ e2 R1 fun cls d B2 H2 x2 R2' xr => f cls d B2 H2 (x1.trans x2) R2' xr
      · rename_i us ρ2 e2
        cases e
        refine b.ok F W ρ1 σ B1 H1 _ _ e2 R1 fun vs B2 H2 x2 p2 R2' r2 => ?_
        refine f (v1 :: vs) B2 H2 (x1.trans x2) (fun c => ?_) R2' ?_
        · obtain ⟨c1, c2⟩ := Bool.and_eq_true_iff.mp c
          exact ⟨(p1 c1).1.trans (p2 c2).1, (p2 c2).2.trans (p1 c1).2⟩
        · cases ck : a.k with
          | true =>
            rw [ck] at r1
            cases cb : b.k with
            | true =>
              rw [cb] at r2
              exact ⟨v1, vs, rfl, Rep.mono x2 _ _ r1, r2⟩
            | false =>
              rw [cb] at r2
              exact ⟨v1, vs, rfl, Rep.mono R2'.ex _ _ (Rep.mono x2 _ _ r1), r2⟩
          | false =>
            rw [ck] at r1 h
            have q1 := Rep.mono (p2 (by simpa using h)).1 _ _ r1
            refine ⟨v1, vs, rfl, q1, ?_⟩
            cases cb : b.k with
            | true => rw [cb] at r2; exact RepL.mono R2'.ex _ _ r2
            | false => rw [cb] at r2; exact r2
    · exact a.ok F W ρ σ B H _ _ e1 R fun cls d B1 H1 x1 R1 xr => f cls d B1 H1 x1 R1 xr
def mTup (a : MA K) (h : a.k = true := by exact id rfl) : ME K where
  t := fun W => tTup (a.t W)
  m := fun ρ => bindAE (a.m ρ) fun us ρ1 => if us.length ≤ 16777216 then some (.ok (.tup us) ρ1) else none
  p := a.p
  k := true
  ok := fun F W ρ σ B H Q out e R f => by
    rcases bindAE_some e with ⟨us, ρ1, e1, e⟩ | ⟨x, ρ1, e1, rfl⟩
    · refine a.ok F W ρ σ B H _ _ e1 R fun vs B1 H1 x1 p1 R1 r1 => ?_
      rw [h] at r1
      split at e
      · rename_i hl
        cases e
        refine ⟨by rw [r1.length, PySem.sizeLine_eq]; exact hl, fun p hp => ?_⟩
        have g := Go.newB (o := .tup vs) R1.ex hp
        exact f (.ref p) _ _ (x1.trans g.bb) (fun c => ⟨(p1 c).1.trans g.ex, (p1 c).2⟩) (R1.grow g) ⟨p, vs, rfl, .inl (.inl upd_same), RepL.mono g.bb _ _ r1⟩
      · cases e
    · exact a.ok F W ρ σ B H _ _ e1 R fun cls d B1 H1 x1 R1 xr => f cls d B1 H1 x1 R1 xr
def FinF (K : PySem.W.Frag) (F : Fc) (W : WX) (p : Bool) (ρ : Env) (σ : St) (B H : Hp) (Q : VK) : AO → Prop
  | .ok us ρ' => ∀ (q : Addr) ws B' H', Ex B B' → (p = true → Ex H H' ∧ ρ' = ρ) → Rel K F ρ' σ B' H' → H' q = some (.lst ws) → B' q = none → F.H0 q = none →
      (∀ (j : Nat) s, ρ'[j]? = some s → q ∉ s.ow H' (σ.getD j none)) → (∀ o, (q, o) ∉ F.X) → RepL K B' us ws → Q (.ref q) H'
  | .ex e ρ' => ∀ cls d B' H', Ex B B' → Rel K F ρ' σ B' H' → XRel K F e cls d H' → W cls d σ H'
structure MF (K : PySem.W.Frag) where
  t : WX → TE
  m : Env → Option AO
  p : Bool
  ok : ∀ (F : Fc) (W : WX) (ρ : Env) (σ : St) (B H : Hp) (Q : VK) (o : AO), m ρ = some o → Rel K F ρ σ B H → FinF K F W p ρ σ B H Q o → t W σ H Q
theorem Rel.fresh0 {F : Fc} {ρ : Env} {σ : St} {B H : Hp} {q : Addr} (R : Rel K F ρ σ B H) (h : H q = none) : F.H0 q = none := by
  cases e : F.H0 q with
  | none => rfl
  | some o =>
    obtain ⟨o', h'⟩ := R.th q o e
    rw [h] at h'; cases h'
theorem newF {F : Fc} {W : WX} {p : Bool} {ρ ρ1 : Env} {σ : St} {B H B1 H1 : Hp} {Q : VK} {us : List U} {ws : List V} (f : FinF K F W p ρ σ B H Q (.ok us ρ1)) (x1 : Ex B B1) (p1 : p = true → Ex H H1 ∧ ρ1 = ρ) (R1 : Rel K F ρ1 σ B1 H1)
    (r : RepL K B1 us ws) {q : Addr} (hq : H1 q = none) : Q (.ref q) (upd H1 q (.lst ws)) := by
  have g := Go.newC (o := .lst ws) R1.ex hq
  exact f q ws B1 _ x1 (fun c => ⟨(p1 c).1.trans g.ex, (p1 c).2⟩) (R1.grow g) upd_same (R1.ex.none hq) (R1.fresh0 hq) (fun j s e => by rw [R1.ow_eq g e]; exact R1.notC hq j s e) (fun o ho => by rw [(R1.xx _ _ ho).1] at hq; cases hq) r
def mFr (a : MF K) : ME K where
  t := a.t
  m := fun ρ => bindAE (a.m ρ) fun us ρ1 => some (.ok (.lst us) ρ1)
  p := a.p
  k := true
  ok := fun F W ρ σ B H Q out e R f => by
    rcases bindAE_some e with ⟨us, ρ1, e1, e⟩ | ⟨x, ρ1, e1, rfl⟩
    · cases e
      refine a.ok F W ρ σ B H _ _ e1 R fun q ws B1 H1 x1 p1 R1 h1 h2 h3 h4 h5 r1 => ?_
      have xb : Ex B1 (upd B1 q (.lst ws)) := Ex.new h2
      exact f (.ref q) (upd B1 q (.lst ws)) H1 (x1.trans xb) p1 (R1.know h1 h2 h3 h4 h5) ⟨q, ws, rfl, upd_same, RepL.mono xb _ _ r1⟩
    · exact a.ok F W ρ σ B H _ _ e1 R fun cls d B1 H1 x1 R1 xr => f cls d B1 H1 x1 R1 xr
def mLst (a : MA K) (h : a.k = true := by exact id rfl) : MF K where
  t := fun W => tLst (a.t W)
  m := fun ρ => match a.m ρ with
    | some (.ok us ρ1) => if us.length ≤ 16777216 then some (.ok us ρ1) else none
    | o => o
  p := a.p
  ok := fun F W ρ σ B H Q out e R f => by
    split at e
    · rename_i us ρ1 e1
      split at e
      · rename_i hl
        cases e
        refine a.ok F W ρ σ B H _ _ e1 R fun vs B1 H1 x1 p1 R1 r1 => ?_
        rw [h] at r1
        exact ⟨by rw [r1.length, PySem.sizeLine_eq]; exact hl, fun p hp => newF f x1 p1 R1 r1 hp⟩
      · cases e
    · rename_i h2
      cases o : a.m ρ with
      | none => rw [o] at e; cases e
      | some x =>
        rw [o] at e; cases e
        cases out with
        | ok us ρ1 => exact absurd o (h2 us ρ1)
        | ex x ρ1 => exact a.ok F W ρ σ B H _ _ o R fun cls d B1 H1 x1 R1 xr => f cls d B1 H1 x1 R1 xr
end Sg
set_option Elab.async false
set_option linter.all false
set_option maxRecDepth 100000
set_option maxHeartbeats 4000000
namespace Sg
open PySem L2
variable {K : PySem.W.Frag}
inductive TOu where
  | ok (b : Bool) (ρ : Env)
  | ex (e : Exn) (ρ : Env)
def FinT (K : PySem.W.Frag) (F : Fc) (W : WX) (p : Bool) (ρ : Env) (σ : St) (B H : Hp) (Q : Bool → Hp → Prop) : TOu → Prop
  | .ok b ρ' => ∀ B' H', Ex B B' → (p = true → Ex H H' ∧ ρ' = ρ) → Rel K F ρ' σ B' H' → Q b H'
  | .ex e ρ' => ∀ cls d B' H', Ex B B' → Rel K F ρ' σ B' H' → XRel K F e cls d H' → W cls d σ H'
structure MT (K : PySem.W.Frag) where
  t : WX → TT
  m : Env → Option TOu
  p : Bool
  ok : ∀ (F : Fc) (W : WX) (ρ : Env) (σ : St) (B H : Hp) (Q : Bool → Hp → Prop) (o : TOu), m ρ = some o → Rel K F ρ σ B H → FinT K F W p ρ σ B H Q o → t W σ H Q
def bindET (a : Option EO) (f : U → Env → Option TOu) : Option TOu :=
  match a with
  | none => none
  | some (.ex e ρ) => some (.ex e ρ)
  | some (.ok u ρ) => f u ρ
theorem bindET_some {a : Option EO} {f : U → Env → Option TOu} {o : TOu} (h : bindET a f = some o) : (∃ u ρ', a = some (.ok u ρ') ∧ f u ρ' = some o) ∨ ∃ e ρ', a = some (.ex e ρ') ∧ o = .ex e ρ' := by
  cases a with
  | none => cases h
  | some x =>
    cases x with
    | ok u ρ => exact .inl ⟨u, ρ, rfl, h⟩
    | ex e ρ => exact .inr ⟨e, ρ, rfl, (Option.some.inj h).symm⟩
def bindTT (a : Option TOu) (f : Bool → Env → Option TOu) : Option TOu :=
  match a with
  | none => none
  | some (.ex e ρ) => some (.ex e ρ)
  | some (.ok u ρ) => f u ρ
theorem bindTT_some {a : Option TOu} {f : Bool → Env → Option TOu} {o : TOu} (h : bindTT a f = some o) : (∃ u ρ', a = some (.ok u ρ') ∧ f u ρ' = some o) ∨ ∃ e ρ', a = some (.ex e ρ') ∧ o = .ex e ρ' := by
  cases a with
  | none => cases h
  | some x =>
    cases x with
    | ok u ρ => exact .inl ⟨u, ρ, rfl, h⟩
    | ex e ρ => exact .inr ⟨e, ρ, rfl, (Option.some.inj h).symm⟩
def bindTE (a : Option TOu) (f : Bool → Env → Option EO) : Option EO :=
  match a with
  | none => none
  | some (.ex e ρ) => some (.ex e ρ)
  | some (.ok u ρ) => f u ρ
theorem bindTE_some {a : Option TOu} {f : Bool → Env → Option EO} {o : EO} (h : bindTE a f = some o) : (∃ u ρ', a = some (.ok u ρ') ∧ f u ρ' = some o) ∨ ∃ e ρ', a = some (.ex e ρ') ∧ o = .ex e ρ' := by
  cases a with
  | none => cases h
  | some x =>
    cases x with
    | ok u ρ => exact .inl ⟨u, ρ, rfl, h⟩
    | ex e ρ => exact .inr ⟨e, ρ, rfl, (Option.some.inj h).symm⟩
def mTest (a : ME K) : MT K where
  t := fun W => tTest (a.t W)
  m := fun ρ => bindET (a.m ρ) fun u ρ1 => match u with
    | .bl b => some (.ok b ρ1)
    | _ => none
  p := a.p
  ok := fun F W ρ σ B H Q out e R f => by
    rcases bindET_some e with ⟨u, ρ1, e1, e⟩ | ⟨x, ρ1, e1, rfl⟩
    · refine a.ok F W ρ σ B H _ _ e1 R fun v1 B1 H1 x1 p1 R1 r1 => ?_
      split at e
      · rename_i b
        cases e
        have r2 : v1 = .bl b := rep_up R1 r1
        exact ⟨b, r2, f B1 H1 x1 p1 R1⟩
      · cases e
    · exact a.ok F W ρ σ B H _ _ e1 R fun cls d B1 H1 x1 R1 xr => f cls d B1 H1 x1 R1 xr
def truU : U → Option Bool
  | .non => some false
  | .bl b => some b
  | .int i => some (i != 0)
  | .str s => if s.length ≤ 16777216 then some ((s.length : Int) != 0) else none
  | .lst us => some (!us.isEmpty)
  | .frl us => some (!us.isEmpty)
  | .tup us => some (!us.isEmpty)
  | _ => none
theorem RepL.empty {B : Hp} {us : List U} {vs : List V} (h : RepL K B us vs) : us.isEmpty = vs.isEmpty := by
  cases us with
  | nil => cases h; rfl
  | cons u us => obtain ⟨v, r, rfl, _⟩ := h; rfl
theorem RepD.empty {B : Hp} {us : List (Key × U)} {vs : List (Key × V)} (h : RepD K B us vs) : us.isEmpty = vs.isEmpty := by
  cases us with
  | nil => cases h; rfl
  | cons u us => obtain ⟨k, u⟩ := u; obtain ⟨v, r, rfl, _⟩ := h; rfl
theorem truU_ok {H : Hp} {u : U} {v : V} {b : Bool} (r : Rep K H u v) (h : truU u = some b) : TruV K v H b := by
  cases u with
  | non => cases r; cases h; rfl
  | bl c => cases r; cases h; rfl
  | int i => cases r; cases h; rfl
  | str s =>
    cases r
    have h' : (if s.length ≤ 16777216 then some ((s.length : Int) != 0) else none) = some b := h
    by_cases q : s.length ≤ 16777216
    · rw [if_pos q] at h'; cases h'; exact ⟨by rw [PySem.sizeLine_eq]; exact q, rfl⟩
    · rw [if_neg q] at h'; cases h'
  | ref a => cases h
  | lst us => obtain ⟨a, vs, rfl, h1, h2⟩ := r; cases h; exact .inl ⟨vs, SqL.of h1, by rw [h2.empty]⟩
  | frl us => obtain ⟨a, vs, rfl, h1, h2⟩ := r; cases h; exact .inl ⟨vs, h1, by rw [h2.empty]⟩
  | tup us => obtain ⟨a, vs, rfl, h1, h2⟩ := r; cases h; exact .inr (.inl ⟨vs, h1, by rw [h2.empty]⟩)
  | dic us => cases h
  | ins c fs => cases h
  | exc c => cases h
  | exf c f z => cases h
  | ndc us => cases h
def tTruth (K : PySem.W.Frag) (ta : TE) : TT := fun σ H Q => ta σ H fun x H' => ∃ k, TruV K x H' k ∧ Q k H'
def mTru (a : ME K) : MT K where
  t := fun W => tTruth K (a.t W)
  m := fun ρ => bindET (a.m ρ) fun u ρ1 => (truU u).map fun b => .ok b ρ1
  p := a.p
  ok := fun F W ρ σ B H Q out e R f => by
    rcases bindET_some e with ⟨u, ρ1, e1, e⟩ | ⟨x, ρ1, e1, rfl⟩
    · refine a.ok F W ρ σ B H _ _ e1 R fun v1 B1 H1 x1 p1 R1 r1 => ?_
      obtain ⟨b, eb, rfl⟩ := Option.map_eq_some_iff.mp e
      exact ⟨b, truU_ok (rep_up R1 r1) eb, f B1 H1 x1 p1 R1⟩
    · exact a.ok F W ρ σ B H _ _ e1 R fun cls d B1 H1 x1 R1 xr => f cls d B1 H1 x1 R1 xr
def mAnd (a b : MT K) : MT K where
  t := fun W => tAnd (a.t W) (b.t W)
  m := fun ρ => bindTT (a.m ρ) fun c ρ1 => if c = true then b.m ρ1 else some (.ok false ρ1)
  p := a.p && b.p
  ok := fun F W ρ σ B H Q out e R f => by
    rcases bindTT_some e with ⟨c, ρ1, e1, e⟩ | ⟨x, ρ1, e1, rfl⟩
    · refine a.ok F W ρ σ B H _ _ e1 R fun B1 H1 x1 p1 R1 => ?_
      cases c with
      | true =>
        rw [if_pos rfl] at e ⊢
        refine b.ok F W ρ1 σ B1 H1 _ _ e R1 ?_
        cases out with
        | ok d ρ2 => exact fun B2 H2 x2 p2 R2 => f B2 H2 (x1.trans x2) (fun z => by
            obtain ⟨c1, c2⟩ := Bool.and_eq_true_iff.mp z
            exact ⟨(p1 c1).1.trans (p2 c2).1, (p2 c2).2.trans (p1 c1).2⟩) R2
        | ex x ρ2 => exact fun cls d B2 H2 x2 R2 xr => f cls d B2 H2 (x1.trans x2) R2 xr
      | false =>
        rw [if_neg (by decide)] at e ⊢
        cases e
        exact f B1 H1 x1 (fun z => p1 (Bool.and_eq_true_iff.mp z).1) R1
    · exact a.ok F W ρ σ B H _ _ e1 R fun cls d B1 H1 x1 R1 xr => f cls d B1 H1 x1 R1 xr
def mOr (a b : MT K) : MT K where
  t := fun W => tOr (a.t W) (b.t W)
  m := fun ρ => bindTT (a.m ρ) fun c ρ1 => if c = true then some (.ok true ρ1) else b.m ρ1
  p := a.p && b.p
  ok := fun F W ρ σ B H Q out e R f => by
    rcases bindTT_some e with ⟨c, ρ1, e1, e⟩ | ⟨x, ρ1, e1, rfl⟩
    · refine a.ok F W ρ σ B H _ _ e1 R fun B1 H1 x1 p1 R1 => ?_
      cases c with
      | false =>
        rw [if_neg (by decide)] at e ⊢
        refine b.ok F W ρ1 σ B1 H1 _ _ e R1 ?_
        cases out with
        | ok d ρ2 => exact fun B2 H2 x2 p2 R2 => f B2 H2 (x1.trans x2) (fun z => by
            obtain ⟨c1, c2⟩ := Bool.and_eq_true_iff.mp z
            exact ⟨(p1 c1).1.trans (p2 c2).1, (p2 c2).2.trans (p1 c1).2⟩) R2
        | ex x ρ2 => exact fun cls d B2 H2 x2 R2 xr => f cls d B2 H2 (x1.trans x2) R2 xr
      | true =>
        rw [if_pos rfl] at e ⊢
        cases e
        exact f B1 H1 x1 (fun z => p1 (Bool.and_eq_true_iff.mp z).1) R1
    · exact a.ok F W ρ σ B H _ _ e1 R fun cls d B1 H1 x1 R1 xr => f cls d B1 H1 x1 R1 xr
def mNot (a : MT K) : MT K where
  t := fun W => tNot (a.t W)
  m := fun ρ => bindTT (a.m ρ) fun c ρ1 => some (.ok (!c) ρ1)
  p := a.p
  ok := fun F W ρ σ B H Q out e R f => by
    rcases bindTT_some e with ⟨c, ρ1, e1, e⟩ | ⟨x, ρ1, e1, rfl⟩
    · cases e
      exact a.ok F W ρ σ B H _ _ e1 R fun B1 H1 x1 p1 R1 => f B1 H1 x1 p1 R1
    · exact a.ok F W ρ σ B H _ _ e1 R fun cls d B1 H1 x1 R1 xr => f cls d B1 H1 x1 R1 xr
def mAndV (a b : ME K) : ME K where
  t := fun W => tAndV (a.t W) (b.t W)
  m := fun ρ => bindE (a.m ρ) fun u ρ1 => match u with
    | .bl true => bindE (b.m ρ1) fun v ρ2 => match v with
      | .bl c => some (.ok (.bl c) ρ2)
      | _ => none
    | .bl false => some (.ok (.bl false) ρ1)
    | _ => none
  p := a.p && b.p
  k := true
  ok := fun F W ρ σ B H Q out e R f => by
    rcases bindE_some e with ⟨u, ρ1, e1, e⟩ | ⟨x, ρ1, e1, rfl⟩
    · refine a.ok F W ρ σ B H _ _ e1 R fun v1 B1 H1 x1 p1 R1 r1 => ?_
      have r2 := rep_up R1 r1
      split at e
      · refine ⟨true, r2, ?_⟩
        rw [if_pos rfl]
        rcases bindE_some e with ⟨w, ρ2, e2, e⟩ | ⟨x, ρ2, e2, rfl⟩
        · refine b.ok F W ρ1 σ B1 H1 _ _ e2 R1 fun v2 B2 H2 x2 p2 R2 q2 => ?_
          split at e
          · cases e
            exact f v2 B2 H2 (x1.trans x2) (fun z => by
              obtain ⟨c1, c2⟩ := Bool.and_eq_true_iff.mp z
              exact ⟨(p1 c1).1.trans (p2 c2).1, (p2 c2).2.trans (p1 c1).2⟩) R2 (show Rep K B2 _ v2 from by
              have z : v2 = _ := rep_up R2 q2
              exact z)
          · cases e
        · exact b.ok F W ρ1 σ B1 H1 _ _ e2 R1 fun cls d B2 H2 x2 R2 xr => f cls d B2 H2 (x1.trans x2) R2 xr
      · cases e
        refine ⟨false, r2, ?_⟩
        rw [if_neg (by decide)]
        exact f (.bl false) B1 H1 x1 (fun z => p1 (Bool.and_eq_true_iff.mp z).1) R1 rfl
      · cases e
    · exact a.ok F W ρ σ B H _ _ e1 R fun cls d B1 H1 x1 R1 xr => f cls d B1 H1 x1 R1 xr
def mNotV (a : ME K) : ME K where
  t := fun W => tNotV (a.t W)
  m := fun ρ => bindE (a.m ρ) fun u ρ1 => match u with
    | .bl c => some (.ok (.bl (!c)) ρ1)
    | _ => none
  p := a.p
  k := true
  ok := fun F W ρ σ B H Q out e R f => by
    rcases bindE_some e with ⟨u, ρ1, e1, e⟩ | ⟨x, ρ1, e1, rfl⟩
    · refine a.ok F W ρ σ B H _ _ e1 R fun v1 B1 H1 x1 p1 R1 r1 => ?_
      have r2 := rep_up R1 r1
      split at e
      · rename_i c
        cases e
        exact ⟨c, r2, f (.bl (!c)) B1 H1 x1 p1 R1 rfl⟩
      · cases e
    · exact a.ok F W ρ σ B H _ _ e1 R fun cls d B1 H1 x1 R1 xr => f cls d B1 H1 x1 R1 xr
def mIf (c : MT K) (a b : ME K) : ME K where
  t := fun W => tIf (c.t W) (a.t W) (b.t W)
  m := fun ρ => bindTE (c.m ρ) fun x ρ1 => if x = true then a.m ρ1 else b.m ρ1
  p := c.p && (a.p && b.p)
  k := a.k && b.k
  ok := fun F W ρ σ B H Q out e R f => by
    rcases bindTE_some e with ⟨x, ρ1, e1, e⟩ | ⟨x, ρ1, e1, rfl⟩
    · refine c.ok F W ρ σ B H _ _ e1 R fun B1 H1 x1 p1 R1 => ?_
      cases x with
      | true =>
        rw [if_pos rfl] at e ⊢
        refine a.ok F W ρ1 σ B1 H1 _ _ e R1 ?_
        cases out with
        | ok d ρ2 => exact fun v2 B2 H2 x2 p2 R2 r2 => f v2 B2 H2 (x1.trans x2) (fun z => by
            obtain ⟨c1, c2⟩ := Bool.and_eq_true_iff.mp z
            obtain ⟨c2, c3⟩ := Bool.and_eq_true_iff.mp c2
            exact ⟨(p1 c1).1.trans (p2 c2).1, (p2 c2).2.trans (p1 c1).2⟩) R2 (by
            cases ck : (a.k && b.k) with
            | true => rw [(Bool.and_eq_true_iff.mp ck).1] at r2; exact r2
            | false => exact rep_up R2 r2)
        | ex x ρ2 => exact fun cls d B2 H2 x2 R2 xr => f cls d B2 H2 (x1.trans x2) R2 xr
      | false =>
        rw [if_neg (by decide)] at e ⊢
        refine b.ok F W ρ1 σ B1 H1 _ _ e R1 ?_
        cases out with
        | ok d ρ2 => exact fun v2 B2 H2 x2 p2 R2 r2 => f v2 B2 H2 (x1.trans x2) (fun z => by
            obtain ⟨c1, c2⟩ := Bool.and_eq_true_iff.mp z
            obtain ⟨c2, c3⟩ := Bool.and_eq_true_iff.mp c2
            exact ⟨(p1 c1).1.trans (p2 c3).1, (p2 c3).2.trans (p1 c1).2⟩) R2 (by
            cases ck : (a.k && b.k) with
            | true => rw [(Bool.and_eq_true_iff.mp ck).2] at r2; exact r2
            | false => exact rep_up R2 r2)
        | ex x ρ2 => exact fun cls d B2 H2 x2 R2 xr => f cls d B2 H2 (x1.trans x2) R2 xr
    · exact c.ok F W ρ σ B H _ _ e1 R fun cls d B1 H1 x1 R1 xr => f cls d B1 H1 x1 R1 xr
def kills (ρ : Env) : List Nat → Env
  | [] => ρ
  | i :: is => (kills ρ is).set i .non
structure MG (K : PySem.W.Frag) where
  t : TG
  m : U → Env → Option Env
  is : List Nat
  ok : ∀ (F : Fc) (ρ ρ' : Env) (σ : St) (B H : Hp) (u : U) (v : V) (Q : St → Hp → Prop), m u ρ = some ρ' → Rel K F ρ σ B H → Rep K B u v →
    (∀ σ', Rel K F ρ' σ' B H → σ'.length = σ.length → (∀ j, j ∉ is → σ'[j]? = σ[j]?) → Q σ' H) → t v σ H Q
structure MGs (K : PySem.W.Frag) where
  t : TGs
  m : List U → Env → Option Env
  is : List Nat
  ok : ∀ (F : Fc) (ρ ρ' : Env) (σ : St) (B H : Hp) (us : List U) (vs : List V) (Q : St → Hp → Prop), m us ρ = some ρ' → Rel K F ρ σ B H → RepL K B us vs →
    (∀ σ', Rel K F ρ' σ' B H → σ'.length = σ.length → (∀ j, j ∉ is → σ'[j]? = σ[j]?) → Q σ' H) → t vs σ H Q
def mgName (i : Nat) : MG K where
  t := gName i
  m := fun u ρ => some (ρ.set i (.val u))
  is := [i]
  ok := fun F ρ ρ' σ B H u v Q e R r f => by
    cases e
    refine f _ (R.setV r) (by simp) fun j hj => ?_
    rw [List.getElem?_set_ne (by intro c; subst c; simp at hj)]
def mgNil : MGs K where
  t := gNil
  m := fun us ρ => match us with
    | [] => some ρ
    | _ => none
  is := []
  ok := fun F ρ ρ' σ B H us vs Q e R r f => by
    split at e
    · cases e; cases r; exact ⟨rfl, f σ R rfl fun _ _ => rfl⟩
    · cases e
def mgCons (g : MG K) (gs : MGs K) : MGs K where
  t := gCons g.t gs.t
  m := fun us ρ => match us with
    | u :: us => (g.m u ρ).bind fun ρ1 => gs.m us ρ1
    | [] => none
  is := g.is ++ gs.is
  ok := fun F ρ ρ' σ B H us vs Q e R r f => by
    split at e
    · rename_i u us
      obtain ⟨ρ1, e1, e2⟩ := Option.bind_eq_some_iff.mp e
      obtain ⟨v, vr, rfl, r1, r2⟩ := r
      refine ⟨v, vr, rfl, g.ok F ρ ρ1 σ B H u v _ e1 R r1 fun σ1 R1 l1 h1 => ?_⟩
      refine gs.ok F ρ1 ρ' σ1 B H us vr _ e2 R1 r2 fun σ2 R2 l2 h2 => f σ2 R2 (l2.trans l1) fun j hj => ?_
      rw [List.mem_append] at hj
      rw [h2 j (fun z => hj (.inr z)), h1 j (fun z => hj (.inl z))]
    · cases e
def mgTup (n : Nat) (gs : MGs K) : MG K where
  t := gTup K n gs.t
  m := fun u ρ => match u with
    | .tup us => if us.length = n then gs.m us ρ else none
    | _ => none
  is := gs.is
  ok := fun F ρ ρ' σ B H u v Q e R r f => by
    split at e
    · rename_i us
      split at e
      · rename_i hl
        obtain ⟨a, vs, rfl, h1, h2⟩ := r
        exact ⟨a, vs, rfl, Ex.t R.ex h1, by rw [h2.length, hl], gs.ok F ρ ρ' σ B H us vs Q e R h2 f⟩
      · cases e
    · cases e
inductive RV where
  | val (u : U)
  | cel (us : List U)
  | dcl (kvs : List (Key × U))
inductive SO where
  | nx (ρ : Env) | bk (ρ : Env) | ct (ρ : Env) | rt (r : RV) (ρ : Env) | ex (e : Exn) (ρ : Env)
def FinR (K : PySem.W.Frag) (F : Fc) (D : Ends) (B : Hp) : SO → Prop
  | .rt (.val u) ρ' => ∀ v σ' B' H', Ex B B' → Rel K F ρ' σ' B' H' → Rep K B' u v → D.rt v H'
  | .rt (.cel us) ρ' => ∀ q ws σ' B' H', Ex B B' → Rel K F ρ' σ' B' H' → H' q = some (.lst ws) → B' q = none → F.H0 q = none → RepL K B' us ws → D.rt (.ref q) H'
  | .rt (.dcl kvs) ρ' => ∀ q ws σ' B' H', Ex B B' → Rel K F ρ' σ' B' H' → H' q = some (.dK ws) → B' q = none → F.H0 q = none → RepD K B' kvs ws → D.rt (.ref q) H'
  | _ => True
def FinS (K : PySem.W.Frag) (F : Fc) (W : WX) (D : Ends) (B : Hp) : SO → Prop
  | .nx ρ' => ∀ σ' B' H', Ex B B' → Rel K F ρ' σ' B' H' → D.nx σ' H'
  | .bk ρ' => ∀ σ' B' H', Ex B B' → Rel K F ρ' σ' B' H' → D.bk σ' H'
  | .ct ρ' => ∀ σ' B' H', Ex B B' → Rel K F ρ' σ' B' H' → D.ct σ' H'
  | .ex e ρ' => ∀ cls d σ' B' H', Ex B B' → Rel K F ρ' σ' B' H' → XRel K F e cls d H' → W cls d σ' H'
  | o => FinR K F D B o
theorem FinR.mono {F : Fc} {D D' : Ends} {B B1 : Hp} {o : SO} (x : Ex B B1) (hd : D'.rt = D.rt) (f : FinR K F D B o) : FinR K F D' B1 o := by
  cases o with
  | rt r ρ =>
    cases r with
    | val u => exact fun v σ' B' H' x1 R r => by rw [hd]; exact f v σ' B' H' (x.trans x1) R r
    | cel us => exact fun q ws σ' B' H' x1 R h1 h2 h3 r => by rw [hd]; exact f q ws σ' B' H' (x.trans x1) R h1 h2 h3 r
    | dcl us => exact fun q ws σ' B' H' x1 R h1 h2 h3 r => by rw [hd]; exact f q ws σ' B' H' (x.trans x1) R h1 h2 h3 r
  | _ => trivial
theorem FinS.mono {F : Fc} {W : WX} {D : Ends} {B B1 : Hp} {o : SO} (x : Ex B B1) (f : FinS K F W D B o) : FinS K F W D B1 o := by
  cases o with
  | nx ρ => exact fun σ' B' H' x1 R => f σ' B' H' (x.trans x1) R
  | bk ρ => exact fun σ' B' H' x1 R => f σ' B' H' (x.trans x1) R
  | ct ρ => exact fun σ' B' H' x1 R => f σ' B' H' (x.trans x1) R
  | ex e ρ => exact fun cls d σ' B' H' x1 R => f cls d σ' B' H' (x.trans x1) R
  | rt r ρ => exact FinR.mono (o := .rt r ρ) x rfl f
structure MS (K : PySem.W.Frag) where
  t : WX → TS
  m : Env → Option SO
  ok : ∀ (F : Fc) (W : WX) (ρ : Env) (σ : St) (B H : Hp) (D : Ends) (o : SO), m ρ = some o → Rel K F ρ σ B H → FinS K F W D B o → t W D σ H
def bindES (a : Option EO) (f : U → Env → Option SO) : Option SO :=
  match a with
  | none => none
  | some (.ex e ρ) => some (.ex e ρ)
  | some (.ok u ρ) => f u ρ
theorem bindES_some {a : Option EO} {f : U → Env → Option SO} {o : SO} (h : bindES a f = some o) : (∃ u ρ', a = some (.ok u ρ') ∧ f u ρ' = some o) ∨ ∃ e ρ', a = some (.ex e ρ') ∧ o = .ex e ρ' := by
  cases a with
  | none => cases h
  | some x =>
    cases x with
    | ok u ρ => exact .inl ⟨u, ρ, rfl, h⟩
    | ex e ρ => exact .inr ⟨e, ρ, rfl, (Option.some.inj h).symm⟩
def bindAS (a : Option AO) (f : List U → Env → Option SO) : Option SO :=
  match a with
  | none => none
  | some (.ex e ρ) => some (.ex e ρ)
  | some (.ok u ρ) => f u ρ
theorem bindAS_some {a : Option AO} {f : List U → Env → Option SO} {o : SO} (h : bindAS a f = some o) : (∃ u ρ', a = some (.ok u ρ') ∧ f u ρ' = some o) ∨ ∃ e ρ', a = some (.ex e ρ') ∧ o = .ex e ρ' := by
  cases a with
  | none => cases h
  | some x =>
    cases x with
    | ok u ρ => exact .inl ⟨u, ρ, rfl, h⟩
    | ex e ρ => exact .inr ⟨e, ρ, rfl, (Option.some.inj h).symm⟩
def bindTS (a : Option TOu) (f : Bool → Env → Option SO) : Option SO :=
  match a with
  | none => none
  | some (.ex e ρ) => some (.ex e ρ)
  | some (.ok u ρ) => f u ρ
theorem bindTS_some {a : Option TOu} {f : Bool → Env → Option SO} {o : SO} (h : bindTS a f = some o) : (∃ u ρ', a = some (.ok u ρ') ∧ f u ρ' = some o) ∨ ∃ e ρ', a = some (.ex e ρ') ∧ o = .ex e ρ' := by
  cases a with
  | none => cases h
  | some x =>
    cases x with
    | ok u ρ => exact .inl ⟨u, ρ, rfl, h⟩
    | ex e ρ => exact .inr ⟨e, ρ, rfl, (Option.some.inj h).symm⟩
def msNil : MS K where
  t := fun _ => tNext
  m := fun ρ => some (.nx ρ)
  ok := fun F W ρ σ B H D o e R f => by cases e; exact f σ B H Ex.refl R
def thenS (a : Option SO) (f : Env → Option SO) : Option SO :=
  match a with
  | some (.nx ρ) => f ρ
  | o => o
def msSeq (a b : MS K) : MS K where
  t := fun W => tSeq (a.t W) (b.t W)
  m := fun ρ => thenS (a.m ρ) b.m
  ok := fun F W ρ σ B H D o e R f => by
    cases ea : a.m ρ with
    | none => rw [ea] at e; cases e
    | some x =>
      rw [ea] at e
      refine a.ok F W ρ σ B H _ x ea R ?_
      cases x with
      | nx ρ1 => exact fun σ1 B1 H1 x1 R1 => b.ok F W ρ1 σ1 B1 H1 D o e R1 (f.mono x1)
      | bk ρ1 => cases e; exact f
      | ct ρ1 => cases e; exact f
      | rt r ρ1 => cases e; exact FinR.mono (o := .rt r ρ1) Ex.refl rfl f
      | ex r ρ1 => cases e; exact f
def msIf (c : MT K) (a b : MS K) : MS K where
  t := fun W => tIfS (c.t W) (a.t W) (b.t W)
  m := fun ρ => bindTS (c.m ρ) fun x ρ1 => if x = true then a.m ρ1 else b.m ρ1
  ok := fun F W ρ σ B H D o e R f => by
    rcases bindTS_some e with ⟨x, ρ1, e1, e⟩ | ⟨x, ρ1, e1, rfl⟩
    · refine c.ok F W ρ σ B H _ _ e1 R fun B1 H1 x1 p1 R1 => ?_
      cases x with
      | true =>
        rw [if_pos rfl] at e ⊢
        exact a.ok F W ρ1 σ B1 H1 D o e R1 (f.mono x1)
      | false =>
        rw [if_neg (by decide)] at e ⊢
        exact b.ok F W ρ1 σ B1 H1 D o e R1 (f.mono x1)
    · exact c.ok F W ρ σ B H _ _ e1 R fun cls d B1 H1 x1 R1 xr => f cls d σ B1 H1 x1 R1 xr
def msAsg (e : ME K) (g : MG K) (h : e.k = true := by exact id rfl) : MS K where
  t := fun W => tAsg (e.t W) g.t
  m := fun ρ => bindES (e.m ρ) fun u ρ1 => (g.m u ρ1).map .nx
  ok := fun F W ρ σ B H D o q R f => by
    rcases bindES_some q with ⟨u, ρ1, e1, q⟩ | ⟨x, ρ1, e1, rfl⟩
    · refine e.ok F W ρ σ B H _ _ e1 R fun v1 B1 H1 x1 p1 R1 r1 => ?_
      obtain ⟨ρ2, e2, rfl⟩ := Option.map_eq_some_iff.mp q
      rw [h] at r1
      exact g.ok F ρ1 ρ2 σ B1 H1 u v1 _ e2 R1 r1 fun σ' R2 _ _ => f σ' B1 H1 x1 R2
    · exact e.ok F W ρ σ B H _ _ e1 R fun cls d B1 H1 x1 R1 xr => f cls d σ B1 H1 x1 R1 xr
def msAsgF (e : MF K) (i : Nat) : MS K where
  t := fun W => tAsg (e.t W) (gName i)
  m := fun ρ => bindAS (e.m ρ) fun us ρ1 => some (.nx (ρ1.set i (.cel true us)))
  ok := fun F W ρ σ B H D o q R f => by
    rcases bindAS_some q with ⟨us, ρ1, e1, q⟩ | ⟨x, ρ1, e1, rfl⟩
    · cases q
      exact e.ok F W ρ σ B H _ _ e1 R fun q ws B1 H1 x1 p1 R1 h1 h2 h3 h4 h5 r1 => f _ B1 H1 x1 (R1.setC h1 h2 r1 h3 h4 h5)
    · exact e.ok F W ρ σ B H _ _ e1 R fun cls d B1 H1 x1 R1 xr => f cls d σ B1 H1 x1 R1 xr
def msDrop (e : ME K) : MS K where
  t := fun W => tDrop (e.t W)
  m := fun ρ => bindES (e.m ρ) fun _ ρ1 => some (.nx ρ1)
  ok := fun F W ρ σ B H D o q R f => by
    rcases bindES_some q with ⟨u, ρ1, e1, q⟩ | ⟨x, ρ1, e1, rfl⟩
    · cases q
      exact e.ok F W ρ σ B H _ _ e1 R fun v1 B1 H1 x1 p1 R1 r1 => f σ B1 H1 x1 R1
    · exact e.ok F W ρ σ B H _ _ e1 R fun cls d B1 H1 x1 R1 xr => f cls d σ B1 H1 x1 R1 xr
def msRet (e : ME K) (h : e.k = true := by exact id rfl) : MS K where
  t := fun W => tRet (e.t W)
  m := fun ρ => bindES (e.m ρ) fun u ρ1 => some (.rt (.val u) ρ1)
  ok := fun F W ρ σ B H D o q R f => by
    rcases bindES_some q with ⟨u, ρ1, e1, q⟩ | ⟨x, ρ1, e1, rfl⟩
    · cases q
      refine e.ok F W ρ σ B H _ _ e1 R fun v1 B1 H1 x1 p1 R1 r1 => ?_
      rw [h] at r1
      exact f v1 σ B1 H1 x1 R1 r1
    · exact e.ok F W ρ σ B H _ _ e1 R fun cls d B1 H1 x1 R1 xr => f cls d σ B1 H1 x1 R1 xr
def msRetF (e : MF K) : MS K where
  t := fun W => tRet (e.t W)
  m := fun ρ => bindAS (e.m ρ) fun us ρ1 => some (.rt (.cel us) ρ1)
  ok := fun F W ρ σ B H D o q R f => by
    rcases bindAS_some q with ⟨us, ρ1, e1, q⟩ | ⟨x, ρ1, e1, rfl⟩
    · cases q
      exact e.ok F W ρ σ B H _ _ e1 R fun q ws B1 H1 x1 p1 R1 h1 h2 h3 h4 h5 r1 => f q ws σ B1 H1 x1 R1 h1 h2 h3 r1
    · exact e.ok F W ρ σ B H _ _ e1 R fun cls d B1 H1 x1 R1 xr => f cls d σ B1 H1 x1 R1 xr
def msRetC (i : Nat) : MS K where
  t := fun _ => tRet (tVar i)
  m := fun ρ => match ρ[i]? with
    | some (.cel true us) => some (.rt (.cel us) (ρ.set i .non))
    | _ => none
  ok := fun F W ρ σ B H D o q R f => by
    split at q
    · rename_i us hu
      cases q
      obtain ⟨p, ws, hv, h1, h2, h3, h4⟩ := R.sl i _ hu
      exact ⟨_, getD_some hv, f p ws σ B H Ex.refl R.kill h1 h2 h4 h3⟩
    · cases q
def msRaise (c : Str) : MS K where
  t := fun W => fun _ σ H => W (.ref (He.ga K c)) none σ H
  m := fun ρ => some (.ex ⟨c, none⟩ ρ)
  ok := fun F W ρ σ B H D o q R f => by cases q; exact f _ none σ B H Ex.refl R ⟨⟨rfl, rfl⟩, fun _ h => nomatch h⟩
def ItOk (K : PySem.W.Frag) (B : Hp) (us : List U) (J : It) : Prop :=
  ∀ (i : Nat) (B1 H1 : Hp), Ex B B1 → Ex B1 H1 → (us.length ≤ i → J.stop i H1) ∧ ∀ u, us[i]? = some u → J.go i H1 ∧ ∀ x H2, J.yld i H1 x H2 → ∃ B2, Go [] B1 H1 B2 H2 ∧ Rep K B2 u x
def FinI (K : PySem.W.Frag) (F : Fc) (W : WX) (ρ : Env) (σ : St) (B H : Hp) (R : It → Hp → Prop) : AO → Prop
  | .ok us ρ' => ∀ J B' H', Ex B B' → Rel K F ρ' σ B' H' → ItOk K B' us J → R J H'
  | .ex e ρ' => ∀ cls d B' H', Ex B B' → Rel K F ρ' σ B' H' → XRel K F e cls d H' → W cls d σ H'
structure MI (K : PySem.W.Frag) where
  t : WX → TI
  m : Env → Option AO
  ok : ∀ (F : Fc) (W : WX) (ρ : Env) (σ : St) (B H : Hp) (R : It → Hp → Prop) (o : AO), m ρ = some o → Rel K F ρ σ B H → FinI K F W ρ σ B H R o → t W σ H R
def loopM (g : U → Env → Option Env) (b : Env → Option SO) (kl : List Nat) : List U → Env → Option SO
  | [], ρ => some (.nx ρ)
  | u :: us, ρ => match g u ρ with
    | none => none
    | some ρ1 => match b ρ1 with
      | none => none
      | some (.nx ρ2) => loopM g b kl us (kills ρ2 kl)
      | some (.ct ρ2) => loopM g b kl us (kills ρ2 kl)
      | some (.bk ρ2) => some (.nx (kills ρ2 kl))
      | some (.rt r ρ2) => some (.rt r ρ2)
      | some (.ex e ρ2) => some (.ex e ρ2)
theorem Rel.killAll {F : Fc} {ρ : Env} {σ : St} {B H : Hp} (R : Rel K F ρ σ B H) : ∀ is : List Nat, Rel K F (kills ρ is) σ B H
  | [] => R
  | _ :: is => (Rel.killAll R is).kill
def msFor (it : MI K) (g : MG K) (b : MS K) (kl : List Nat) : MS K where
  t := fun W => tFor (it.t W) g.t (b.t W)
  m := fun ρ => bindAS (it.m ρ) fun us ρ1 => loopM g.m b.m kl us ρ1
  ok := fun F W ρ σ B H D o q R f => by
    rcases bindAS_some q with ⟨us, ρ1, e1, q⟩ | ⟨x, ρ1, e1, rfl⟩
    · refine it.ok F W ρ σ B H _ _ e1 R fun J B1 H1 x1 R1 ji => ?_
      refine ⟨fun i m σ' H' => m = us.length - i ∧ i ≤ us.length ∧ ∃ ρ' B', Ex B1 B' ∧ Rel K F ρ' σ' B' H' ∧ loopM g.m b.m kl (us.drop i) ρ' = some o, ⟨us.length, rfl, Nat.zero_le _, ρ1, B1, Ex.refl, R1, q⟩, ?_⟩
      rintro i m σ' H' ⟨rfl, hi, ρ', B', xb, R', e'⟩
      obtain ⟨j1, j2⟩ := ji i B' H' xb R'.ex
      by_cases hlt : i < us.length
      · obtain ⟨jg, jy⟩ := j2 us[i] (List.getElem?_eq_getElem hlt)
        refine .inr ⟨jg, fun σ2 H2 => ∃ ρ2 B2, Ex B1 B2 ∧ Rel K F ρ2 σ2 B2 H2 ∧ loopM g.m b.m kl (us.drop (i + 1)) ρ2 = some o, fun σ2 H2 h => ⟨us.length - (i + 1), by omega, rfl, hlt, h⟩, fun x H2 y => ?_⟩
        obtain ⟨B2, gg, rx⟩ := jy x H2 y
        rw [List.drop_eq_getElem_cons hlt] at e'
        unfold loopM at e'
        split at e'
        · cases e'
        · rename_i ρ3 eg
          refine g.ok F ρ' ρ3 σ' B2 H2 _ x _ eg (R'.grow gg) rx fun σ3 R3 _ _ => ?_
          have xb2 : Ex B1 B2 := xb.trans gg.bb
          have xB : Ex B B2 := x1.trans xb2
          split at e'
          · cases e'
          · rename_i ρ4 eb
            exact b.ok F W ρ3 σ3 B2 H2 _ _ eb R3 fun σ4 B4 H4 x4 R4 => ⟨_, B4, xb2.trans x4, R4.killAll kl, e'⟩
          · rename_i ρ4 eb
            exact b.ok F W ρ3 σ3 B2 H2 _ _ eb R3 fun σ4 B4 H4 x4 R4 => ⟨_, B4, xb2.trans x4, R4.killAll kl, e'⟩
          · rename_i ρ4 eb
            cases e'
            exact b.ok F W ρ3 σ3 B2 H2 _ _ eb R3 fun σ4 B4 H4 x4 R4 => f σ4 B4 H4 (xB.trans x4) (R4.killAll kl)
          · rename_i r ρ4 eb
            cases e'
            exact b.ok F W ρ3 σ3 B2 H2 _ _ eb R3 (FinR.mono (o := .rt r ρ4) xB rfl f)
          · rename_i r ρ4 eb
            cases e'
            exact b.ok F W ρ3 σ3 B2 H2 _ _ eb R3 fun cls d σ4 B4 H4 x4 R4 xr => f cls d σ4 B4 H4 (xB.trans x4) R4 xr
      · have ei : i = us.length := by omega
        subst ei
        rw [List.drop_length] at e'
        cases e'
        exact .inl ⟨j1 (Nat.le_refl _), f σ' B' H' (x1.trans xb) R'⟩
    · exact it.ok F W ρ σ B H _ _ e1 R fun cls d B1 H1 x1 R1 xr => f cls d σ B1 H1 x1 R1 xr
end Sg
set_option Elab.async false
set_option linter.all false
set_option maxRecDepth 100000
set_option maxHeartbeats 4000000
namespace Sg
open PySem L2
variable {K : PySem.W.Frag}
def Fc.push (F : Fc) (D : Addr) (o : HO) : Fc := { F with X := (D, o) :: F.X }
theorem XRel.pop {F : Fc} {D : Addr} {o : HO} {e : Exn} {cls : Value} {d : Option Addr} {H' : Hp} (x : XRel K (F.push D o) e cls d H') : XRel K F e cls d H' := XRel.sub (F := F.push D o) rfl (fun _ h => List.mem_cons_of_mem _ h) x
theorem Rel.addX {F : Fc} {ρ : Env} {σ : St} {B H : Hp} {D : Addr} {o : HO} (R : Rel K F ρ σ B H) (h : H D = none) : Rel K (F.push D o) ρ σ B (upd H D o) := by
  have g := Go.newC (o := o) R.ex h
  have R2 := R.grow g
  refine ⟨R2.len, R2.ex, R2.sl, R2.ds, R2.bb, R2.hh, R2.th, R2.nw, fun a u e => ?_, fun a u e j s es => ?_, ?_, ?_⟩
  · rcases List.mem_cons.mp e with e | e
    · cases e; exact ⟨upd_same, R.ex.none h, R.fresh0 h⟩
    · exact R2.xx a u e
  · rcases List.mem_cons.mp e with e | e
    · cases e; rw [R.ow_eq g es]; exact R.notC h j s es
    · exact R2.xs a u e j s es
  · show ((D, o) :: F.X |>.map (·.1)).Nodup
    rw [List.map_cons, List.nodup_cons]
    refine ⟨fun hm => ?_, R.xd⟩
    obtain ⟨⟨a, u⟩, hu, e⟩ := List.mem_map.mp hm
    have e' : a = D := e
    rw [e'] at hu
    rw [(R.xx D u hu).1] at h; cases h
  · exact R.ln
theorem Rel.getX {F : Fc} {ρ : Env} {σ : St} {B H : Hp} {D : Addr} {o : HO} (R : Rel K (F.push D o) ρ σ B H) : H D = some o ∧ B D = none ∧ F.H0 D = none := R.xx D o List.mem_cons_self
theorem Rel.updX {F : Fc} {ρ : Env} {σ : St} {B H : Hp} {D : Addr} {o o' : HO} (R : Rel K (F.push D o) ρ σ B H) : Rel K (F.push D o') ρ σ B (upd H D o') := by
  obtain ⟨h1, h2, h3⟩ := R.getX
  have nd : D ∉ F.X.map (·.1) := (List.nodup_cons.mp R.xd).1
  have g := Go.wr (o := o') R.ex h2
  have hs : ∀ (j : Nat) s, ρ[j]? = some s → SlotOk K (F.push D o) B (upd H D o') s (σ.getD j none) ∧ s.ow (upd H D o') (σ.getD j none) = s.ow H (σ.getD j none) := fun j s e => (R.sl j s e).move Ex.refl fun z hz => ⟨by rw [upd_ne fun y => R.xs D o List.mem_cons_self j s e (by rw [← y]; exact hz)], (R.owned e hz).2.1⟩
  refine ⟨R.len, g.bh, fun i s e => ?_, fun i j s t p ne e1 e2 q1 q2 => ?_, R.bb, fun a u n e => ?_, fun a u e => ?_, R.nw, fun a u e => ?_, fun a u e j s es hm => ?_, ?_, R.ln⟩
  · have q := (hs i s e).1
    cases s <;> exact q
  · rw [(hs i s e1).2] at q1; rw [(hs j t e2).2] at q2
    exact R.ds i j s t p ne e1 e2 q1 q2
  · have e' : F.H0 a = some u := e
    have np : a ≠ D := fun c => by rw [c, h3] at e'; cases e'
    rw [upd_ne np]; exact R.hh a u n e
  · obtain ⟨o', h'⟩ := R.th a u e
    exact g.th a o' h'
  · rcases List.mem_cons.mp e with e | e
    · cases e; exact ⟨upd_same, h2, h3⟩
    · obtain ⟨z1, z2, z3⟩ := R.xx a u (List.mem_cons_of_mem _ e)
      have np : a ≠ D := fun c => nd (List.mem_map.mpr ⟨(a, u), e, c⟩)
      exact ⟨by rw [upd_ne np]; exact z1, z2, z3⟩
  · rw [(hs j s es).2] at hm
    rcases List.mem_cons.mp e with e | e
    · cases e; exact R.xs D o List.mem_cons_self j s es hm
    · exact R.xs a u (List.mem_cons_of_mem _ e) j s es hm
  · exact R.xd
theorem Rel.popX {F : Fc} {ρ : Env} {σ : St} {B H : Hp} {D : Addr} {o : HO} (R : Rel K (F.push D o) ρ σ B H) : Rel K F ρ σ B H :=
  ⟨R.len, R.ex, R.sl, R.ds, R.bb, R.hh, R.th, R.nw, fun a u e => R.xx a u (List.mem_cons_of_mem _ e), fun a u e => R.xs a u (List.mem_cons_of_mem _ e), (List.nodup_cons.mp R.xd).2, R.ln⟩
theorem Rel.notX {F : Fc} {ρ : Env} {σ : St} {B H : Hp} {D : Addr} {o : HO} (R : Rel K (F.push D o) ρ σ B H) : ∀ u, (D, u) ∉ F.X := fun u h =>
  (List.nodup_cons.mp R.xd).1 (List.mem_map.mpr ⟨(D, u), h, rfl⟩)
theorem wipe_get (σ : St) : ∀ (vs : List Nat) (j : Nat), (wipe σ vs)[j]? = if j ∈ vs then (if j < σ.length then some none else none) else σ[j]?
  | [], j => by simp [wipe]
  | v :: vs, j => by
    unfold wipe
    rw [List.getElem?_set, wipe_length, wipe_get σ vs j]
    by_cases c : v = j
    · subst c; simp
    · rw [if_neg c]
      have : (j ∈ v :: vs) ↔ j ∈ vs := by simp [Ne.symm c]
      simp only [this]
theorem wipe_eq {σ σ' : St} {vs : List Nat} (hl : σ'.length = σ.length) (h : ∀ j, j ∉ vs → σ'[j]? = σ[j]?) : wipe σ' vs = wipe σ vs := by
  apply List.ext_getElem?
  intro j
  rw [wipe_get, wipe_get, hl]
  by_cases c : j ∈ vs
  · rw [if_pos c, if_pos c]
  · rw [if_neg c, if_neg c, h j c]
theorem wipe_wipe (σ : St) (vs : List Nat) : wipe (wipe σ vs) vs = wipe σ vs := wipe_eq (wipe_length σ vs) fun j c => by rw [wipe_get, if_neg c]
theorem Rel.wiped {F : Fc} {ρ : Env} {σ : St} {B H : Hp} (R : Rel K F ρ σ B H) : ∀ vs : List Nat, Rel K F (kills ρ vs) (wipe σ vs) B H
  | [] => R
  | _ :: vs => (Rel.wiped R vs).killσ
theorem kills_get (ρ : Env) : ∀ (vs : List Nat) (j : Nat), j ∈ vs → ∀ s, (kills ρ vs)[j]? = some s → s = .non
  | v :: vs, j, h, s, e => by
    unfold kills at e
    rw [List.getElem?_set] at e
    by_cases c : v = j
    · rw [if_pos c] at e
      split at e
      · exact (Option.some.inj e).symm
      · cases e
    · rw [if_neg c] at e
      exact kills_get ρ vs j (by rcases List.mem_cons.mp h with q | q; exact absurd q.symm c; exact q) s e
theorem Rel.unwipe {F : Fc} {ρ : Env} {σ : St} {B H : Hp} {vs : List Nat} (R : Rel K F (kills ρ vs) (L2.wipe σ vs) B H) : Rel K F (kills ρ vs) σ B H := by
  have gd : ∀ j, j ∉ vs → (L2.wipe σ vs).getD j none = σ.getD j none := fun j c => by
    rw [List.getD_eq_getElem?_getD, List.getD_eq_getElem?_getD, wipe_get, if_neg c]
  have nc : ∀ (j : Nat) s p, (kills ρ vs)[j]? = some s → p ∈ s.ow H (σ.getD j none) → j ∉ vs := fun j s p e c hm => by
    rw [kills_get ρ vs j hm s e] at c; cases c
  refine ⟨by have := R.len; rw [wipe_length] at this; exact this, R.ex, fun j s e => ?_, fun i j s t p ne e1 e2 h1 h2 => ?_, R.bb, R.hh, R.th, R.nw, R.xx, fun a o h j s e hm => ?_, R.xd, fun j s e l => ?_⟩
  rotate_left 3
  · by_cases hm : j ∈ vs
    · rw [kills_get ρ vs j hm s e] at l; cases l
    · rw [← gd j hm]; exact R.ln j s e l
  · by_cases hm : j ∈ vs
    · rw [kills_get ρ vs j hm s e]; trivial
    · rw [← gd j hm]; exact R.sl j s e
  · have n1 := nc i s p e1 h1
    have n2 := nc j t p e2 h2
    rw [← gd i n1] at h1
    rw [← gd j n2] at h2
    exact R.ds i j s t p ne e1 e2 h1 h2
  · have n1 := nc j s a e hm
    rw [← gd j n1] at hm; exact R.xs a o h j s e hm
theorem notW {F : Fc} {ρ : Env} {σ : St} {B H : Hp} {vs : List Nat} {D : Addr} {o : HO} (R : Rel K F (kills ρ vs) (L2.wipe σ vs) B H) (h : (D, o) ∈ F.X) (j : Nat) (s : Slot) (es : (kills ρ vs)[j]? = some s) : D ∉ s.ow H (σ.getD j none) := fun c => by
  have hj : j ∉ vs := fun hm => by rw [kills_get ρ vs j hm s es] at c; cases c
  have R8 := R.xs D o h j s es
  rw [List.getD_eq_getElem?_getD, wipe_get, if_neg hj, ← List.getD_eq_getElem?_getD] at R8
  exact R8 c
structure MTs (K : PySem.W.Frag) where
  t : WX → TT
  m : Env → Option TOu
  ok : ∀ (F : Fc) (W : WX) (ρ : Env) (σ : St) (B H : Hp) (Q : Bool → Hp → Prop) (o : TOu), m ρ = some o → Rel K F ρ σ B H → FinT K F W false ρ σ B H Q o → t W σ H Q
def mtYes : MTs K where
  t := fun _ => tYes
  m := fun ρ => some (.ok true ρ)
  ok := fun F W ρ σ B H Q o e R f => by cases e; exact f B H Ex.refl (fun z => nomatch z) R
def WNo : WX := fun _ _ _ _ => False
def lcM (g : U → Env → Option Env) (tt : Env → Option TOu) (e : Env → Option EO) (vs : List Nat) : List U → List U → Env → Option AO
  | [], acc, ρ => some (.ok acc ρ)
  | u :: us, acc, ρ => match g u ρ with
    | none => none
    | some ρ1 => match tt ρ1 with
      | some (.ok false ρ2) => lcM g tt e vs us acc (kills ρ2 vs)
      | some (.ok true ρ2) => match e ρ2 with
        | some (.ok w ρ3) => if acc.length < 16777216 then lcM g tt e vs us (acc ++ [w]) (kills ρ3 vs) else none
        | _ => none
      | _ => none
def mLc (it : MI K) (g : MG K) (tt : MTs K) (e : ME K) (vs : List Nat) (hg : (g.is.all fun i => vs.contains i) = true := by exact id rfl) (hk : e.k = true := by exact id rfl) : MF K where
  t := fun W => tLc (it.t W) g.t (tt.t WNo) (e.t WNo) vs
  m := fun ρ => match it.m ρ with
    | some (.ok us ρ1) => lcM g.m tt.m e.m vs us [] (kills ρ1 vs)
    | o => o
  p := false
  ok := fun F W ρ σ B H Q out q R f => by
    have sub : ∀ j, j ∉ vs → j ∉ g.is := fun j c hm => c (by
      have := List.all_eq_true.mp hg j hm
      simpa using this)
    split at q
    · rename_i us ρ1 e1
      refine it.ok F W ρ σ B H _ _ e1 R fun J B1 H1 x1 R1 ji => ?_
      intro D hD
      refine ⟨fun i m H' => m = us.length - i ∧ i ≤ us.length ∧ ∃ ρ' B' acc ws, Ex B1 B' ∧ Rel K (F.push D (.lst ws)) (kills ρ' vs) (wipe σ vs) B' H' ∧ RepL K B' acc ws ∧ lcM g.m tt.m e.m vs (us.drop i) acc (kills ρ' vs) = some out,
        ⟨us.length, rfl, Nat.zero_le _, ρ1, B1, [], [], Ex.refl, (R1.wiped vs).addX hD, rfl, q⟩, ?_⟩
      rintro i m H' ⟨rfl, hi, ρ', B', acc, ws, xb, R', ra, e'⟩
      obtain ⟨j1, j2⟩ := ji i B' H' xb R'.ex
      by_cases hlt : i < us.length
      · obtain ⟨jg, jy⟩ := j2 us[i] (List.getElem?_eq_getElem hlt)
        refine .inr ⟨jg, fun H2 => ∃ ρ2 B2 acc2 ws2, Ex B1 B2 ∧ Rel K (F.push D (.lst ws2)) (kills ρ2 vs) (wipe σ vs) B2 H2 ∧ RepL K B2 acc2 ws2 ∧ lcM g.m tt.m e.m vs (us.drop (i + 1)) acc2 (kills ρ2 vs) = some out, fun H2 h => ⟨us.length - (i + 1), by omega, rfl, hlt, h⟩, fun x H2 y => ?_⟩
        obtain ⟨B2, gg, rx⟩ := jy x H2 y
        rw [List.drop_eq_getElem_cons hlt] at e'
        unfold lcM at e'
        split at e'
        · cases e'
        · rename_i ρ3 eg
          refine g.ok _ _ ρ3 (wipe σ vs) B2 H2 _ x _ eg (R'.grow gg) rx fun σ3 R3 hl hs => ?_
          have hw : wipe σ3 vs = wipe σ vs := by
            rw [wipe_eq (σ := wipe σ vs) hl fun j c => hs j (sub j c), wipe_wipe]
          refine ⟨hw, ?_⟩
          split at e'
          · rename_i ρ4 et
            refine tt.ok _ WNo ρ3 σ3 B2 H2 _ _ et R3 fun B4 H4 x4 _ R4 => ?_
            have R5 := R4.wiped vs
            rw [hw] at R5
            exact ⟨ρ4, B4, acc, ws, (xb.trans gg.bb).trans x4, R5, RepL.mono (gg.bb.trans x4) _ _ ra, e'⟩
          · rename_i ρ4 et
            refine tt.ok _ WNo ρ3 σ3 B2 H2 _ _ et R3 fun B4 H4 x4 _ R4 => ?_
            rw [if_pos rfl]
            split at e'
            · rename_i w ρ5 ee
              split at e'
              · rename_i hlen
                refine e.ok _ WNo ρ4 σ3 B4 H4 _ _ ee R4 fun v5 B5 H5 x5 _ R5 r5 => ?_
                rw [hk] at r5
                have xx : Ex B' B5 := (gg.bb.trans x4).trans x5
                have ra5 := RepL.mono xx _ _ ra
                refine ⟨ws, R5.getX.1, by rw [ra5.length, PySem.sizeLine_eq]; exact hlen, ρ5, B5, acc ++ [w], ws ++ [v5], xb.trans xx, ?_, RepL.append ra5 (RepL.one r5), e'⟩
                have R6 := (R5.updX (o' := .lst (ws ++ [v5]))).wiped vs
                rw [hw] at R6
                exact R6
              · cases e'
            · cases e'
          · cases e'
      · have ei : i = us.length := by omega
        subst ei
        rw [List.drop_length] at e'
        cases e'
        refine .inl ⟨j1 (Nat.le_refl _), ?_⟩
        obtain ⟨h1, h2, h3⟩ := R'.getX
        have R7 := R'.popX.unwipe
        refine f D ws B' H' (x1.trans xb) (fun z => nomatch z) R7 h1 h2 h3 (notW R' List.mem_cons_self) R'.notX ra
    · rename_i h2
      cases o : it.m ρ with
      | none => rw [o] at q; cases q
      | some x =>
        rw [o] at q; cases q
        cases out with
        | ok us ρ1 => exact absurd o (h2 us ρ1)
        | ex x ρ1 => exact it.ok F W ρ σ B H _ _ o R fun cls d B1 H1 x1 R1 xr => f cls d B1 H1 x1 R1 xr
inductive CO where
  | val (u : U) (c : Option (List U))
  | cel (us : List U) (c : Option (List U))
  | dcl (kvs : List (Key × U)) (c : Option (List U))
  | ex (e : Exn) (c : Option (List U))
def ArgsOk (K : PySem.W.Frag) (B H : Hp) : List Slot → List V → Prop
  | [], vs => vs = []
  | .val u :: r, vs => ∃ v vr, vs = v :: vr ∧ Rep K B u v ∧ ArgsOk K B H r vr
  | .cel _ us :: r, vs => ∃ p ws vr, vs = .ref p :: vr ∧ H p = some (.lst ws) ∧ B p = none ∧ RepL K B us ws ∧ ArgsOk K B H r vr
  | _ :: _, _ => False
def cellsOf : List Slot → List V → List Addr
  | .cel _ _ :: r, .ref p :: vs => p :: cellsOf r vs
  | _ :: r, _ :: vs => cellsOf r vs
  | _, _ => []
def nCel (as : List Slot) : Nat := (as.filter Slot.isC).length
def CellOk (K : PySem.W.Frag) (B H : Hp) (M : List Addr) (c : Option (List U)) : Prop :=
  ∀ p ∈ M, ∃ us ws, c = some us ∧ H p = some (.lst ws) ∧ B p = none ∧ RepL K B us ws
def FinC (K : PySem.W.Frag) (B H : Hp) (M : List Addr) (Q : VK) (E : XK) : CO → Prop
  | .val u c => ∀ v B' H', Go M B H B' H' → CellOk K B' H' M c → Rep K B' u v → Q v H'
  | .cel us c => ∀ q ws B' H', Go M B H B' H' → CellOk K B' H' M c → H' q = some (.lst ws) → B' q = none → H q = none → q ∉ M → RepL K B' us ws → Q (.ref q) H'
  | .dcl us c => ∀ q ws B' H', Go M B H B' H' → CellOk K B' H' M c → H' q = some (.dK ws) → B' q = none → H q = none → q ∉ M → RepD K B' us ws → Q (.ref q) H'
  | .ex e c => ∀ cls d B' H', Go M B H B' H' → CellOk K B' H' M c → XRelC K H e cls d H' → E cls d H'
def spM (K : PySem.W.Frag) (n : Nat) (mf : List Slot → Option CO) : Sp := fun vs H Q E => ∃ (B : Hp) (as : List Slot) (o : CO),
  Ex B H ∧ as.length = n ∧ ArgsOk K B H as vs ∧ nCel as ≤ 1 ∧ mf as = some o ∧ FinC K B H (cellsOf as vs) Q E o
theorem ArgsOk.length {B H : Hp} : ∀ {as : List Slot} {vs : List V}, ArgsOk K B H as vs → vs.length = as.length
  | [], _, h => by cases h; rfl
  | .val u :: r, _, h => by
    obtain ⟨v, vr, rfl, _, h2⟩ := h
    simp [ArgsOk.length h2]
  | .cel _ us :: r, _, h => by
    obtain ⟨p, ws, vr, rfl, _, _, _, h2⟩ := h
    simp [ArgsOk.length h2]
  | .non :: _, _, h => h.elim
  | .celD _ _ :: _, _, h => h.elim
  | .lck _ :: _, _, h => h.elim
  | .nam _ _ :: _, _, h => h.elim
  | .obj _ _ _ :: _, _, h => h.elim
  | .fld _ _ :: _, _, h => h.elim
theorem spM_len {n : Nat} {mf : List Slot → Option CO} (vs : List V) (H : Hp) (Q : VK) (E : XK) (h : spM K n mf vs H Q E) : vs.length = n := by
  obtain ⟨B, as, o, _, e, a, _⟩ := h
  rw [a.length, e]
def unown : Slot → Slot
  | .cel _ us => .cel false us
  | s => s
def cellAt : List Slot → Env → Option (Option (List U))
  | [], _ => some none
  | .cel _ _ :: _, s :: _ => match s with
    | .cel false us => some (some us)
    | _ => none
  | _ :: r, _ :: ρ => cellAt r ρ
  | _, _ => none
def mfOf (N : Nat) (body : Env → Option SO) (as : List Slot) : Option CO :=
  match body (as.map unown ++ List.replicate (N - as.length) .non) with
  | some (.nx ρ) => (cellAt as ρ).map fun c => .val .non c
  | some (.rt (.val u) ρ) => (cellAt as ρ).map fun c => .val u c
  | some (.rt (.cel us) ρ) => (cellAt as ρ).map fun c => .cel us c
  | some (.rt (.dcl us) ρ) => (cellAt as ρ).map fun c => .dcl us c
  | some (.ex e ρ) => (cellAt as ρ).map fun c => .ex e c
  | _ => none
def mfOf0 (N : Nat) (body : Env → Option SO) (as : List Slot) : Option CO :=
  match mfOf N body as with
  | some (.ex _ _) => none
  | o => o
theorem cells_mem {B H : Hp} : ∀ {as : List Slot} {vs : List V} {i : Nat} {own : Bool} {us : List U}, ArgsOk K B H as vs → as[i]? = some (.cel own us) → ∃ p ws, vs[i]? = some (.ref p) ∧ p ∈ cellsOf as vs ∧ H p = some (.lst ws) ∧ B p = none ∧ RepL K B us ws
  | .val u :: r, _, i, own, us, h, e => by
    obtain ⟨v, vr, rfl, h1, h2⟩ := h
    cases i with
    | zero => cases e
    | succ i =>
      obtain ⟨p, ws, e1, e2, e3⟩ := cells_mem h2 (by simpa using e)
      exact ⟨p, ws, by simpa using e1, by simpa [cellsOf] using e2, e3⟩
  | .cel own' us' :: r, _, i, own, us, h, e => by
    obtain ⟨p, ws, vr, rfl, h0, h1, h2, h3⟩ := h
    cases i with
    | zero => cases e; exact ⟨p, ws, rfl, by simp [cellsOf], h0, h1, h2⟩
    | succ i =>
      obtain ⟨p', ws', e1, e2, e3⟩ := cells_mem h3 (by simpa using e)
      exact ⟨p', ws', by simpa using e1, by simp [cellsOf, e2], e3⟩
  | [], _, _, _, _, _, e => by simp at e
  | .non :: _, _, _, _, _, h, _ => h.elim
  | .celD _ _ :: _, _, _, _, _, h, _ => h.elim
  | .lck _ :: _, _, _, _, _, h, _ => h.elim
  | .nam _ _ :: _, _, _, _, _, h, _ => h.elim
  | .obj _ _ _ :: _, _, _, _, _, h, _ => h.elim
  | .fld _ _ :: _, _, _, _, _, h, _ => h.elim
theorem args_val {B H : Hp} : ∀ {as : List Slot} {vs : List V} {i : Nat} {u : U}, ArgsOk K B H as vs → as[i]? = some (.val u) → ∃ v, vs[i]? = some v ∧ Rep K B u v
  | .val u :: r, _, i, w, h, e => by
    obtain ⟨v, vr, rfl, h1, h2⟩ := h
    cases i with
    | zero => cases e; exact ⟨v, rfl, h1⟩
    | succ i =>
      obtain ⟨v', e1, e2⟩ := args_val (i := i) h2 (by simpa using e)
      exact ⟨v', by simpa using e1, e2⟩
  | .cel own' us' :: r, _, i, w, h, e => by
    obtain ⟨p, ws, vr, rfl, h0, h1, h2, h3⟩ := h
    cases i with
    | zero => cases e
    | succ i =>
      obtain ⟨v', e1, e2⟩ := args_val (i := i) h3 (by simpa using e)
      exact ⟨v', by simpa using e1, e2⟩
  | [], _, _, _, _, e => by simp at e
  | .non :: _, _, _, _, h, _ => h.elim
  | .celD _ _ :: _, _, _, _, h, _ => h.elim
  | .lck _ :: _, _, _, _, h, _ => h.elim
  | .nam _ _ :: _, _, _, _, h, _ => h.elim
  | .obj _ _ _ :: _, _, _, _, h, _ => h.elim
  | .fld _ _ :: _, _, _, _, h, _ => h.elim
theorem cells_none {B H : Hp} : ∀ {as : List Slot} {vs : List V}, ArgsOk K B H as vs → ∀ p ∈ cellsOf as vs, B p = none ∧ ∃ ws, H p = some (.lst ws)
  | .val u :: r, _, h, p, hp => by
    obtain ⟨v, vr, rfl, h1, h2⟩ := h
    exact cells_none h2 p (by simpa [cellsOf] using hp)
  | .cel own' us' :: r, _, h, p, hp => by
    obtain ⟨p', ws, vr, rfl, h0, h1, h2, h3⟩ := h
    have hp' : p ∈ p' :: cellsOf r vr := hp
    rcases List.mem_cons.mp hp' with rfl | q
    · exact ⟨h1, ws, h0⟩
    · exact cells_none h3 p q
  | [], _, _, p, hp => by simp [cellsOf] at hp
  | .non :: _, _, h, _, _ => h.elim
  | .celD _ _ :: _, _, h, _, _ => h.elim
  | .lck _ :: _, _, h, _, _ => h.elim
  | .nam _ _ :: _, _, h, _, _ => h.elim
  | .obj _ _ _ :: _, _, h, _, _ => h.elim
  | .fld _ _ :: _, _, h, _, _ => h.elim
theorem nCel_one {as : List Slot} (h : nCel as ≤ 1) {i j : Nat} {s t : Slot} (hi : as[i]? = some s) (hj : as[j]? = some t) (ci : s.isC = true) (cj : t.isC = true) : i = j := by
  induction as generalizing i j with
  | nil => simp at hi
  | cons a r ih =>
    have hc : nCel (a :: r) = (if a.isC = true then 1 else 0) + nCel r := by
      unfold nCel
      rw [List.filter_cons]
      split <;> simp <;> omega
    have pos : ∀ {k : Nat} {u : Slot}, r[k]? = some u → u.isC = true → 0 < nCel r := fun {k u} hk cu => by
      unfold nCel
      exact List.length_pos_of_mem (List.mem_filter.mpr ⟨List.mem_of_getElem? hk, cu⟩)
    cases i with
    | zero =>
      cases j with
      | zero => rfl
      | succ j =>
        have e : a = s := by simpa using hi
        subst e
        have := pos (k := j) (by simpa using hj) cj
        rw [hc, if_pos ci] at h
        omega
    | succ i =>
      cases j with
      | zero =>
        have e : a = t := by simpa using hj
        subst e
        have := pos (k := i) (by simpa using hi) ci
        rw [hc, if_pos cj] at h
        omega
      | succ j =>
        have : nCel r ≤ 1 := by omega
        exact congrArg Nat.succ (ih this (by simpa using hi) (by simpa using hj))
theorem cells_one {B H : Hp} : ∀ {as : List Slot} {vs : List V}, ArgsOk K B H as vs → (cellsOf as vs).length = nCel as
  | .val u :: r, _, h => by
    obtain ⟨v, vr, rfl, h1, h2⟩ := h
    have := cells_one h2
    simpa [cellsOf, nCel, Slot.isC, List.filter_cons] using this
  | .cel own' us' :: r, _, h => by
    obtain ⟨p', ws, vr, rfl, h0, h1, h2, h3⟩ := h
    have := cells_one h3
    simp only [cellsOf, nCel, List.filter_cons, Slot.isC, if_true, List.length_cons]
    unfold nCel at this
    omega
  | [], _, h => by cases h; rfl
  | .non :: _, _, h => h.elim
  | .celD _ _ :: _, _, h => h.elim
  | .lck _ :: _, _, h => h.elim
  | .nam _ _ :: _, _, h => h.elim
  | .obj _ _ _ :: _, _, h => h.elim
  | .fld _ _ :: _, _, h => h.elim
theorem start_rel {B H : Hp} {as : List Slot} {vs : List V} {N : List Str} (x : Ex B H) (a : ArgsOk K B H as vs) (n1 : nCel as ≤ 1) (hn : as.length ≤ N.length) :
    Rel K ⟨B, H, cellsOf as vs, [], L2.start N vs, []⟩ (as.map unown ++ List.replicate (N.length - as.length) .non) (L2.start N vs) B H := by
  have hl := a.length
  have get : ∀ (i : Nat) s, (as.map unown ++ List.replicate (N.length - as.length) Slot.non)[i]? = some s → (i < as.length ∧ ∃ t, as[i]? = some t ∧ s = unown t) ∨ s = .non := fun i s e => by
    by_cases c : i < as.length
    · rw [List.getElem?_append_left (by simpa using c), List.getElem?_map] at e
      obtain ⟨t, e1, e2⟩ := Option.map_eq_some_iff.mp e
      exact .inl ⟨c, t, e1, e2.symm⟩
    · rw [List.getElem?_append_right (by simpa using c)] at e
      exact .inr (List.eq_of_mem_replicate (List.mem_of_getElem? e))
  have gv : ∀ i, i < as.length → (L2.start N vs).getD i none = vs[i]? := fun i c => by
    unfold L2.start
    rw [List.getD_eq_getElem?_getD, List.getElem?_append_left (by simpa [hl] using c), List.getElem?_map]
    have : i < vs.length := by omega
    rw [List.getElem?_eq_getElem this]
    rfl
  have cel : ∀ {s : Slot} {t : Slot}, s = unown t → s.isC = true → t.isC = true := fun {s t} e c => by
    subst e
    cases t <;> first | exact c | rfl
  refine ⟨by simp [L2.start, hl], x, fun i s e => ?_, fun i j s t p ne e1 e2 h1 h2 => ?_, Ex.refl, fun _ _ _ h => h, fun _ o h => ⟨o, h⟩, fun _ _ h _ => h, fun _ _ h => by simp at h, fun _ _ h => by simp at h, by simp, fun _ _ _ _ => rfl⟩
  · rcases get i s e with ⟨c, t, e1, rfl⟩ | rfl
    · rw [gv i c]
      cases t with
      | non => trivial
      | val u =>
        obtain ⟨v, e2, r⟩ := args_val a e1
        exact ⟨v, e2, r⟩
      | cel own us =>
        obtain ⟨p, ws, e2, hm, h1, h2, h3⟩ := cells_mem a e1
        exact ⟨p, ws, e2, h1, h2, h3, hm⟩
      | celD own us =>
        exfalso
        have bad : ∀ {as : List Slot} {vs : List V} {i : Nat}, ArgsOk K B H as vs → as[i]? = some (.celD own us) → False := by
          intro as
          induction as with
          | nil => intro vs i _ e; simp at e
          | cons w r ih =>
            intro vs i h e
            cases w with
            | non => exact h
            | val u =>
              obtain ⟨v, vr, rfl, _, h2⟩ := h
              cases i with
              | zero => cases e
              | succ i => exact ih h2 (by simpa using e)
            | cel _ _ =>
              obtain ⟨p, ws, vr, rfl, _, _, _, h2⟩ := h
              cases i with
              | zero => cases e
              | succ i => exact ih h2 (by simpa using e)
            | celD _ _ => exact h
            | lck _ => exact h
            | nam _ _ => exact h
            | obj _ _ _ => exact h
            | fld _ _ => exact h
        exact bad a e1
      | lck us =>
        exfalso
        have bad : ∀ {as : List Slot} {vs : List V} {i : Nat}, ArgsOk K B H as vs → as[i]? = some (.lck us) → False := by
          intro as
          induction as with
          | nil => intro vs i _ e; simp at e
          | cons w r ih =>
            intro vs i h e
            cases w with
            | non => exact h
            | val u =>
              obtain ⟨v, vr, rfl, _, h2⟩ := h
              cases i with
              | zero => cases e
              | succ i => exact ih h2 (by simpa using e)
            | cel _ _ =>
              obtain ⟨p, ws, vr, rfl, _, _, _, h2⟩ := h
              cases i with
              | zero => cases e
              | succ i => exact ih h2 (by simpa using e)
            | celD _ _ => exact h
            | lck _ => exact h
            | nam _ _ => exact h
            | obj _ _ _ => exact h
            | fld _ _ => exact h
        exact bad a e1
      | nam a0 us =>
        exfalso
        have bad : ∀ {as : List Slot} {vs : List V} {i : Nat}, ArgsOk K B H as vs → as[i]? = some (.nam a0 us) → False := by
          intro as
          induction as with
          | nil => intro vs i _ e; simp at e
          | cons w r ih =>
            intro vs i h e
            cases w with
            | non => exact h
            | val u =>
              obtain ⟨v, vr, rfl, _, h2⟩ := h
              cases i with
              | zero => cases e
              | succ i => exact ih h2 (by simpa using e)
            | cel _ _ =>
              obtain ⟨p, ws, vr, rfl, _, _, _, h2⟩ := h
              cases i with
              | zero => cases e
              | succ i => exact ih h2 (by simpa using e)
            | celD _ _ => exact h
            | lck _ => exact h
            | nam _ _ => exact h
            | obj _ _ _ => exact h
            | fld _ _ => exact h
        exact bad a e1
      | obj o0 c0 us =>
        exfalso
        have bad : ∀ {as : List Slot} {vs : List V} {i : Nat}, ArgsOk K B H as vs → as[i]? = some (.obj o0 c0 us) → False := by
          intro as
          induction as with
          | nil => intro vs i _ e; simp at e
          | cons w r ih =>
            intro vs i h e
            cases w with
            | non => exact h
            | val u =>
              obtain ⟨v, vr, rfl, _, h2⟩ := h
              cases i with
              | zero => cases e
              | succ i => exact ih h2 (by simpa using e)
            | cel _ _ =>
              obtain ⟨p, ws, vr, rfl, _, _, _, h2⟩ := h
              cases i with
              | zero => cases e
              | succ i => exact ih h2 (by simpa using e)
            | celD _ _ => exact h
            | lck _ => exact h
            | nam _ _ => exact h
            | obj _ _ _ => exact h
            | fld _ _ => exact h
        exact bad a e1
      | fld o0 us =>
        exfalso
        have bad : ∀ {as : List Slot} {vs : List V} {i : Nat}, ArgsOk K B H as vs → as[i]? = some (.fld o0 us) → False := by
          intro as
          induction as with
          | nil => intro vs i _ e; simp at e
          | cons w r ih =>
            intro vs i h e
            cases w with
            | non => exact h
            | val u =>
              obtain ⟨v, vr, rfl, _, h2⟩ := h
              cases i with
              | zero => cases e
              | succ i => exact ih h2 (by simpa using e)
            | cel _ _ =>
              obtain ⟨p, ws, vr, rfl, _, _, _, h2⟩ := h
              cases i with
              | zero => cases e
              | succ i => exact ih h2 (by simpa using e)
            | celD _ _ => exact h
            | lck _ => exact h
            | nam _ _ => exact h
            | obj _ _ _ => exact h
            | fld _ _ => exact h
        exact bad a e1
    · trivial
  · have c1 := ow_isC h1
    have c2 := ow_isC h2
    rcases get i s e1 with ⟨_, u, q1, z1⟩ | rfl
    · rcases get j t e2 with ⟨_, w, q2, z2⟩ | rfl
      · exact ne (nCel_one n1 q1 q2 (cel z1 c1) (cel z2 c2))
      · cases c2
    · cases c1
theorem end_cell {B H B' H' : Hp} {as : List Slot} {vs : List V} {ρ' : Env} {σ' : St} {X : List (Addr × HO)} {S : St} {O : List Addr} {c : Option (List U)} (a : ArgsOk K B H as vs) (n1 : nCel as ≤ 1) (R : Rel K ⟨B, H, cellsOf as vs, X, S, O⟩ ρ' σ' B' H') (e : cellAt as ρ' = some c) : CellOk K B' H' (cellsOf as vs) c := by
  have noD : ∀ {as : List Slot} {vs : List V}, ArgsOk K B H as vs → ∀ o u, Slot.celD o u ∉ as := by
    intro as
    induction as with
    | nil => intro vs _ o u h; simp at h
    | cons w r ih =>
      intro vs h o u hm
      cases w with
      | non => exact h
      | celD _ _ => exact h
      | lck _ => exact h
      | nam _ _ => exact h
      | obj _ _ _ => exact h
      | fld _ _ => exact h
      | val u' =>
        obtain ⟨v, vr, rfl, _, h2⟩ := h
        rcases List.mem_cons.mp hm with q | q
        · cases q
        · exact ih h2 o u q
      | cel _ _ =>
        obtain ⟨p, ws, vr, rfl, _, _, _, h2⟩ := h
        rcases List.mem_cons.mp hm with q | q
        · cases q
        · exact ih h2 o u q
  have noO : ∀ {as : List Slot} {vs : List V}, ArgsOk K B H as vs → ∀ o c u, Slot.obj o c u ∉ as := by
    intro as
    induction as with
    | nil => intro vs _ o c u h; simp at h
    | cons w r ih =>
      intro vs h o c u hm
      cases w with
      | non => exact h
      | celD _ _ => exact h
      | lck _ => exact h
      | nam _ _ => exact h
      | obj _ _ _ => exact h
      | fld _ _ => exact h
      | val u' =>
        obtain ⟨v, vr, rfl, _, h2⟩ := h
        rcases List.mem_cons.mp hm with q | q
        · cases q
        · exact ih h2 o c u q
      | cel _ _ =>
        obtain ⟨p, ws, vr, rfl, _, _, _, h2⟩ := h
        rcases List.mem_cons.mp hm with q | q
        · cases q
        · exact ih h2 o c u q
  have noF : ∀ {as : List Slot} {vs : List V}, ArgsOk K B H as vs → ∀ o u, Slot.fld o u ∉ as := by
    intro as
    induction as with
    | nil => intro vs _ o u h; simp at h
    | cons w r ih =>
      intro vs h o u hm
      cases w with
      | non => exact h
      | celD _ _ => exact h
      | lck _ => exact h
      | nam _ _ => exact h
      | obj _ _ _ => exact h
      | fld _ _ => exact h
      | val u' =>
        obtain ⟨v, vr, rfl, _, h2⟩ := h
        rcases List.mem_cons.mp hm with q | q
        · cases q
        · exact ih h2 o u q
      | cel _ _ =>
        obtain ⟨p, ws, vr, rfl, _, _, _, h2⟩ := h
        rcases List.mem_cons.mp hm with q | q
        · cases q
        · exact ih h2 o u q
  have key : ∀ {as : List Slot} {ρ : Env}, (∀ o u, Slot.celD o u ∉ as) → (∀ o c u, Slot.obj o c u ∉ as) → (∀ o u, Slot.fld o u ∉ as) → cellAt as ρ = some c → 0 < nCel as → ∃ (i : Nat) (us : List U), ρ[i]? = some (Slot.cel false us) ∧ c = some us := by
    intro as
    induction as with
    | nil => intro ρ _ _ _ _ h; simp [nCel] at h
    | cons s r ih =>
      intro ρ nd ndo ndf e h
      have ndf' : ∀ o u, Slot.fld o u ∉ r := fun o u hm => ndf o u (List.mem_cons_of_mem _ hm)
      have ndo' : ∀ o c u, Slot.obj o c u ∉ r := fun o c u hm => ndo o c u (List.mem_cons_of_mem _ hm)
      have nd' : ∀ o u, Slot.celD o u ∉ r := fun o u hm => nd o u (List.mem_cons_of_mem _ hm)
      cases ρ with
      | nil => cases s <;> cases e
      | cons t ρ =>
        cases s with
        | cel own us =>
          unfold cellAt at e
          split at e
          · rename_i us'; cases e; exact ⟨0, us', rfl, rfl⟩
          · cases e
        | non =>
          obtain ⟨i, us, e1, e2⟩ := ih (ρ := ρ) nd' ndo' ndf' e (by simpa [nCel, List.filter_cons, Slot.isC] using h)
          exact ⟨i + 1, us, by simpa using e1, e2⟩
        | val u =>
          obtain ⟨i, us, e1, e2⟩ := ih (ρ := ρ) nd' ndo' ndf' e (by simpa [nCel, List.filter_cons, Slot.isC] using h)
          exact ⟨i + 1, us, by simpa using e1, e2⟩
        | celD o u => exact absurd List.mem_cons_self (nd o u)
        | lck u =>
          obtain ⟨i, us, e1, e2⟩ := ih (ρ := ρ) nd' ndo' ndf' e (by simpa [nCel, List.filter_cons, Slot.isC] using h)
          exact ⟨i + 1, us, by simpa using e1, e2⟩
        | nam a0 u =>
          obtain ⟨i, us, e1, e2⟩ := ih (ρ := ρ) nd' ndo' ndf' e (by simpa [nCel, List.filter_cons, Slot.isC] using h)
          exact ⟨i + 1, us, by simpa using e1, e2⟩
        | obj o c u => exact absurd List.mem_cons_self (ndo o c u)
        | fld o u => exact absurd List.mem_cons_self (ndf o u)
  intro p hp
  have hl := cells_one a
  have pos : 0 < nCel as := by rw [← hl]; exact List.length_pos_of_mem hp
  obtain ⟨i, us, e1, rfl⟩ := key (noD a) (noO a) (noF a) e pos
  obtain ⟨p', ws, _, h1, h2, h3, h4⟩ := R.sl i _ e1
  have h4' : p' ∈ cellsOf as vs := h4
  have : p' = p := by
    have l1 : (cellsOf as vs).length = 1 := by omega
    match q : cellsOf as vs, l1 with
    | [x], _ =>
      rw [q] at h4' hp
      rw [List.mem_singleton.mp h4', List.mem_singleton.mp hp]
  subst this
  exact ⟨us, ws, rfl, h1, h2, h3⟩
end Sg
set_option Elab.async false
set_option linter.all false
set_option maxRecDepth 100000
set_option maxHeartbeats 4000000
namespace Sg
open PySem L2
variable {K : PySem.W.Frag}
theorem Rel.go {F : Fc} {B H B' H' : Hp} {ρ' : Env} {σ' : St} (h0 : F.B0 = B) (h1 : F.H0 = H) (R : Rel K F ρ' σ' B' H') : Go F.M B H B' H' := by
  subst h0 h1
  exact ⟨R.bb, R.ex, R.hh, R.th, R.nw⟩
theorem body_fin {n : Nat} {N : List Str} {b : MS K} {vs : List V} {H : Hp} {Q : VK} {E : XK} {B : Hp} {as : List Slot} {o : CO} (x : Ex B H) (hn : as.length ≤ N.length) (a : ArgsOk K B H as vs) (n1 : nCel as ≤ 1)
    (e : mfOf N.length b.m as = some o) (f : FinC K B H (cellsOf as vs) Q E o) : b.t (fun cls d _ H' => E cls d H') { nx := fun _ H' => Q .non H', rt := Q } (L2.start N vs) H := by
  unfold mfOf at e
  split at e
  · rename_i ρ eb
    obtain ⟨c, ec, rfl⟩ := Option.map_eq_some_iff.mp e
    exact b.ok _ _ _ _ B H _ _ eb (start_rel x a n1 hn) fun σ' B' H' _ R => f .non B' H' (R.go rfl rfl) (end_cell a n1 R ec) rfl
  · rename_i u ρ eb
    obtain ⟨c, ec, rfl⟩ := Option.map_eq_some_iff.mp e
    exact b.ok _ _ _ _ B H _ _ eb (start_rel x a n1 hn) fun v σ' B' H' _ R r => f v B' H' (R.go rfl rfl) (end_cell a n1 R ec) r
  · rename_i us ρ eb
    obtain ⟨c, ec, rfl⟩ := Option.map_eq_some_iff.mp e
    refine b.ok _ _ _ _ B H _ _ eb (start_rel x a n1 hn) fun q ws σ' B' H' _ R h1 h2 h3 r => f q ws B' H' (R.go rfl rfl) (end_cell a n1 R ec) h1 h2 h3 (fun hm => ?_) r
    obtain ⟨_, ws', hw⟩ := cells_none a q hm
    have h3' : H q = none := h3
    rw [hw] at h3'; cases h3'
  · rename_i us ρ eb
    obtain ⟨c, ec, rfl⟩ := Option.map_eq_some_iff.mp e
    refine b.ok _ _ _ _ B H _ _ eb (start_rel x a n1 hn) fun q ws σ' B' H' _ R h1 h2 h3 r => f q ws B' H' (R.go rfl rfl) (end_cell a n1 R ec) h1 h2 h3 (fun hm => ?_) r
    obtain ⟨_, ws', hw⟩ := cells_none a q hm
    have h3' : H q = none := h3
    rw [hw] at h3'; cases h3'
  · rename_i xx ρ eb
    obtain ⟨c, ec, rfl⟩ := Option.map_eq_some_iff.mp e
    exact b.ok _ _ _ _ B H _ _ eb (start_rel x a n1 hn) fun cls d σ' B' H' _ R xr => f cls d B' H' (R.go rfl rfl) (end_cell a n1 R ec) (XRel.down xr)
  · cases e
section
variable {P : Program} {w : World} {mg : Str → Option Value} {base : Heap}
theorem fn_ok0 {x qual : Str} {st : Stmt} {f : Addr} {fd : FuncData} {N ps : List Str} {k n : Nat} (F : Fun K x qual st f fd) (S : FnScope N ps (defScope st)) (b : MS K) (hn : ps.length = n) (hN : n ≤ N.length)
    (d : ∀ (cdv : Value) (A : Around) (outer : List PySem.Env) (s : Shared) (H : Hp) (E : XK), Room k (A.deeper (PyProof.Rows.envOfC qual (defScope st) s.heap.objs.size f cdv)) → ∃ t, PSs (cxOf CX0 P w K mg base N qual (defScope st) f cdv A outer s H E).nox (defBody st) t ∧ t = b.t WNo) :
    FnOk P w K mg base CX0 (k + 1) f fd ps (spM K n (mfOf0 N.length b.m)) := by
  refine F.ok S (fun vs H Q E h => by rw [hn]; exact spM_len vs H Q E h) fun cdv A outer s H vs Q E hr h => ⟨b.t WNo, (by obtain ⟨t, h1, h2⟩ := d cdv A outer s H E hr; rw [← h2]; exact h1), ?_⟩
  obtain ⟨B, as, o, x, e, a, n1, m, f⟩ := h
  unfold mfOf0 at m
  cases em : mfOf N.length b.m as with
  | none => rw [em] at m; cases m
  | some o' =>
    rw [em] at m
    cases o' with
    | ex ee c => cases m
    | val u c => cases m; exact body_fin (E := fun _ _ _ => False) (n := n) x (by omega) a n1 em f
    | cel u c => cases m; exact body_fin (E := fun _ _ _ => False) (n := n) x (by omega) a n1 em f
    | dcl u c => cases m; exact body_fin (E := fun _ _ _ => False) (n := n) x (by omega) a n1 em f
theorem fn_okX {x qual : Str} {st : Stmt} {f : Addr} {fd : FuncData} {N ps : List Str} {k n : Nat} (F : Fun K x qual st f fd) (S : FnScope N ps (defScope st)) (b : MS K) (hn : ps.length = n) (hN : n ≤ N.length)
    (d : ∀ (cdv : Value) (A : Around) (outer : List PySem.Env) (s : Shared) (H : Hp) (E : XK), Room k (A.deeper (PyProof.Rows.envOfC qual (defScope st) s.heap.objs.size f cdv)) → ∃ t, PSs (cxOf (L2.CX P w) P w K mg base N qual (defScope st) f cdv A outer s H E) (defBody st) t ∧ t = b.t fun cls d _ H => E cls d H) :
    FnOk P w K mg base (L2.CX P w) (k + 1) f fd ps (spM K n (mfOf N.length b.m)) := by
  refine F.okX S (fun vs H Q E h => by rw [hn]; exact spM_len vs H Q E h) fun cdv A outer s H vs Q E hr h => ⟨b.t fun cls d _ H => E cls d H, (by obtain ⟨t, h1, h2⟩ := d cdv A outer s H E hr; rw [← h2]; exact h1), ?_⟩
  obtain ⟨B, as, o, x, e, a, n1, m, f⟩ := h
  exact body_fin (n := n) x (by omega) a n1 m f
end
inductive CA where
  | ok (is : List (U ⊕ Nat)) (ρ : Env)
  | ex (e : Exn) (ρ : Env)
def ItemsOk (K : PySem.W.Frag) (B : Hp) (σ : St) : List (U ⊕ Nat) → List V → Prop
  | [], vs => vs = []
  | .inl u :: r, vs => ∃ v vr, vs = v :: vr ∧ Rep K B u v ∧ ItemsOk K B σ r vr
  | .inr j :: r, vs => ∃ v vr, vs = v :: vr ∧ σ.getD j none = some v ∧ ItemsOk K B σ r vr
theorem ItemsOk.mono {B B' : Hp} {σ : St} (x : Ex B B') : ∀ {is : List (U ⊕ Nat)} {vs : List V}, ItemsOk K B σ is vs → ItemsOk K B' σ is vs
  | [], _, h => h
  | .inl u :: r, _, h => by
    obtain ⟨v, vr, e, h1, h2⟩ := h
    exact ⟨v, vr, e, Rep.mono x _ _ h1, ItemsOk.mono x h2⟩
  | .inr j :: r, _, h => by
    obtain ⟨v, vr, e, h1, h2⟩ := h
    exact ⟨v, vr, e, h1, ItemsOk.mono x h2⟩
def FinCA (K : PySem.W.Frag) (F : Fc) (W : WX) (p k : Bool) (ρ : Env) (σ : St) (B H : Hp) (Q : List V → Hp → Prop) : CA → Prop
  | .ok is ρ' => ∀ vs B' H', Ex B B' → (p = true → Ex H H' ∧ ρ' = ρ) → Rel K F ρ' σ B' H' → ItemsOk K (if k then B' else H') σ is vs → Q vs H'
  | .ex e ρ' => ∀ cls d B' H', Ex B B' → Rel K F ρ' σ B' H' → XRel K F e cls d H' → W cls d σ H'
structure MC (K : PySem.W.Frag) where
  t : WX → TA
  m : Env → Option CA
  p : Bool
  k : Bool
  ok : ∀ (F : Fc) (W : WX) (ρ : Env) (σ : St) (B H : Hp) (Q : List V → Hp → Prop) (o : CA), m ρ = some o → Rel K F ρ σ B H → FinCA K F W p k ρ σ B H Q o → t W σ H Q
def mcNil : MC K where
  t := fun _ => tNil
  m := fun ρ => some (.ok [] ρ)
  p := true
  k := true
  ok := fun F W ρ σ B H Q o e R f => by
    cases e
    exact f [] B H Ex.refl (fun _ => ⟨Ex.refl, rfl⟩) R rfl
def bindEC (a : Option EO) (f : U → Env → Option CA) : Option CA :=
  match a with
  | none => none
  | some (.ex e ρ) => some (.ex e ρ)
  | some (.ok u ρ) => f u ρ
theorem bindEC_some {a : Option EO} {f : U → Env → Option CA} {o : CA} (h : bindEC a f = some o) : (∃ u ρ', a = some (.ok u ρ') ∧ f u ρ' = some o) ∨ ∃ e ρ', a = some (.ex e ρ') ∧ o = .ex e ρ' := by
  cases a with
  | none => cases h
  | some x =>
    cases x with
    | ok u ρ => exact .inl ⟨u, ρ, rfl, h⟩
    | ex e ρ => exact .inr ⟨e, ρ, rfl, (Option.some.inj h).symm⟩
def consC (i : U ⊕ Nat) (a : Option CA) : Option CA :=
  match a with
  | some (.ok is ρ) => some (.ok (i :: is) ρ)
  | o => o
theorem consC_some {i : U ⊕ Nat} {a : Option CA} {o : CA} (h : consC i a = some o) : (∃ is ρ', a = some (.ok is ρ') ∧ o = .ok (i :: is) ρ') ∨ ∃ e ρ', a = some (.ex e ρ') ∧ o = .ex e ρ' := by
  cases a with
  | none => cases h
  | some x =>
    cases x with
    | ok u ρ => exact .inl ⟨u, ρ, rfl, (Option.some.inj h).symm⟩
    | ex e ρ => exact .inr ⟨e, ρ, rfl, (Option.some.inj h).symm⟩
def mcVal (a : ME K) (b : MC K) (h : (a.k || b.p) = true := by exact id rfl) : MC K where
  t := fun W => tCons (a.t W) (b.t W)
  m := fun ρ => bindEC (a.m ρ) fun u ρ1 => consC (.inl u) (b.m ρ1)
  p := a.p && b.p
  k := a.k && b.k
  ok := fun F W ρ σ B H Q out e R f => by
    rcases bindEC_some e with ⟨u, ρ1, e1, e⟩ | ⟨x, ρ1, e1, rfl⟩
    · refine a.ok F W ρ σ B H _ _ e1 R fun v1 B1 H1 x1 p1 R1 r1 => ?_
      rcases consC_some e with ⟨is, ρ2, e2, rfl⟩ | ⟨x, ρ2, e2, rfl⟩
      · refine b.ok F W ρ1 σ B1 H1 _ _ e2 R1 fun vs B2 H2 x2 p2 R2' r2 => ?_
        refine f (v1 :: vs) B2 H2 (x1.trans x2) (fun c => ?_) R2' ?_
        · obtain ⟨c1, c2⟩ := Bool.and_eq_true_iff.mp c
          exact ⟨(p1 c1).1.trans (p2 c2).1, (p2 c2).2.trans (p1 c1).2⟩
        · cases ck : a.k with
          | true =>
            rw [ck] at r1
            cases cb : b.k with
            | true =>
              rw [cb] at r2
              exact ⟨v1, vs, rfl, Rep.mono x2 _ _ r1, r2⟩
            | false =>
              rw [cb] at r2
              exact ⟨v1, vs, rfl, Rep.mono R2'.ex _ _ (Rep.mono x2 _ _ r1), r2⟩
          | false =>
            rw [ck] at r1 h
            have q1 := Rep.mono (p2 (by simpa using h)).1 _ _ r1
            refine ⟨v1, vs, rfl, q1, ?_⟩
            cases cb : b.k with
            | true => rw [cb] at r2; exact ItemsOk.mono R2'.ex r2
            | false => rw [cb] at r2; exact r2
      · exact b.ok F W ρ1 σ B1 H1 _ _ e2 R1 fun cls d B2 H2 x2 R2' xr => f cls d B2 H2 (x1.trans x2) R2' xr
    · exact a.ok F W ρ σ B H _ _ e1 R fun cls d B1 H1 x1 R1 xr => f cls d B1 H1 x1 R1 xr
def mcCel (j : Nat) (b : MC K) : MC K where
  t := fun W => tCons (tVar j) (b.t W)
  m := fun ρ => match ρ[j]? with
    | some (.cel _ _) => consC (.inr j) (b.m ρ)
    | some (.celD _ _) => consC (.inr j) (b.m ρ)
    | _ => none
  p := b.p
  k := b.k
  ok := fun F W ρ σ B H Q out e R f => by
    split at e
    · rename_i own us hu
      obtain ⟨p, ws, hv, _⟩ := R.sl j _ hu
      refine ⟨.ref p, getD_some hv, ?_⟩
      rcases consC_some e with ⟨is, ρ2, e2, rfl⟩ | ⟨x, ρ2, e2, rfl⟩
      · exact b.ok F W ρ σ B H _ _ e2 R fun vs B2 H2 x2 p2 R2' r2 => f _ B2 H2 x2 p2 R2' ⟨.ref p, vs, rfl, hv, r2⟩
      · exact b.ok F W ρ σ B H _ _ e2 R fun cls d B2 H2 x2 R2' xr => f cls d B2 H2 x2 R2' xr
    · rename_i own us hu
      obtain ⟨p, ws, hv, _⟩ := R.sl j _ hu
      refine ⟨.ref p, getD_some hv, ?_⟩
      rcases consC_some e with ⟨is, ρ2, e2, rfl⟩ | ⟨x, ρ2, e2, rfl⟩
      · exact b.ok F W ρ σ B H _ _ e2 R fun vs B2 H2 x2 p2 R2' r2 => f _ B2 H2 x2 p2 R2' ⟨.ref p, vs, rfl, hv, r2⟩
      · exact b.ok F W ρ σ B H _ _ e2 R fun cls d B2 H2 x2 R2' xr => f cls d B2 H2 x2 R2' xr
    · cases e
def resolve (ρ : Env) : List (U ⊕ Nat) → Option (List Slot)
  | [] => some []
  | .inl u :: r => (resolve ρ r).map fun as => .val u :: as
  | .inr j :: r => match ρ[j]? with
    | some (.cel own us) => (resolve ρ r).map fun as => .cel own us :: as
    | _ => none
def celJ : List (U ⊕ Nat) → Option Nat
  | [] => none
  | .inl _ :: r => celJ r
  | .inr j :: _ => some j
def putJ (ρ : Env) (j : Option Nat) (c : Option (List U)) : Option Env :=
  match j, c with
  | none, _ => some ρ
  | some j, some us => match ρ[j]? with
    | some (.cel own _) => some (ρ.set j (.cel own us))
    | _ => none
  | some _, none => none
theorem resolve_ok {F : Fc} {ρ : Env} {σ : St} {B H : Hp} (R : Rel K F ρ σ B H) : ∀ {is : List (U ⊕ Nat)} {vs : List V} {as : List Slot}, ItemsOk K B σ is vs → resolve ρ is = some as →
    ArgsOk K B H as vs ∧ as.length = is.length ∧ (nCel as ≤ 1 → (celJ is = none ∧ cellsOf as vs = []) ∨ ∃ j p own us, celJ is = some j ∧ cellsOf as vs = [p] ∧ ρ[j]? = some (.cel own us) ∧ σ.getD j none = some (.ref p))
  | [], _, as, h, e => by cases h; cases e; exact ⟨rfl, rfl, fun _ => .inl ⟨rfl, rfl⟩⟩
  | .inl u :: r, _, as, h, e => by
    obtain ⟨v, vr, rfl, h1, h2⟩ := h
    obtain ⟨bs, eb, rfl⟩ := Option.map_eq_some_iff.mp e
    obtain ⟨q1, q2, q3⟩ := resolve_ok R h2 eb
    exact ⟨⟨v, vr, rfl, h1, q1⟩, by simp [q2], fun n => q3 (by simpa [nCel, List.filter_cons, Slot.isC] using n)⟩
  | .inr j :: r, _, as, h, e => by
    obtain ⟨v, vr, rfl, h1, h2⟩ := h
    unfold resolve at e
    split at e
    · rename_i own us hu
      obtain ⟨bs, eb, rfl⟩ := Option.map_eq_some_iff.mp e
      obtain ⟨q1, q2, q3⟩ := resolve_ok R h2 eb
      obtain ⟨p, ws, hv, z1, z2, z3, _⟩ := R.sl j _ hu
      have ev : v = .ref p := by rw [h1] at hv; exact Option.some.inj hv
      subst ev
      refine ⟨⟨p, ws, vr, rfl, z1, z2, z3, q1⟩, by simp [q2], fun n => ?_⟩
      have n0 : nCel bs = 0 := by
        simp only [nCel, List.filter_cons, Slot.isC, if_true, List.length_cons] at n
        unfold nCel; omega
      have c0 : cellsOf bs vr = [] := List.length_eq_zero_iff.mp (by rw [cells_one q1, n0])
      exact .inr ⟨j, p, own, us, rfl, by simp [cellsOf, c0], hu, h1⟩
    · cases e
theorem after_call {F : Fc} {ρ : Env} {σ : St} {B H B' H' : Hp} {M : List Addr} {jc : Option Nat} {c : Option (List U)} {ρ' : Env} (R : Rel K F ρ σ B H) (g : Go M B H B' H')
    (hm : (jc = none ∧ M = []) ∨ ∃ j p own us, jc = some j ∧ M = [p] ∧ ρ[j]? = some (.cel own us) ∧ σ.getD j none = some (.ref p)) (cc : CellOk K B' H' M c) (e : putJ ρ jc c = some ρ') : Rel K F ρ' σ B' H' := by
  rcases hm with ⟨rfl, rfl⟩ | ⟨j, p, own, us, rfl, rfl, hj, hs⟩
  · cases e; exact R.grow g
  · obtain ⟨us', ws', rfl, h1, h2, h3⟩ := cc p List.mem_cons_self
    have e2 : (match ρ[j]? with | some (.cel own _) => some (ρ.set j (.cel own us')) | _ => none) = some ρ' := e
    rw [hj] at e2
    cases e2
    have pm0 : (if own = true then F.H0 p = none else p ∈ F.M) := by
      obtain ⟨p', _, e', _, _, _, h⟩ := R.sl j _ hj
      rw [hs] at e'; cases e'; exact h
    have hp : p ∈ (Slot.cel own us).ow H (σ.getD j none) := ow_cel hs
    have hb := (R.owned hj hp).2.1
    have R1 := R.chg hj g.bb g.bh (fun a o n h => ⟨g.hh a o (fun z => n (by rw [List.mem_singleton.mp z]; exact hp)) h, fun z => g.nw a o z h⟩) (fun a ha => by
      obtain ⟨⟨u, hu⟩, _⟩ := R.owned hj ha
      exact g.th a u hu) fun a o ha _ => by
      obtain ⟨⟨u, hu⟩, hb, _⟩ := R.owned hj ha
      exact g.nw a u hb hu
    refine R1.back ⟨p, ws', hs, h1, h2, h3, pm0⟩ (fun i s q ne es hq hq2 => ?_) (fun q o hq ho => ?_) (fun l => R.ln j _ hj (by cases own <;> exact l))
    · have ez := of_ow_cel hq2
      rw [hs] at ez; cases ez
      have hm := (R.sl i s es).move (B' := B') (H' := H') g.bb fun z hz => by
        obtain ⟨⟨u, hu⟩, hb, _⟩ := R.owned es hz
        have nz : z ≠ p := fun y => R.ds i j s _ p ne es hj (by rw [← y]; exact hz) hp
        exact ⟨by rw [hu]; exact g.hh z u (by simpa using nz) hu, g.nw _ _ hb hu⟩
      rw [hm.2] at hq
      exact R.ds i j s _ p ne es hj hq hp
    · have ez := of_ow_cel hq
      rw [hs] at ez; cases ez
      exact R.xs p o ho j _ hj hp
theorem put_cells {F : Fc} {ρ ρ' : Env} {σ : St} {B H B' H' : Hp} {M : List Addr} {jc : Option Nat} {c : Option (List U)} {q : Addr} (R : Rel K F ρ σ B H) (g : Go M B H B' H')
    (hm : (jc = none ∧ M = []) ∨ ∃ j p own us, jc = some j ∧ M = [p] ∧ ρ[j]? = some (.cel own us) ∧ σ.getD j none = some (.ref p)) (h : H q = none) (e : putJ ρ jc c = some ρ') (j : Nat) (s : Slot) (es : ρ'[j]? = some s) : q ∉ s.ow H' (σ.getD j none) := fun z => by
  rcases hm with ⟨rfl, rfl⟩ | ⟨l, p, own, us, rfl, rfl, hl, hs⟩
  · cases e
    rw [R.ow_eq g es] at z
    exact R.notC h j s es z
  · cases c with
    | none => cases e
    | some us' =>
      have e2 : (match ρ[l]? with | some (.cel own _) => some (ρ.set l (.cel own us')) | _ => none) = some ρ' := e
      rw [hl] at e2
      cases e2
      rcases getElem_set es with ⟨rfl, rfl⟩ | ⟨ne, es⟩
      · exact R.notC h _ _ hl (show q ∈ adO _ from z)
      · have hp : p ∈ (Slot.cel own us).ow H (σ.getD l none) := ow_cel hs
        have hm := (R.sl j s es).move (B' := B') (H' := H') g.bb fun y hy => by
          obtain ⟨⟨u, hu⟩, hb, _⟩ := R.owned es hy
          have ny : y ≠ p := fun w => R.ds j l s _ p ne es hl (by rw [← w]; exact hy) hp
          exact ⟨by rw [hu]; exact g.hh y u (by simpa using ny) hu, g.nw _ _ hb hu⟩
        rw [hm.2] at z
        exact R.notC h j s es z
def callM (mf : List Slot → Option CO) (a : Option CA) : Option EO :=
  match a with
  | none => none
  | some (.ex e ρ) => some (.ex e ρ)
  | some (.ok is ρ) => match resolve ρ is with
    | none => none
    | some as => if nCel as ≤ 1 then match mf as with
      | none => none
      | some (.val u c) => (putJ ρ (celJ is) c).map fun ρ' => .ok u ρ'
      | some (.cel us c) => (putJ ρ (celJ is) c).map fun ρ' => .ok (.lst us) ρ'
      | some (.dcl us c) => (putJ ρ (celJ is) c).map fun ρ' => .ok (.dic us) ρ'
      | some (.ex e c) => (putJ ρ (celJ is) c).map fun ρ' => .ex e ρ'
    else none
def mCall (n : Nat) (mf : List Slot → Option CO) (a : MC K) (hk : a.k = true := by exact id rfl) : ME K where
  t := fun W => tCallS (spM K n mf) (WE W) (a.t W)
  m := fun ρ => (a.m ρ).bind fun o => match o with
    | .ok is _ => if is.length = n then callM mf (some o) else none
    | _ => callM mf (some o)
  p := false
  k := true
  ok := fun F W ρ σ B H Q out e R f => by
    obtain ⟨o, e1, e⟩ := Option.bind_eq_some_iff.mp e
    cases o with
    | ex x ρ1 => cases e; exact a.ok F W ρ σ B H _ _ e1 R fun cls d B1 H1 x1 R1 xr => f cls d B1 H1 x1 R1 xr
    | ok is ρ1 =>
      refine a.ok F W ρ σ B H _ _ e1 R fun vs B1 H1 x1 p1 R1 r1 => ?_
      rw [hk] at r1
      have e' : (if is.length = n then callM mf (some (.ok is ρ1)) else none) = some out := e
      split at e'
      · rename_i hn
        unfold callM at e'
        split at e'
        · cases e'
        · rename_i h; cases h
        · rename_i is' ρ1' h
          cases h
          split at e'
          · cases e'
          · rename_i as ea
            obtain ⟨q1, q2, q3⟩ := resolve_ok R1 r1 ea
            split at e'
            · rename_i n1
              have q3 := q3 n1
              split at e'
              · cases e'
              · rename_i u c em
                obtain ⟨ρ', ep, rfl⟩ := Option.map_eq_some_iff.mp e'
                exact ⟨B1, as, _, R1.ex, q2.trans hn, q1, n1, em, fun v B' H' g cc r => f v B' H' (x1.trans g.bb) (fun z => nomatch z) (after_call R1 g q3 cc ep) r⟩
              · rename_i us c em
                obtain ⟨ρ', ep, rfl⟩ := Option.map_eq_some_iff.mp e'
                refine ⟨B1, as, _, R1.ex, q2.trans hn, q1, n1, em, fun q ws B' H' g cc h1 h2 h3 hq r => ?_⟩
                have R2 := after_call R1 g q3 cc ep
                have xb : Ex B' (upd B' q (.lst ws)) := Ex.new h2
                have R3 := R2.know h1 h2 (R1.fresh0 h3) (put_cells R1 g q3 h3 ep) (fun o ho => by rw [(R1.xx _ _ ho).1] at h3; cases h3)
                exact f (.ref q) (upd B' q (.lst ws)) H' ((x1.trans g.bb).trans xb) (fun z => nomatch z) R3 ⟨q, ws, rfl, upd_same, RepL.mono xb _ _ r⟩
              · rename_i us c em
                obtain ⟨ρ', ep, rfl⟩ := Option.map_eq_some_iff.mp e'
                refine ⟨B1, as, _, R1.ex, q2.trans hn, q1, n1, em, fun q ws B' H' g cc h1 h2 h3 hq r => ?_⟩
                have R2 := after_call R1 g q3 cc ep
                have xb : Ex B' (upd B' q (.dK ws)) := Ex.new h2
                have R3 := R2.know h1 h2 (R1.fresh0 h3) (put_cells R1 g q3 h3 ep) (fun o ho => by rw [(R1.xx _ _ ho).1] at h3; cases h3)
                exact f (.ref q) (upd B' q (.dK ws)) H' ((x1.trans g.bb).trans xb) (fun z => nomatch z) R3 ⟨q, ws, rfl, .inl upd_same, RepD.mono xb _ _ r⟩
              · rename_i x c em
                obtain ⟨ρ', ep, rfl⟩ := Option.map_eq_some_iff.mp e'
                exact ⟨B1, as, _, R1.ex, q2.trans hn, q1, n1, em, fun cls d B' H' g cc xr => f cls d B' H' (x1.trans g.bb) (after_call R1 g q3 cc ep) (XRel.up R1 xr)⟩
            · cases e'
      · cases e'
end Sg
set_option Elab.async false
set_option linter.all false
set_option maxRecDepth 100000
set_option maxHeartbeats 4000000
namespace Sg
open PySem L2
variable {K : PySem.W.Frag}
def rOr (r r' : R2) : R2 := fun x y H Q => r x y H Q ∨ r' x y H Q
theorem op_or {X : Cx} {f : Value → Value → Sem Value} {r r' : R2} (h : OpR X f r) (h' : OpR X f r') : OpR X f (rOr r r') := h.or h'
def fI (g : Int → Int → Option U) : U → U → Option U
  | .int i, .int j => g i j
  | _, _ => none
theorem fI_some {g : Int → Int → Option U} {u v w : U} (h : fI g u v = some w) : ∃ i j, u = .int i ∧ v = .int j ∧ g i j = some w := by
  unfold fI at h
  split at h
  · exact ⟨_, _, rfl, rfl, h⟩
  · cases h
def fAdd : U → U → Option U
  | .int i, .int j => some (.int (i + j))
  | .str a, .str b => if a.length + b.length ≤ 16777216 then some (.str (a ++ b)) else none
  | _, _ => none
def rAddS : R2 := fun x y H Q => ∃ i j, x = .str i ∧ y = .str j ∧ i.length + j.length ≤ sizeLine ∧ Q (.str (i ++ j)) H
def oAdd : Op2 K where
  r := rOr (rI0 fun i j => .int (i + j)) rAddS
  f := fAdd
  ok := fun H x y u v w ru rv e => by
    unfold fAdd at e
    split at e
    · cases e; cases ru; cases rv; exact ⟨_, rfl, fun Q q => .inl ⟨_, _, rfl, rfl, q⟩⟩
    · split at e
      · rename_i a b h; cases e; cases ru; cases rv; exact ⟨_, rfl, fun Q q => .inr ⟨_, _, rfl, rfl, by rw [PySem.sizeLine_eq]; exact h, q⟩⟩
      · cases e
    · cases e
def oSub : Op2 K where
  r := rI0 fun i j => .int (i - j)
  f := fI fun i j => some (.int (i - j))
  ok := fun H x y u v w ru rv e => by
    obtain ⟨i, j, rfl, rfl, e2⟩ := fI_some e
    cases e2; cases ru; cases rv
    exact ⟨_, rfl, fun Q q => ⟨_, _, rfl, rfl, q⟩⟩
def MulOk (i j : Int) : Prop := ((-(2 ^ 64) < i ∧ i < 2 ^ 64) ∨ (-(2 ^ 64) < j ∧ j < 2 ^ 64)) ∨ CMulX i j
noncomputable instance (i j : Int) : Decidable (MulOk i j) := Classical.propDecidable _
noncomputable def fMul : Int → Int → Option U := fun i j => if MulOk i j then some (.int (i * j)) else none
noncomputable def oMul : Op2 K where
  r := rOr (rI CMul fun i j => .int (i * j)) (rI CMulX fun i j => .int (i * j))
  f := fI fMul
  ok := fun H x y u v w ru rv e => by
    obtain ⟨i, j, rfl, rfl, e2⟩ := fI_some e
    unfold fMul at e2
    split at e2
    · rename_i h
      cases e2; cases ru; cases rv
      refine ⟨_, rfl, fun Q q => ?_⟩
      rcases h with h | h
      · exact .inl ⟨_, _, rfl, rfl, h, q⟩
      · exact .inr ⟨_, _, rfl, rfl, h, q⟩
    · cases e2
def oMod : Op2 K where
  r := rI (fun _ j => j ≠ 0) fun i j => .int (i.fmod j)
  f := fI fun i j => if j ≠ 0 then some (.int (i.fmod j)) else none
  ok := fun H x y u v w ru rv e => by
    obtain ⟨i, j, rfl, rfl, e2⟩ := fI_some e
    split at e2
    · rename_i h
      cases e2; cases ru; cases rv
      exact ⟨_, rfl, fun Q q => ⟨_, _, rfl, rfl, h, q⟩⟩
    · cases e2
def oDiv : Op2 K where
  r := rOr (rI CDivN fun i j => .int (i.fdiv j)) (rI CDivW fun i j => .int (i / j))
  f := fI fun i j => if j ≠ 0 ∧ j.natAbs < 1073741824 then some (.int (i.fdiv j)) else if 0 < j ∧ j.natAbs.log2 < 9000 then some (.int (i / j)) else none
  ok := fun H x y u v w ru rv e => by
    obtain ⟨i, j, rfl, rfl, e2⟩ := fI_some e
    split at e2
    · rename_i h
      cases e2; cases ru; cases rv
      exact ⟨_, rfl, fun Q q => .inl ⟨_, _, rfl, rfl, h, q⟩⟩
    · split at e2
      · rename_i h
        cases e2; cases ru; cases rv
        exact ⟨_, rfl, fun Q q => .inr ⟨_, _, rfl, rfl, h, q⟩⟩
      · cases e2
def oPow : Op2 K where
  r := rI CPow fun i j => .int (i ^ j.toNat)
  f := fI fun i j => if 0 ≤ j ∧ j ≤ 1000000 ∧ i.natAbs < 2 ^ 64 then some (.int (i ^ j.toNat)) else none
  ok := fun H x y u v w ru rv e => by
    obtain ⟨i, j, rfl, rfl, e2⟩ := fI_some e
    split at e2
    · rename_i h
      cases e2; cases ru; cases rv
      exact ⟨_, rfl, fun Q q => ⟨_, _, rfl, rfl, h, q⟩⟩
    · cases e2
def oCmp (p : Int → Int → Bool) : Op2 K where
  r := rI0 fun i j => .bl (p i j)
  f := fI fun i j => some (.bl (p i j))
  ok := fun H x y u v w ru rv e => by
    obtain ⟨i, j, rfl, rfl, e2⟩ := fI_some e
    cases e2; cases ru; cases rv
    exact ⟨_, rfl, fun Q q => ⟨_, _, rfl, rfl, q⟩⟩
abbrev oLt : Op2 K := oCmp fun i j => decide (i < j)
abbrev oLe : Op2 K := oCmp fun i j => decide (i ≤ j)
abbrev oGt : Op2 K := oCmp fun i j => decide (j < i)
abbrev oGe : Op2 K := oCmp fun i j => decide (j ≤ i)
mutual
def pd : U → Option PyData
  | .non => some .none
  | .bl b => some (.bool b)
  | .int i => some (.int i)
  | .str s => some (.str s)
  | .lst us => (pdL us).map .list
  | .frl us => (pdL us).map .list
  | .tup us => (pdL us).map .tuple
  | _ => none
def pdL : List U → Option (List PyData)
  | [] => some []
  | u :: us => (pd u).bind fun d => (pdL us).map fun ds => d :: ds
end
mutual
theorem pd_ok {H : Hp} : ∀ (u : U) (v : V) (d : PyData), Rep K H u v → pd u = some d → Dp K H v d
  | .non, _, _, r, e => by cases r; cases e; exact .non
  | .bl b, _, _, r, e => by cases r; cases e; exact .bl b
  | .int i, _, _, r, e => by cases r; cases e; exact .int i
  | .str s, _, _, r, e => by cases r; cases e; exact .str s
  | .ref _, _, _, r, e => by cases e
  | .lst us, _, _, r, e => by
    obtain ⟨a, vs, rfl, h1, h2⟩ := r
    obtain ⟨ds, e1, rfl⟩ := Option.map_eq_some_iff.mp e
    exact .lst (SqL.of h1) (pdL_ok us vs ds h2 e1)
  | .frl us, _, _, r, e => by
    obtain ⟨a, vs, rfl, h1, h2⟩ := r
    obtain ⟨ds, e1, rfl⟩ := Option.map_eq_some_iff.mp e
    exact .lst h1 (pdL_ok us vs ds h2 e1)
  | .tup us, _, _, r, e => by
    obtain ⟨a, vs, rfl, h1, h2⟩ := r
    obtain ⟨ds, e1, rfl⟩ := Option.map_eq_some_iff.mp e
    exact .tup h1 (pdL_ok us vs ds h2 e1)
  | .dic _, _, _, _, e => by cases e
  | .ins _ _, _, _, _, e => by cases e
  | .exc _, _, _, _, e => by cases e
  | .exf _ _ _, _, _, _, e => by cases e
  | .ndc _, _, _, _, e => by cases e
theorem pdL_ok {H : Hp} : ∀ (us : List U) (vs : List V) (ds : List PyData), RepL K H us vs → pdL us = some ds → DpAll K H vs ds
  | [], _, _, r, e => by cases r; cases e; exact .nil
  | u :: us, _, _, r, e => by
    obtain ⟨v, vr, rfl, h1, h2⟩ := r
    obtain ⟨d, e1, e2⟩ := Option.bind_eq_some_iff.mp e
    obtain ⟨ds, e3, rfl⟩ := Option.map_eq_some_iff.mp e2
    exact .cons (pd_ok u v d h1 e1) (pdL_ok us vr ds h2 e3)
end
def eqU (u v : U) : Option Bool := (pd u).bind fun d => (pd v).bind fun e => if SeqAt.shaped d = true ∧ SeqAt.shaped e = true then some (PyData.eqv d e) else none
theorem eqU_ok {H : Hp} {u v : U} {x y : V} {b : Bool} (ru : Rep K H u x) (rv : Rep K H v y) (e : eqU u v = some b) : ∃ d e, Dp K H x d ∧ Dp K H y e ∧ SeqAt.shaped d = true ∧ SeqAt.shaped e = true ∧ PyData.eqv d e = b := by
  obtain ⟨d, e1, e⟩ := Option.bind_eq_some_iff.mp e
  obtain ⟨d', e2, e⟩ := Option.bind_eq_some_iff.mp e
  split at e
  · rename_i h
    cases e
    exact ⟨d, d', pd_ok _ _ _ ru e1, pd_ok _ _ _ rv e2, h.1, h.2, rfl⟩
  · cases e
def oEq : Op2 K where
  r := rEqD K
  f := fun u v => (eqU u v).map .bl
  ok := fun H x y u v w ru rv e => by
    obtain ⟨b, e1, rfl⟩ := Option.map_eq_some_iff.mp e
    obtain ⟨d, d', h1, h2, h3, h4, rfl⟩ := eqU_ok ru rv e1
    exact ⟨_, rfl, fun Q q => ⟨d, d', h1, h2, h3, h4, q⟩⟩
def oNe : Op2 K where
  r := rNeD K
  f := fun u v => (eqU u v).map fun b => .bl (!b)
  ok := fun H x y u v w ru rv e => by
    obtain ⟨b, e1, rfl⟩ := Option.map_eq_some_iff.mp e
    obtain ⟨d, d', h1, h2, h3, h4, rfl⟩ := eqU_ok ru rv e1
    exact ⟨_, rfl, fun Q q => ⟨d, d', h1, h2, h3, h4, q⟩⟩
def isNon : U → Bool
  | .non => true
  | _ => false
theorem isNon_ok {H : Hp} {u : U} {v : V} (r : Rep K H u v) : decide (v = V.non) = isNon u := by
  cases u with
  | non => cases r; rfl
  | bl b => cases r; rfl
  | int b => cases r; rfl
  | str b => cases r; rfl
  | ref b => cases r; rfl
  | lst us => obtain ⟨a, vs, rfl, _⟩ := r; rfl
  | frl us => obtain ⟨a, vs, rfl, _⟩ := r; rfl
  | tup us => obtain ⟨a, vs, rfl, _⟩ := r; rfl
  | dic us => obtain ⟨a, vs, rfl, _⟩ := r; rfl
  | ins c us => obtain ⟨a, dx, vs, rfl, _⟩ := r; rfl
  | exc c => obtain ⟨a, rfl, _⟩ := r; rfl
  | exf c f z => obtain ⟨a, d, _, rfl, _⟩ := r; rfl
  | ndc us => obtain ⟨a, vs, rfl, _⟩ := r; rfl
def rIsN' : R2 := fun x y H Q => y = .non ∧ Q (.bl (decide (x = .non))) H
def rNotN' : R2 := fun x y H Q => y = .non ∧ Q (.bl (!decide (x = .non))) H
def oIsN : Op2 K where
  r := rIsN'
  f := fun u v => match v with
    | .non => some (.bl (isNon u))
    | _ => none
  ok := fun H x y u v w ru rv e => by
    split at e
    · cases e; cases rv; exact ⟨_, rfl, fun Q q => ⟨rfl, by rw [isNon_ok ru]; exact q⟩⟩
    · cases e
def oNotN : Op2 K where
  r := rNotN'
  f := fun u v => match v with
    | .non => some (.bl (!isNon u))
    | _ => none
  ok := fun H x y u v w ru rv e => by
    split at e
    · cases e; cases rv; exact ⟨_, rfl, fun Q q => ⟨rfl, by rw [isNon_ok ru]; exact q⟩⟩
    · cases e
def flU : U → Option V
  | .non => some .non
  | .bl b => some (.bl b)
  | .int i => some (.int i)
  | .str s => some (.str s)
  | _ => none
def seqU : U → Option (List U)
  | .lst us => some us
  | .frl us => some us
  | .tup us => some us
  | _ => none
theorem flU_ok {H : Hp} {u : U} {v z : V} (r : Rep K H u v) (e : flU u = some z) : v = z ∧ flatV v = true := by
  cases u <;> first | (cases e; cases r; exact ⟨rfl, rfl⟩) | cases e
def flL : List U → Option (List V)
  | [] => some []
  | u :: us => (flU u).bind fun v => (flL us).map fun vs => v :: vs
theorem flL_ok {H : Hp} : ∀ {us : List U} {vs zs : List V}, RepL K H us vs → flL us = some zs → vs = zs ∧ vs.all flatV = true
  | [], _, _, r, e => by cases r; cases e; exact ⟨rfl, rfl⟩
  | u :: us, _, _, r, e => by
    obtain ⟨v, vr, rfl, h1, h2⟩ := r
    obtain ⟨z, e1, e2⟩ := Option.bind_eq_some_iff.mp e
    obtain ⟨zs, e3, rfl⟩ := Option.map_eq_some_iff.mp e2
    obtain ⟨rfl, q1⟩ := flU_ok h1 e1
    obtain ⟨rfl, q2⟩ := flL_ok h2 e3
    exact ⟨rfl, by simp only [List.all_cons, q1, q2, Bool.and_self]⟩
theorem seqU_ok {H : Hp} {u : U} {v : V} {us : List U} (r : Rep K H u v) (e : seqU u = some us) : ∃ a vs, v = .ref a ∧ (SqL K H a vs ∨ SqT K H a vs) ∧ RepL K H us vs := by
  cases u with
  | lst _ => cases e; obtain ⟨a, vs, rfl, h1, h2⟩ := r; exact ⟨a, vs, rfl, .inl (SqL.of h1), h2⟩
  | frl _ => cases e; obtain ⟨a, vs, rfl, h1, h2⟩ := r; exact ⟨a, vs, rfl, .inl h1, h2⟩
  | tup _ => cases e; obtain ⟨a, vs, rfl, h1, h2⟩ := r; exact ⟨a, vs, rfl, .inr h1, h2⟩
  | _ => cases e
def inU (u v : U) : Option Bool := (flU u).bind fun x => (seqU v).bind fun us => (flL us).map fun ys => inV x ys
def oIn (neg : Bool) : Op2 K where
  r := rIn K neg
  f := fun u v => (inU u v).map fun b => .bl (if neg then !b else b)
  ok := fun H x y u v w ru rv e => by
    obtain ⟨b, e1, rfl⟩ := Option.map_eq_some_iff.mp e
    obtain ⟨z, e2, e1⟩ := Option.bind_eq_some_iff.mp e1
    obtain ⟨us, e3, e1⟩ := Option.bind_eq_some_iff.mp e1
    obtain ⟨ys, e4, rfl⟩ := Option.map_eq_some_iff.mp e1
    obtain ⟨rfl, q1⟩ := flU_ok ru e2
    obtain ⟨a, vs, rfl, h1, h2⟩ := seqU_ok rv e3
    obtain ⟨rfl, q2⟩ := flL_ok h2 e4
    exact ⟨_, rfl, fun Q q => ⟨a, _, rfl, h1, q1, q2, q⟩⟩
def oNeg : Op1 K where
  r := fun x H Q => ∃ i, x = .int i ∧ Q (.int (-i)) H
  f := fun u => match u with
    | .int i => some (.int (-i))
    | _ => none
  ok := fun H x u w r e => by
    split at e
    · cases e; cases r; exact ⟨_, rfl, fun Q q => ⟨_, rfl, q⟩⟩
    · cases e
theorem RepL.at {B : Hp} {us : List U} {vs : List V} {i : Int} {u : U} (r : RepL K B us vs) (e : atI us i = some u) : ∃ v, atI vs i = some v ∧ Rep K B u v := by
  obtain ⟨j, e1, e2⟩ := Option.bind_eq_some_iff.mp e
  obtain ⟨v, e3, e4⟩ := r.get e2
  exact ⟨v, by unfold atI; rw [r.length, e1]; exact e3, e4⟩
def ixU (u v : U) : Option U := match v with
  | .int i => match u with
    | .str s => if s.length ≤ 16777216 then (atI s.cps.toList i).map fun c => .str ⟨#[c]⟩ else none
    | _ => (seqU u).bind fun us => atI us i
  | _ => none
def oIx : OpI K where
  r := rIx K
  f := ixU
  ok := fun B H x y u v w Q ex ru rv e f => by
    unfold ixU at e
    split at e
    · rename_i i
      have ry : y = .int i := rv
      subst ry
      split at e
      · rename_i s
        split at e
        · rename_i hl
          obtain ⟨c, e1, rfl⟩ := Option.map_eq_some_iff.mp e
          cases ru
          exact .inr (.inr ⟨s, i, c, rfl, rfl, by rw [PySem.sizeLine_eq]; exact hl, e1, f _ rfl⟩)
        · cases e
      · obtain ⟨us, e1, e2⟩ := Option.bind_eq_some_iff.mp e
        obtain ⟨a, vs, rfl, h1, h2⟩ := seqU_ok ru e1
        obtain ⟨z, e3, e4⟩ := h2.at e2
        rcases h1 with h1 | h1
        · exact .inl ⟨a, vs, i, z, rfl, rfl, Ex.l ex h1, e3, f z e4⟩
        · exact .inr (.inl ⟨a, vs, i, z, rfl, rfl, Ex.t ex h1, e3, f z e4⟩)
    · cases e
inductive OO where
  | ok (o : Option Int) (ρ : Env)
  | ex (e : Exn) (ρ : Env)
structure MO (K : PySem.W.Frag) where
  t : WX → TO
  m : Env → Option OO
  p : Bool
  ok : ∀ (F : Fc) (W : WX) (ρ : Env) (σ : St) (B H : Hp) (Q : Option Int → Hp → Prop) (o : OO), m ρ = some o → Rel K F ρ σ B H →
    (match o with
      | .ok x ρ' => ∀ B' H', Ex B B' → (p = true → Ex H H' ∧ ρ' = ρ) → Rel K F ρ' σ B' H' → Q x H'
      | .ex e ρ' => ∀ cls d B' H', Ex B B' → Rel K F ρ' σ B' H' → XRel K F e cls d H' → W cls d σ H') → t W σ H Q
def moNone : MO K where
  t := fun _ => tNoPart
  m := fun ρ => some (.ok none ρ)
  p := true
  ok := fun F W ρ σ B H Q o e R f => by cases e; exact f B H Ex.refl (fun _ => ⟨Ex.refl, rfl⟩) R
def moSome (a : ME K) : MO K where
  t := fun W => tPart (a.t W)
  m := fun ρ => match a.m ρ with
    | some (.ok (.int i) ρ1) => some (.ok (some i) ρ1)
    | some (.ex e ρ1) => some (.ex e ρ1)
    | _ => none
  p := a.p
  ok := fun F W ρ σ B H Q o e R f => by
    split at e
    · rename_i i ρ1 e1
      cases e
      refine a.ok F W ρ σ B H _ _ e1 R fun v B1 H1 x1 p1 R1 r1 => ?_
      exact ⟨i, rep_up R1 r1, f B1 H1 x1 p1 R1⟩
    · rename_i x ρ1 e1
      cases e
      exact a.ok F W ρ σ B H _ _ e1 R f
    · cases e
def cutU (us : List U) (lo hi : Option Int) : List U := (us.drop (HT.sIx us.length 0 lo)).take (HT.sIx us.length us.length hi - HT.sIx us.length 0 lo)
theorem RepL.cut {B : Hp} {us : List U} {vs : List V} (r : RepL K B us vs) (lo hi : Option Int) : RepL K B (cutU us lo hi) (cutV vs lo hi) := by
  unfold cutU cutV
  rw [r.length]
  exact RepL.take _ (RepL.drop _ r)
def lstU : U → Option (List U)
  | .lst us => some us
  | .frl us => some us
  | _ => none
theorem lstU_ok {H : Hp} {u : U} {v : V} {us : List U} (r : Rep K H u v) (e : lstU u = some us) : ∃ a vs, v = .ref a ∧ SqL K H a vs ∧ RepL K H us vs := by
  cases u with
  | lst _ => cases e; obtain ⟨a, vs, rfl, h1, h2⟩ := r; exact ⟨a, vs, rfl, SqL.of h1, h2⟩
  | frl _ => cases e; obtain ⟨a, vs, rfl, h1, h2⟩ := r; exact ⟨a, vs, rfl, h1, h2⟩
  | _ => cases e
def mSlL (a : ME K) (lo hi : MO K) (hk : a.k = true := by exact id rfl) (h1 : lo.p = true := by exact id rfl) (h2 : hi.p = true := by exact id rfl) : MF K where
  t := fun W => L2.tSl (rSlL K) (a.t W) (lo.t W) (hi.t W)
  m := fun ρ => match a.m ρ with
    | none => none
    | some (.ex e ρ1) => some (.ex e ρ1)
    | some (.ok u ρ1) => match lo.m ρ1 with
      | none => none
      | some (.ex e ρ2) => some (.ex e ρ2)
      | some (.ok x ρ2) => match hi.m ρ2 with
        | none => none
        | some (.ex e ρ3) => some (.ex e ρ3)
        | some (.ok y ρ3) => (lstU u).map fun us => .ok (cutU us x y) ρ3
  p := a.p
  ok := fun F W ρ σ B H Q o e R f => by
    split at e
    · cases e
    · rename_i x ρ1 e1
      cases e
      exact a.ok F W ρ σ B H _ _ e1 R f
    · rename_i u ρ1 e1
      refine a.ok F W ρ σ B H _ _ e1 R fun v B1 H1 x1 p1 R1 r1 => ?_
      rw [hk] at r1
      split at e
      · cases e
      · rename_i x ρ2 e2
        cases e
        exact lo.ok F W ρ1 σ B1 H1 _ _ e2 R1 fun cls d B2 H2 x2 R2 xr => f cls d B2 H2 (x1.trans x2) R2 xr
      · rename_i x ρ2 e2
        refine lo.ok F W ρ1 σ B1 H1 _ _ e2 R1 fun B2 H2 x2 p2 R2 => ?_
        split at e
        · cases e
        · rename_i y ρ3 e3
          cases e
          exact hi.ok F W ρ2 σ B2 H2 _ _ e3 R2 fun cls d B3 H3 x3 R3 xr => f cls d B3 H3 ((x1.trans x2).trans x3) R3 xr
        · rename_i y ρ3 e3
          refine hi.ok F W ρ2 σ B2 H2 _ _ e3 R2 fun B3 H3 x3 p3 R3 => ?_
          obtain ⟨us, e4, rfl⟩ := Option.map_eq_some_iff.mp e
          have r3 := Rep.mono (x2.trans x3) _ _ r1
          obtain ⟨q, vs, rfl, h3, h4⟩ := lstU_ok r3 e4
          refine ⟨q, vs, rfl, Ex.l R3.ex h3, fun p hp => newF f ((x1.trans x2).trans x3) (fun c => ?_) R3 (h4.cut x y) hp⟩
          exact ⟨((p1 c).1.trans (p2 h1).1).trans (p3 h2).1, ((p3 h2).2.trans (p2 h1).2).trans (p1 c).2⟩
structure OpC (K : PySem.W.Frag) where
  r : List V → Hp → VK → Prop
  f : List U → Option U
  ok : ∀ (H : Hp) (xs : List V) (us : List U) (w : U), RepL K H us xs → f us = some w → ∃ z, scV w = some z ∧ ∀ Q : VK, Q z H → r xs H Q
def mBi (o : OpC K) (a : MA K) : ME K where
  t := fun W => tCB o.r (a.t W)
  m := fun ρ => bindAE (a.m ρ) fun us ρ1 => (o.f us).map fun w => .ok w ρ1
  p := a.p
  k := true
  ok := fun F W ρ σ B H Q out e R f => by
    rcases bindAE_some e with ⟨us, ρ1, e1, e⟩ | ⟨x, ρ1, e1, rfl⟩
    · refine a.ok F W ρ σ B H _ _ e1 R fun vs B1 H1 x1 p1 R1 r1 => ?_
      obtain ⟨w, ew, rfl⟩ := Option.map_eq_some_iff.mp e
      have r2 : RepL K H1 us vs := by
        cases ck : a.k with
        | true => rw [ck] at r1; exact RepL.mono R1.ex _ _ r1
        | false => rw [ck] at r1; exact r1
      obtain ⟨z, hz, q⟩ := o.ok H1 vs us w r2 ew
      exact q _ (f z B1 H1 x1 p1 R1 (by show Rep K B1 w z; exact rep_sc hz))
    · exact a.ok F W ρ σ B H _ _ e1 R fun cls d B1 H1 x1 R1 xr => f cls d B1 H1 x1 R1 xr
theorem repL1 {H : Hp} {u : U} {xs : List V} (r : RepL K H [u] xs) : ∃ v, xs = [v] ∧ Rep K H u v := by
  obtain ⟨v, vr, rfl, h1, h2⟩ := r; cases h2; exact ⟨v, rfl, h1⟩
theorem repL2 {H : Hp} {u w : U} {xs : List V} (r : RepL K H [u, w] xs) : ∃ v x, xs = [v, x] ∧ Rep K H u v ∧ Rep K H w x := by
  obtain ⟨v, vr, rfl, h1, h2⟩ := r
  obtain ⟨x, h3, h4⟩ := repL1 h2
  exact ⟨v, x, by rw [h3], h1, h4⟩
def lenU : U → Option Int
  | .str s => if s.length ≤ 16777216 then some s.length else none
  | u => (seqU u).map fun us => (us.length : Int)
def rLenX (K : PySem.W.Frag) : List V → Hp → VK → Prop := fun xs H Q => ∃ x n, xs = [x] ∧ LenV K x H n ∧ Q (.int n) H
def oLen : OpC K where
  r := rLenX K
  f := fun us => match us with
    | [u] => (lenU u).map .int
    | _ => none
  ok := fun H xs us w r e => by
    split at e
    · rename_i u
      obtain ⟨v, rfl, r1⟩ := repL1 r
      obtain ⟨n, e0, rfl⟩ := Option.map_eq_some_iff.mp e
      unfold lenU at e0
      split at e0
      · rename_i s
        split at e0
        · rename_i h
          cases e0; cases r1
          exact ⟨_, rfl, fun Q q => ⟨_, s.length, rfl, ⟨by rw [PySem.sizeLine_eq]; exact h, rfl⟩, q⟩⟩
        · cases e0
      · obtain ⟨us, e1, rfl⟩ := Option.map_eq_some_iff.mp e0
        obtain ⟨a, vs, rfl, h1, h2⟩ := seqU_ok r1 e1
        refine ⟨_, rfl, fun Q q => ⟨_, vs.length, rfl, ?_, by rw [h2.length]; exact q⟩⟩
        rcases h1 with h1 | h1
        · exact .inl ⟨vs, h1, rfl⟩
        · exact .inr ⟨vs, h1, rfl⟩
    · cases e
def oAbs : OpC K where
  r := fun xs H Q => ∃ i, xs = [.int i] ∧ Q (.int (if i < 0 then -i else i)) H
  f := fun us => match us with
    | [.int i] => some (.int (if i < 0 then -i else i))
    | _ => none
  ok := fun H xs us w r e => by
    split at e
    · obtain ⟨v, rfl, r1⟩ := repL1 r
      cases e; cases r1
      exact ⟨_, rfl, fun Q q => ⟨_, rfl, q⟩⟩
    · cases e
def oMax2 : OpC K where
  r := fun xs H Q => ∃ i j, xs = [.int i, .int j] ∧ Q (.int (if j > i then j else i)) H
  f := fun us => match us with
    | [.int i, .int j] => some (.int (if j > i then j else i))
    | _ => none
  ok := fun H xs us w r e => by
    split at e
    · obtain ⟨v, x, rfl, r1, r2⟩ := repL2 r
      cases e; cases r1; cases r2
      exact ⟨_, rfl, fun Q q => ⟨_, _, rfl, q⟩⟩
    · cases e
def oMin2 : OpC K where
  r := fun xs H Q => ∃ i j, xs = [.int i, .int j] ∧ Q (.int (if j < i then j else i)) H
  f := fun us => match us with
    | [.int i, .int j] => some (.int (if j < i then j else i))
    | _ => none
  ok := fun H xs us w r e => by
    split at e
    · obtain ⟨v, x, rfl, r1, r2⟩ := repL2 r
      cases e; cases r1; cases r2
      exact ⟨_, rfl, fun Q q => ⟨_, _, rfl, q⟩⟩
    · cases e
def intsU : List U → Option (List Int)
  | [] => some []
  | .int i :: us => (intsU us).map fun is => i :: is
  | _ => none
theorem intsU_ok {H : Hp} : ∀ {us : List U} {vs : List V} {is : List Int}, RepL K H us vs → intsU us = some is → vs = is.map V.int
  | [], _, _, r, e => by cases r; cases e; rfl
  | u :: us, _, _, r, e => by
    obtain ⟨v, vr, rfl, h1, h2⟩ := r
    cases u with
    | int i =>
      obtain ⟨is, e1, rfl⟩ := Option.map_eq_some_iff.mp e
      have : v = .int i := h1
      rw [this, intsU_ok h2 e1]; rfl
    | _ => cases e
def blsU : List U → Option (List Bool)
  | [] => some []
  | .bl i :: us => (blsU us).map fun is => i :: is
  | _ => none
theorem blsU_ok {H : Hp} : ∀ {us : List U} {vs : List V} {is : List Bool}, RepL K H us vs → blsU us = some is → vs = is.map V.bl
  | [], _, _, r, e => by cases r; cases e; rfl
  | u :: us, _, _, r, e => by
    obtain ⟨v, vr, rfl, h1, h2⟩ := r
    cases u with
    | bl i =>
      obtain ⟨is, e1, rfl⟩ := Option.map_eq_some_iff.mp e
      have : v = .bl i := h1
      rw [this, blsU_ok h2 e1]; rfl
    | _ => cases e
def oAll : OpC K where
  r := rAll K
  f := fun us => match us with
    | [u] => (lstU u).bind fun xs => (blsU xs).map fun is => .bl (is.all id)
    | _ => none
  ok := fun H xs us w r e => by
    split at e
    · obtain ⟨v, rfl, r1⟩ := repL1 r
      obtain ⟨us, e1, e⟩ := Option.bind_eq_some_iff.mp e
      obtain ⟨is, e2, rfl⟩ := Option.map_eq_some_iff.mp e
      obtain ⟨a, vs, rfl, h1, h2⟩ := lstU_ok r1 e1
      exact ⟨_, rfl, fun Q q => ⟨a, is, rfl, by rw [← blsU_ok h2 e2]; exact h1, q⟩⟩
    · cases e
structure OpF (K : PySem.W.Frag) where
  r : List V → Hp → VK → Prop
  f : List U → Option (List U)
  ok : ∀ (B H : Hp) (xs : List V) (us ws : List U) (Q : VK), Ex B H → RepL K B us xs → f us = some ws → (∀ zs, RepL K B ws zs → ∀ p, H p = none → Q (.ref p) (upd H p (.lst zs))) → r xs H Q
def mBiF (o : OpF K) (a : MA K) (hk : a.k = true := by exact id rfl) : MF K where
  t := fun W => tCB o.r (a.t W)
  m := fun ρ => match a.m ρ with
    | some (.ok us ρ1) => (o.f us).map fun ws => .ok ws ρ1
    | x => x
  p := a.p
  ok := fun F W ρ σ B H Q out e R f => by
    split at e
    · rename_i us ρ1 e1
      obtain ⟨ws, ew, rfl⟩ := Option.map_eq_some_iff.mp e
      refine a.ok F W ρ σ B H _ _ e1 R fun vs B1 H1 x1 p1 R1 r1 => ?_
      rw [hk] at r1
      exact o.ok B1 H1 vs us ws _ R1.ex r1 ew fun zs rz p hp => newF f x1 p1 R1 rz hp
    · rename_i h2
      cases o : a.m ρ with
      | none => rw [o] at e; cases e
      | some x =>
        rw [o] at e; cases e
        cases out with
        | ok us ρ1 => exact absurd o (h2 us ρ1)
        | ex x ρ1 => exact a.ok F W ρ σ B H _ _ o R f
def rListX (K : PySem.W.Frag) : List V → Hp → VK → Prop := fun xs H Q => ∃ p ys, xs = [.ref p] ∧ (SqL K H p ys ∨ SqT K H p ys) ∧ ∀ l, H l = none → Q (.ref l) (upd H l (.lst ys))
def oList : OpF K where
  r := rListX K
  f := fun us => match us with
    | [u] => seqU u
    | _ => none
  ok := fun B H xs us ws Q ex r e f => by
    split at e
    · obtain ⟨v, rfl, r1⟩ := repL1 r
      obtain ⟨a, vs, rfl, h1, h2⟩ := seqU_ok r1 e
      refine ⟨a, vs, rfl, ?_, fun l hl => f vs h2 l hl⟩
      rcases h1 with h1 | h1
      · exact .inl (Ex.l ex h1)
      · exact .inr (Ex.t ex h1)
    · cases e
def insI (x : Int) : List Int → List Int
  | [] => [x]
  | y :: r => if x ≤ y then x :: y :: r else y :: insI x r
def sortI : List Int → List Int
  | [] => []
  | x :: r => insI x (sortI r)
theorem insI_perm (x : Int) : ∀ l, (insI x l).Perm (x :: l)
  | [] => .refl _
  | y :: r => by
    unfold insI
    split
    · exact .refl _
    · exact ((insI_perm x r).cons y).trans (.swap x y r)
theorem sortI_perm : ∀ l, (sortI l).Perm l
  | [] => .refl _
  | x :: r => (insI_perm x (sortI r)).trans ((sortI_perm r).cons x)
theorem insI_sorted (x : Int) : ∀ {l : List Int}, l.Pairwise (· ≤ ·) → (insI x l).Pairwise (· ≤ ·)
  | [], _ => by simp [insI]
  | y :: r, h => by
    unfold insI
    obtain ⟨h1, h2⟩ := List.pairwise_cons.mp h
    split
    · rename_i c
      exact List.pairwise_cons.mpr ⟨fun z hz => by rcases List.mem_cons.mp hz with rfl | hz; exact c; exact Int.le_trans c (h1 z hz), h⟩
    · rename_i c
      refine List.pairwise_cons.mpr ⟨fun z hz => ?_, insI_sorted x h2⟩
      rcases List.mem_cons.mp ((insI_perm x r).mem_iff.mp hz) with rfl | hz
      · omega
      · exact h1 z hz
theorem sortI_sorted : ∀ l, (sortI l).Pairwise (· ≤ ·)
  | [] => .nil
  | x :: r => insI_sorted x (sortI_sorted r)
theorem sortI_uniq : ∀ {l l' : List Int}, l.Perm l' → l.Pairwise (· ≤ ·) → l'.Pairwise (· ≤ ·) → l = l'
  | l, l', p, h, h' => p.eq_of_pairwise (fun a b _ _ h1 h2 => Int.le_antisymm h1 h2) h h'
def oSorted : OpF K where
  r := rSortedI K
  f := fun us => match us with
    | [u] => (lstU u).bind fun xs => (intsU xs).map fun is => (sortI is).map U.int
    | _ => none
  ok := fun B H xs us ws Q ex r e f => by
    split at e
    · obtain ⟨v, rfl, r1⟩ := repL1 r
      obtain ⟨us, e1, e⟩ := Option.bind_eq_some_iff.mp e
      obtain ⟨is, e2, rfl⟩ := Option.map_eq_some_iff.mp e
      obtain ⟨a, vs, rfl, h1, h2⟩ := lstU_ok r1 e1
      refine ⟨a, is, rfl, by rw [← intsU_ok h2 e2]; exact Ex.l ex h1, fun ns' p hp hs hn => ?_⟩
      have : ns' = sortI is := sortI_uniq (hp.trans (sortI_perm is).symm) hs (sortI_sorted is)
      subst this
      refine f _ ?_ p hn
      generalize sortI is = l
      induction l with
      | nil => exact rfl
      | cons x l ih => exact ⟨_, _, rfl, rfl, ih⟩
    · cases e
theorem Itok_list {B : Hp} {us : List U} {a : Addr} {vs : List V} (h : SqL K B a vs) (r : RepL K B us vs) : ItOk K B us (Itl K a) := fun i B1 H1 x1 x2 => by
  have h1 : SqL K H1 a vs := Ex.l x2 (Ex.l x1 h)
  refine ⟨fun hi => ⟨vs, h1, by rw [r.length]; exact hi⟩, fun u hu => ?_⟩
  obtain ⟨v, hv, rv⟩ := r.get hu
  refine ⟨⟨vs, v, h1, hv⟩, fun x H2 hy => ?_⟩
  obtain ⟨rfl, q⟩ := hy
  have := q vs h1
  rw [hv] at this; cases this
  exact ⟨B1, Go.refl x2, Rep.mono x1 _ _ rv⟩
end Sg
set_option Elab.async false
set_option linter.all false
set_option maxRecDepth 100000
set_option maxHeartbeats 4000000
namespace Sg
open PySem L2
variable {K : PySem.W.Frag}
def miList (a : ME K) (hk : a.k = true := by exact id rfl) : MI K where
  t := fun W => iList K (a.t W)
  m := fun ρ => match a.m ρ with
    | some (.ok u ρ1) => (lstU u).map fun us => .ok us ρ1
    | some (.ex e ρ1) => some (.ex e ρ1)
    | none => none
  ok := fun F W ρ σ B H Q out e R f => by
    split at e
    · rename_i u ρ1 e1
      obtain ⟨us, e2, rfl⟩ := Option.map_eq_some_iff.mp e
      refine a.ok F W ρ σ B H _ _ e1 R fun v1 B1 H1 x1 p1 R1 r1 => ?_
      rw [hk] at r1
      obtain ⟨q, vs, rfl, h1, h2⟩ := lstU_ok r1 e2
      exact ⟨q, rfl, ⟨vs, Ex.l R1.ex h1⟩, f _ B1 H1 x1 R1 (Itok_list h1 h2)⟩
    · rename_i x ρ1 e1
      cases e
      exact a.ok F W ρ σ B H _ _ e1 R f
    · cases e
def rangeU (lo : Int) (n : Nat) : List U := (List.range n).map fun i => .int (lo + (i : Nat))
theorem Itok_range {B : Hp} (lo : Int) (n : Nat) : ItOk K B (rangeU lo n) (Itr lo n) := fun i B1 H1 x1 x2 => by
  refine ⟨fun hi => (show n ≤ i from by simpa [rangeU] using hi), fun u hu => ?_⟩
  unfold rangeU at hu
  rw [List.getElem?_map] at hu
  obtain ⟨j, e1, rfl⟩ := Option.map_eq_some_iff.mp hu
  obtain ⟨h1, h2⟩ := List.getElem?_eq_some_iff.mp e1
  have h3 : i < n := by simpa using h1
  have h4 : j = i := by rw [← h2]; simp
  subst h4
  refine ⟨h3, fun x H2 hy => ?_⟩
  obtain ⟨rfl, rfl⟩ := hy
  exact ⟨B1, Go.refl x2, rfl⟩
def rngOk (i j : Int) : Bool := decide (-(2 ^ 62) ≤ i ∧ i < 2 ^ 62 ∧ -(2 ^ 62) ≤ j ∧ j < 2 ^ 62)
def miRng1 (a : ME K) : MI K where
  t := fun W => iRng1 (tCons (a.t W) tNil)
  m := fun ρ => match a.m ρ with
    | some (.ok (.int j) ρ1) => if rngOk 0 j = true then some (.ok (rangeU 0 j.toNat) ρ1) else none
    | some (.ex e ρ1) => some (.ex e ρ1)
    | _ => none
  ok := fun F W ρ σ B H Q out e R f => by
    split at e
    · rename_i j ρ1 e1
      split at e
      · rename_i h
        cases e
        obtain ⟨_, _, h3, h4⟩ := of_decide_eq_true h
        refine a.ok F W ρ σ B H _ _ e1 R fun v1 B1 H1 x1 p1 R1 r1 => ?_
        have r2 : v1 = .int j := rep_up R1 r1
        subst r2
        exact ⟨j, rfl, h3, h4, f _ B1 H1 x1 R1 (Itok_range 0 _)⟩
      · cases e
    · rename_i x ρ1 e1
      cases e
      exact a.ok F W ρ σ B H _ _ e1 R f
    · cases e
def enumU : Nat → List U → List U
  | _, [] => []
  | k, u :: r => .tup [.int (k : Nat), u] :: enumU (k + 1) r
theorem enumU_get : ∀ (us : List U) (k i : Nat), (enumU k us)[i]? = us[i]?.map fun u => .tup [.int ((k + i : Nat) : Nat), u]
  | [], k, i => by simp [enumU]
  | u :: r, k, 0 => by simp [enumU]
  | u :: r, k, i + 1 => by
    have := enumU_get r (k + 1) i
    simp only [enumU, List.getElem?_cons_succ, this]
    rw [show k + 1 + i = k + (i + 1) by omega]
theorem enumU_len : ∀ (us : List U) (k : Nat), (enumU k us).length = us.length
  | [], _ => rfl
  | _ :: r, k => by simp [enumU, enumU_len r]
def zipU : List U → List U → List U
  | u :: r, v :: s => .tup [u, v] :: zipU r s
  | _, _ => []
theorem zipU_get : ∀ (us vs : List U) (i : Nat) (w : U), (zipU us vs)[i]? = some w → ∃ u v, us[i]? = some u ∧ vs[i]? = some v ∧ w = .tup [u, v]
  | [], _, i, w, h => by simp [zipU] at h
  | u :: r, [], i, w, h => by simp [zipU] at h
  | u :: r, v :: s, 0, w, h => by simp [zipU] at h; exact ⟨u, v, rfl, rfl, h.symm⟩
  | u :: r, v :: s, i + 1, w, h => by
    obtain ⟨a, b, h1, h2, h3⟩ := zipU_get r s i w (by simpa [zipU] using h)
    exact ⟨a, b, by simpa using h1, by simpa using h2, h3⟩
theorem zipU_len : ∀ (us vs : List U), (zipU us vs).length = min us.length vs.length
  | [], _ => by simp [zipU]
  | u :: r, [] => by simp [zipU]
  | u :: r, v :: s => by simp [zipU, zipU_len r s]
def miEnum (a : ME K) (hk : a.k = true := by exact id rfl) : MI K where
  t := fun W => iEnum K (tCons (a.t W) tNil)
  m := fun ρ => match a.m ρ with
    | some (.ok u ρ1) => (lstU u).map fun us => .ok (enumU 0 us) ρ1
    | some (.ex e ρ1) => some (.ex e ρ1)
    | none => none
  ok := fun F W ρ σ B H Q out e R f => by
    split at e
    · rename_i u ρ1 e1
      obtain ⟨us, e2, rfl⟩ := Option.map_eq_some_iff.mp e
      refine a.ok F W ρ σ B H _ _ e1 R fun v1 B1 H1 x1 p1 R1 r1 => ?_
      rw [hk] at r1
      obtain ⟨q, vs, rfl, h1, h2⟩ := lstU_ok r1 e2
      refine ⟨q, vs, rfl, Ex.l R1.ex h1, f _ B1 H1 x1 R1 fun i B2 H2 y1 y2 => ?_⟩
      have h3 : SqL K H2 q vs := Ex.l y2 (Ex.l y1 h1)
      refine ⟨fun hi => ⟨vs, h3, by rw [h2.length]; rw [enumU_len] at hi; exact hi⟩, fun w hw => ?_⟩
      rw [enumU_get] at hw
      obtain ⟨u, hu, rfl⟩ := Option.map_eq_some_iff.mp hw
      obtain ⟨v, hv, rv⟩ := h2.get hu
      refine ⟨⟨vs, v, h3, hv⟩, fun x H3 hy => ?_⟩
      obtain ⟨T, x0, rfl, hT, rfl, hx⟩ := hy
      have := hx vs h3
      rw [hv] at this; cases this
      have g := Go.newB (o := .tup [.int ((i : Nat) : Int), v]) y2 hT
      refine ⟨_, g, T, _, rfl, .inl (.inl upd_same), _, _, rfl, ?_, _, _, rfl, Rep.mono g.bb _ _ (Rep.mono y1 _ _ rv), rfl⟩
      show V.int _ = V.int _
      rw [Nat.zero_add]
    · rename_i x ρ1 e1
      cases e
      exact a.ok F W ρ σ B H _ _ e1 R f
    · cases e
def miZip (a b : ME K) (hk : (a.k && b.k) = true := by exact id rfl) : MI K where
  t := fun W => iZip K (tCons (a.t W) (tCons (b.t W) tNil))
  m := fun ρ => match a.m ρ with
    | some (.ok u ρ1) => (match b.m ρ1 with
      | some (.ok v ρ2) => (lstU u).bind fun us => (lstU v).map fun vs => .ok (zipU us vs) ρ2
      | some (.ex e ρ2) => some (.ex e ρ2)
      | none => none)
    | some (.ex e ρ1) => some (.ex e ρ1)
    | none => none
  ok := fun F W ρ σ B H Q out e R f => by
    obtain ⟨ka, kb⟩ := Bool.and_eq_true_iff.mp hk
    split at e
    · rename_i u ρ1 e1
      refine a.ok F W ρ σ B H _ _ e1 R fun v1 B1 H1 x1 p1 R1 r1 => ?_
      rw [ka] at r1
      split at e
      · rename_i v ρ2 e2
        refine b.ok F W ρ1 σ B1 H1 _ _ e2 R1 fun v2 B2 H2 x2 p2 R2 r2 => ?_
        rw [kb] at r2
        obtain ⟨us, e3, e⟩ := Option.bind_eq_some_iff.mp e
        obtain ⟨vs, e4, rfl⟩ := Option.map_eq_some_iff.mp e
        obtain ⟨q, xs, rfl, h1, h2⟩ := lstU_ok (Rep.mono x2 _ _ r1) e3
        obtain ⟨q', ys, rfl, h1', h2'⟩ := lstU_ok r2 e4
        refine ⟨q, q', xs, ys, rfl, Ex.l R2.ex h1, Ex.l R2.ex h1', f _ B2 H2 (x1.trans x2) R2 fun i B3 H3 y1 y2 => ?_⟩
        have h3 : SqL K H3 q xs := Ex.l y2 (Ex.l y1 h1)
        have h3' : SqL K H3 q' ys := Ex.l y2 (Ex.l y1 h1')
        refine ⟨fun hi => ⟨xs, ys, h3, h3', by rw [h2.length, h2'.length]; rw [zipU_len] at hi; omega⟩, fun w hw => ?_⟩
        obtain ⟨u0, w0, hu, hw0, rfl⟩ := zipU_get us vs i w hw
        obtain ⟨v, hv, rv⟩ := h2.get hu
        obtain ⟨v', hv', rv'⟩ := h2'.get hw0
        refine ⟨⟨xs, ys, v, v', h3, h3', hv, hv'⟩, fun x H4 hy => ?_⟩
        obtain ⟨T, x0, y0, rfl, hT, rfl, hx, hy⟩ := hy
        have q1 := hx xs h3
        have q2 := hy ys h3'
        rw [hv] at q1; rw [hv'] at q2; cases q1; cases q2
        have g := Go.newB (o := .tup [v, v']) y2 hT
        exact ⟨_, g, T, _, rfl, .inl (.inl upd_same), _, _, rfl, Rep.mono g.bb _ _ (Rep.mono y1 _ _ rv), _, _, rfl, Rep.mono g.bb _ _ (Rep.mono y1 _ _ rv'), rfl⟩
      · rename_i x ρ2 e2
        cases e
        exact b.ok F W ρ1 σ B1 H1 _ _ e2 R1 fun cls d B2 H2 x2 R2 xr => f cls d B2 H2 (x1.trans x2) R2 xr
      · cases e
    · rename_i x ρ1 e1
      cases e
      exact a.ok F W ρ σ B H _ _ e1 R f
    · cases e
structure OpM (K : PySem.W.Frag) where
  r : V → List V → Hp → VK → Prop
  f : List U → List U → Option (U × List U)
  ok : ∀ (B H : Hp) (p : Addr) (us ws xs : List U) (vs zs : List V) (w : U) (Q : VK), Ex B H → H p = some (.lst vs) → B p = none → RepL K B us vs → RepL K B xs zs → f us xs = some (w, ws) →
    (∀ ys z, RepL K B ws ys → Rep K B w z → Q z (upd H p (.lst ys))) → r (.ref p) zs H Q
theorem tyL {H : Hp} {p : Addr} {vs : List V} (h : H p = some (.lst vs)) : tyV K "list" (.ref p) H := .inl ⟨rfl, vs, SqL.of h⟩
def mMeth (j : Nat) (o : OpM K) (a : MA K) (hk : a.k = true := by exact id rfl) : ME K where
  t := fun W => tBM K "list" o.r (tVar j) (a.t W)
  m := fun ρ => match ρ[j]? with
    | some (.cel _ _) => (match a.m ρ with
      | some (.ok xs ρ1) => (match ρ1[j]? with
        | some (.cel own us) => (o.f us xs).map fun q => .ok q.1 (ρ1.set j (.cel own q.2))
        | _ => none)
      | some (.ex e ρ1) => some (.ex e ρ1)
      | none => none)
    | _ => none
  p := false
  k := true
  ok := fun F W ρ σ B H Q out e R f => by
    split at e
    · rename_i own0 us0 h0
      obtain ⟨p, ws, hv, z1, z2, z3, _⟩ := R.sl j _ h0
      refine ⟨_, getD_some hv, tyL z1, ?_⟩
      split at e
      · rename_i xs ρ1 e1
        refine a.ok F W ρ σ B H _ _ e1 R fun vs B1 H1 x1 p1 R1 r1 => ?_
        rw [hk] at r1
        split at e
        · rename_i own us h1
          obtain ⟨⟨w, ws'⟩, e2, rfl⟩ := Option.map_eq_some_iff.mp e
          obtain ⟨p', ws1, hv', y1, y2, y3, _⟩ := R1.sl j _ h1
          rw [hv] at hv'; cases hv'
          exact o.ok B1 H1 p us ws' xs ws1 vs w _ R1.ex y1 y2 y3 r1 e2 fun ys z ry rz => f z B1 _ x1 (fun z => nomatch z) (R1.wrC h1 hv y1 y2 ry) rz
        · cases e
      · rename_i x ρ1 e1
        cases e
        exact a.ok F W ρ σ B H _ _ e1 R f
      · cases e
    · cases e
def mMeth0 (j : Nat) (o : OpM K) : ME K where
  t := fun _ => tBM0 K "list" o.r (tVar j)
  m := fun ρ => match ρ[j]? with
    | some (.cel own us) => (o.f us []).map fun q => .ok q.1 (ρ.set j (.cel own q.2))
    | _ => none
  p := false
  k := true
  ok := fun F W ρ σ B H Q out e R f => by
    split at e
    · rename_i own us h0
      obtain ⟨p, ws, hv, z1, z2, z3, _⟩ := R.sl j _ h0
      obtain ⟨⟨w, ws'⟩, e2, rfl⟩ := Option.map_eq_some_iff.mp e
      exact ⟨_, getD_some hv, tyL z1, o.ok B H p us ws' [] ws [] w _ R.ex z1 z2 z3 rfl e2 fun ys z ry rz => f z B _ Ex.refl (fun z => nomatch z) (R.wrC h0 hv z1 z2 ry) rz⟩
    · cases e
def oAppend : OpM K where
  r := rAppend
  f := fun us xs => match xs with
    | [x] => if us.length < 16777216 then some (.non, us ++ [x]) else none
    | _ => none
  ok := fun B H p us ws xs vs zs w Q ex h1 h2 h3 h4 e f => by
    split at e
    · split at e
      · rename_i hl
        cases e
        obtain ⟨v, rfl, r1⟩ := repL1 h4
        exact ⟨p, vs, v, rfl, rfl, h1, by rw [h3.length, PySem.sizeLine_eq]; exact hl, f _ _ (h3.append (RepL.one r1)) rfl⟩
      · cases e
    · cases e
def oPopAt : OpM K where
  r := rPopAt
  f := fun us xs => match xs with
    | [.int i] => if -(2 ^ 63) ≤ i ∧ i < 2 ^ 63 then (seqIndex? i us.length).bind fun k => us[k]?.map fun u => (u, us.eraseIdx k) else none
    | _ => none
  ok := fun B H p us ws xs vs zs w Q ex h1 h2 h3 h4 e f => by
    split at e
    · rename_i i
      split at e
      · rename_i hl
        obtain ⟨k, e1, e2⟩ := Option.bind_eq_some_iff.mp e
        obtain ⟨u, e3, e4⟩ := Option.map_eq_some_iff.mp e2
        cases e4
        obtain ⟨v, rfl, r1⟩ := repL1 h4
        obtain ⟨y, hy, ry⟩ := h3.get e3
        have : v = .int i := r1
        subst this
        exact ⟨p, vs, i, k, y, rfl, rfl, h1, hl.1, hl.2, by rw [h3.length]; exact e1, hy, f _ _ (h3.eraseIdx k) ry⟩
      · cases e
    · cases e
def oReverse : OpM K where
  r := rReverse
  f := fun us xs => match xs with
    | [] => some (.non, us.reverse)
    | _ => none
  ok := fun B H p us ws xs vs zs w Q ex h1 h2 h3 h4 e f => by
    split at e
    · cases e
      cases h4
      exact ⟨p, vs, rfl, rfl, h1, f _ _ h3.reverse rfl⟩
    · cases e
def msSet (j : Nat) (i e : ME K) (hk : e.k = true := by exact id rfl) : MS K where
  t := fun W => tAsg (e.t W) (gSub (tVar j) (i.t W) rSetL)
  m := fun ρ => match e.m ρ with
    | none => none
    | some (.ex x ρ1) => some (.ex x ρ1)
    | some (.ok u ρ1) => match ρ1[j]? with
      | some (.cel _ _) => (match i.m ρ1 with
        | none => none
        | some (.ex x ρ2) => some (.ex x ρ2)
        | some (.ok (.int n) ρ2) => (match ρ2[j]? with
          | some (.cel own us) => (ixN us.length n).map fun k => .nx (ρ2.set j (.cel own (us.set k u)))
          | _ => none)
        | _ => none)
      | _ => none
  ok := fun F W ρ σ B H D o q R f => by
    split at q
    · cases q
    · rename_i x ρ1 e1
      cases q
      exact e.ok F W ρ σ B H _ _ e1 R fun cls d B1 H1 x1 R1 xr => f cls d σ B1 H1 x1 R1 xr
    · rename_i u ρ1 e1
      refine e.ok F W ρ σ B H _ _ e1 R fun v1 B1 H1 x1 p1 R1 r1 => ?_
      rw [hk] at r1
      split at q
      · rename_i own0 us0 h0
        obtain ⟨p, ws, hv, z1, z2, z3, _⟩ := R1.sl j _ h0
        refine ⟨_, getD_some hv, ?_⟩
        split at q
        · cases q
        · rename_i x ρ2 e2
          cases q
          exact i.ok F W ρ1 σ B1 H1 _ _ e2 R1 fun cls d B2 H2 x2 R2 xr => f cls d σ B2 H2 (x1.trans x2) R2 xr
        · rename_i n ρ2 e2
          refine i.ok F W ρ1 σ B1 H1 _ _ e2 R1 fun v2 B2 H2 x2 p2 R2 r2 => ?_
          have r3 : v2 = .int n := rep_up R2 r2
          subst r3
          split at q
          · rename_i own us h1
            obtain ⟨k, ek, rfl⟩ := Option.map_eq_some_iff.mp q
            obtain ⟨p', ws1, hv', y1, y2, y3, _⟩ := R2.sl j _ h1
            rw [hv] at hv'; cases hv'
            refine ⟨p, ws1, n, k, rfl, rfl, y1, by rw [y3.length]; exact ek, ?_⟩
            exact f σ B2 _ (x1.trans x2) (R2.wrC h1 hv y1 y2 (RepL.set (Rep.mono x2 _ _ r1) k y3))
          · cases q
        · cases q
      · cases q
def mCat (a b : ME K) (hk : (a.k && b.k) = true := by exact id rfl) : MF K where
  t := fun W => tOp rCat (a.t W) (b.t W)
  m := fun ρ => match a.m ρ with
    | some (.ok (.lst us) ρ1) => (match b.m ρ1 with
      | some (.ok (.lst vs) ρ2) => if us.length + vs.length ≤ 16777216 then some (.ok (us ++ vs) ρ2) else none
      | some (.ex e ρ2) => some (.ex e ρ2)
      | _ => none)
    | some (.ex e ρ1) => some (.ex e ρ1)
    | _ => none
  p := a.p && b.p
  ok := fun F W ρ σ B H Q out e R f => by
    obtain ⟨ka, kb⟩ := Bool.and_eq_true_iff.mp hk
    split at e
    · rename_i us ρ1 e1
      refine a.ok F W ρ σ B H _ _ e1 R fun v1 B1 H1 x1 p1 R1 r1 => ?_
      rw [ka] at r1
      split at e
      · rename_i vs ρ2 e2
        split at e
        · rename_i hl
          cases e
          refine b.ok F W ρ1 σ B1 H1 _ _ e2 R1 fun v2 B2 H2 x2 p2 R2 r2 => ?_
          rw [kb] at r2
          obtain ⟨q, xs, rfl, h1, h2⟩ := Rep.mono x2 _ _ r1
          obtain ⟨q', ys, rfl, h1', h2'⟩ := r2
          refine ⟨q, q', xs, ys, rfl, rfl, R2.ex _ _ h1, R2.ex _ _ h1', by rw [h2.length, h2'.length, PySem.sizeLine_eq]; exact hl, fun z hz => newF f (x1.trans x2) (fun c => ?_) R2 (h2.append h2') hz⟩
          obtain ⟨c1, c2⟩ := Bool.and_eq_true_iff.mp c
          exact ⟨(p1 c1).1.trans (p2 c2).1, (p2 c2).2.trans (p1 c1).2⟩
        · cases e
      · rename_i x ρ2 e2
        cases e
        exact b.ok F W ρ1 σ B1 H1 _ _ e2 R1 fun cls d B2 H2 x2 R2 xr => f cls d B2 H2 (x1.trans x2) R2 xr
      · cases e
    · rename_i x ρ1 e1
      cases e
      exact a.ok F W ρ σ B H _ _ e1 R f
    · cases e
end Sg
set_option Elab.async false
set_option linter.all false
set_option maxRecDepth 100000
set_option maxHeartbeats 4000000
namespace Sg
open PySem L2
structure Cal (P : Program) (w : World) (K : PySem.W.Frag) (mg : Str → Option Value) (base : Heap) (CX : CXT) (k : Nat) (x : Str) (n : Nat) (mf : List Slot → Option CO) : Prop where
  mg_ : mg x = some (.ref (He.ga K x))
  kp : PySem.W.keepIn K (.ref (He.ga K x)) = true
  ok : ∃ fd ps, FnOk P w K mg base CX k (He.ga K x) fd ps (spM K n mf) ∧ Binds K fd ps []
section
variable {X : Cx} {pos p : Pos} {x : Str} {e : Expr} {es : List Expr} {t : TA} {k n : Nat} {mf : List Slot → Option CO} {W : WX}
theorem pcal0 (c : Cal X.prog X.w X.K X.mg X.base CX0 k x n mf) (hr : Room k X.A) (ha : PA X (e :: es) t) (hg : Gl X x := by rfl) (hdb : (x == ("__debug__" : Str)) = false := by decide)
    (he : starEach (e :: es) X.env = (false, eval e X.env) :: starEach es X.env := by rfl) (hpl : (backTo pos (starEach es X.env)).any (·.1) = false := by rfl) :
    PE X (.Call (.Name x p) (e :: es) [] pos) (tCallS (spM X.K n mf) (WE W) t) := by
  obtain ⟨fd, ps, F, b⟩ := c.ok
  exact pe_callS F hr hg c.mg_ c.kp b (fun _ _ _ _ _ _ _ h => h.elim) ha hdb he hpl
theorem pcalX (c : Cal X.prog X.w X.K X.mg X.base (L2.CX X.prog X.w) k x n mf) (hr : Room k X.A) (tk : Takes X W) (ha : PA X (e :: es) t) (hg : Gl X x := by rfl) (hdb : (x == ("__debug__" : Str)) = false := by decide)
    (he : starEach (e :: es) X.env = (false, eval e X.env) :: starEach es X.env := by rfl) (hpl : (backTo pos (starEach es X.env)).any (·.1) = false := by rfl) :
    PE X (.Call (.Name x p) (e :: es) [] pos) (tCallS (spM X.K n mf) (WE W) t) := by
  obtain ⟨fd, ps, F, b⟩ := c.ok
  exact pe_callS F hr hg c.mg_ c.kp b (fun σ => passAt tk σ) ha hdb he hpl
end
variable {K : PySem.W.Frag}
def fS (g : Str → Str → Option U) : U → U → Option U
  | .str i, .str j => g i j
  | _, _ => none
theorem fS_some {g : Str → Str → Option U} {u v w : U} (h : fS g u v = some w) : ∃ i j, u = .str i ∧ v = .str j ∧ g i j = some w := by
  unfold fS at h
  split at h
  · exact ⟨_, _, rfl, rfl, h⟩
  · cases h
def oEqS : Op2 K where
  r := rEq
  f := fS fun i j => some (.bl (decide (i = j)))
  ok := fun H x y u v w ru rv e => by
    obtain ⟨i, j, rfl, rfl, e2⟩ := fS_some e
    cases e2; cases ru; cases rv
    refine ⟨_, rfl, fun Q q => ⟨rfl, ?_⟩⟩
    have : decide (V.str i = V.str j) = decide (i = j) := by simp
    rw [this]; exact q
def oNeS : Op2 K where
  r := rNe
  f := fS fun i j => some (.bl (!decide (i = j)))
  ok := fun H x y u v w ru rv e => by
    obtain ⟨i, j, rfl, rfl, e2⟩ := fS_some e
    cases e2; cases ru; cases rv
    refine ⟨_, rfl, fun Q q => ⟨rfl, ?_⟩⟩
    have : decide (V.str i = V.str j) = decide (i = j) := by simp
    rw [this]; exact q
def mChain (o o' : Op2 K) (a b c : ME K) (h1 : (a.k || b.p) = true := by exact id rfl) (h2 : (b.k || c.p) = true := by exact id rfl) : ME K where
  t := fun W => tChain o.r o'.r (a.t W) (b.t W) (c.t W)
  m := fun ρ => bindE (a.m ρ) fun u ρ1 => bindE (b.m ρ1) fun v ρ2 => match o.f u v with
    | some (.bl true) => bindE (c.m ρ2) fun w ρ3 => (o'.f v w).bind fun z => match z with
      | .bl d => some (.ok (.bl d) ρ3)
      | _ => none
    | some (.bl false) => some (.ok (.bl false) ρ2)
    | _ => none
  p := a.p && (b.p && c.p)
  k := true
  ok := fun F W ρ σ B H Q out e R f => by
    rcases bindE_some e with ⟨u, ρ1, e1, e⟩ | ⟨x, ρ1, e1, rfl⟩
    · refine a.ok F W ρ σ B H _ _ e1 R fun v1 B1 H1 x1 p1 R1 r1 => ?_
      rcases bindE_some e with ⟨v, ρ2, e2, e⟩ | ⟨x, ρ2, e2, rfl⟩
      · refine b.ok F W ρ1 σ B1 H1 _ _ e2 R1 fun v2 B2 H2 x2 p2 R2' r2 => ?_
        have r1' : Rep K H2 u v1 := by
          rcases Bool.or_eq_true_iff.mp h1 with c | c
          · rw [c] at r1
            exact Rep.mono R2'.ex _ _ (Rep.mono x2 _ _ r1)
          · exact Rep.mono (p2 c).1 _ _ (rep_up R1 r1)
        split at e
        · rename_i eo
          obtain ⟨z, hz, q⟩ := o.ok H2 v1 v2 u v _ r1' (rep_up R2' r2) eo
          cases hz
          refine q _ ⟨true, rfl, ?_⟩
          rw [if_pos rfl]
          rcases bindE_some e with ⟨w, ρ3, e3, e⟩ | ⟨x, ρ3, e3, rfl⟩
          · refine c.ok F W ρ2 σ B2 H2 _ _ e3 R2' fun v3 B3 H3 x3 p3 R3 r3 => ?_
            obtain ⟨z, ez, e⟩ := Option.bind_eq_some_iff.mp e
            have r2' : Rep K H3 v v2 := by
              rcases Bool.or_eq_true_iff.mp h2 with c | c
              · rw [c] at r2
                exact Rep.mono R3.ex _ _ (Rep.mono x3 _ _ r2)
              · exact Rep.mono (p3 c).1 _ _ (rep_up R2' r2)
            obtain ⟨z', hz', q'⟩ := o'.ok H3 v2 v3 v w z r2' (rep_up R3 r3) ez
            split at e
            · cases e; cases hz'
              refine q' _ (f _ B3 H3 ((x1.trans x2).trans x3) (fun c => ?_) R3 rfl)
              obtain ⟨c1, c2⟩ := Bool.and_eq_true_iff.mp c
              obtain ⟨c2, c3⟩ := Bool.and_eq_true_iff.mp c2
              exact ⟨((p1 c1).1.trans (p2 c2).1).trans (p3 c3).1, ((p3 c3).2.trans (p2 c2).2).trans (p1 c1).2⟩
            · cases e
          · exact c.ok F W ρ2 σ B2 H2 _ _ e3 R2' fun cls d B3 H3 x3 R3 xr => f cls d B3 H3 ((x1.trans x2).trans x3) R3 xr
        · rename_i eo
          cases e
          obtain ⟨z, hz, q⟩ := o.ok H2 v1 v2 u v _ r1' (rep_up R2' r2) eo
          cases hz
          refine q _ ⟨false, rfl, ?_⟩
          rw [if_neg (by decide)]
          refine f _ B2 H2 (x1.trans x2) (fun c => ?_) R2' rfl
          obtain ⟨c1, c2⟩ := Bool.and_eq_true_iff.mp c
          obtain ⟨c2, c3⟩ := Bool.and_eq_true_iff.mp c2
          exact ⟨(p1 c1).1.trans (p2 c2).1, (p2 c2).2.trans (p1 c1).2⟩
        · cases e
      · exact b.ok F W ρ1 σ B1 H1 _ _ e2 R1 fun cls d B2 H2 x2 R2' xr => f cls d B2 H2 (x1.trans x2) R2' xr
    · exact a.ok F W ρ σ B H _ _ e1 R fun cls d B1 H1 x1 R1 xr => f cls d B1 H1 x1 R1 xr
def tyU : U → Option String
  | .non => some "NoneType"
  | .bl _ => some "bool"
  | .int _ => some "int"
  | .str _ => some "str"
  | .lst _ => some "list"
  | .tup _ => some "tuple"
  | .dic _ => some "dict"
  | _ => none
theorem tyU_ok {H : Hp} {u : U} {v : V} {n : String} (r : Rep K H u v) (e : tyU u = some n) : TyX K H v (.type n) := by
  cases u with
  | non => cases e; cases r; exact .base .non
  | bl b => cases e; cases r; exact .base (.bl b)
  | int b => cases e; cases r; exact .base (.int b)
  | str b => cases e; cases r; exact .base (.str b)
  | lst us => cases e; obtain ⟨a, vs, rfl, h1, _⟩ := r; exact .base (.lst h1)
  | tup us =>
    cases e
    obtain ⟨a, vs, rfl, h1, _⟩ := r
    rcases h1 with (h1 | ⟨o, h1⟩) | ⟨o, its, n, hk, hc, _⟩
    · exact .base (.tup h1)
    · exact .fTuple h1
    · exact .kTuple hk hc
  | dic us =>
    cases e
    obtain ⟨a, vs, rfl, h1, _⟩ := r
    rcases h1 with h1 | ⟨o, h1⟩
    · exact .base (.dK h1)
    · exact .fDict h1
  | _ => cases e
def isiB (a b : String) : Option Bool :=
  if a = b then some true else if b = "int" then (if a = "bool" then some true else if a ∈ ["NoneType", "str", "list", "tuple", "dict"] then some false else none)
  else if b ∈ ["bool", "str", "list", "tuple", "dict"] then (if a ∈ ["NoneType", "bool", "int", "str", "list", "tuple", "dict"] then some false else none) else none
theorem isiB_ok {a b : String} {r : Bool} (h : isiB a b = some r) : kitB a b = some r := by
  unfold isiB at h
  split at h
  · rename_i e
    subst e; cases h
    unfold kitB
    rw [if_pos (by simp)]
  · split at h
    · rename_i eb
      subst eb
      split at h
      · rename_i ea; subst ea; cases h; decide +kernel
      · split at h
        · rename_i hm
          cases h
          simp only [List.mem_cons, List.not_mem_nil, or_false] at hm
          rcases hm with rfl | rfl | rfl | rfl | rfl <;> decide +kernel
        · cases h
    · split at h
      · rename_i hb
        split at h
        · rename_i ha
          cases h
          simp only [List.mem_cons, List.not_mem_nil, or_false] at ha hb
          rcases hb with rfl | rfl | rfl | rfl | rfl <;> rcases ha with rfl | rfl | rfl | rfl | rfl | rfl | rfl <;> first | decide +kernel | contradiction
        · cases h
      · cases h
def mIsi (n : String) (a : ME K) : ME K where
  t := fun W => tCB (rIsi K) (tCons (a.t W) (tCons (tC (.ty n)) tNil))
  m := fun ρ => bindE (a.m ρ) fun u ρ1 => (tyU u).bind fun s => (isiB s n).map fun b => .ok (.bl b) ρ1
  p := a.p
  k := true
  ok := fun F W ρ σ B H Q out e R f => by
    rcases bindE_some e with ⟨u, ρ1, e1, e⟩ | ⟨x, ρ1, e1, rfl⟩
    · refine a.ok F W ρ σ B H _ _ e1 R fun v1 B1 H1 x1 p1 R1 r1 => ?_
      obtain ⟨s, es, e⟩ := Option.bind_eq_some_iff.mp e
      obtain ⟨b, eb, rfl⟩ := Option.map_eq_some_iff.mp e
      exact ⟨v1, .ty n, .type s, .type n, b, rfl, .ty n, tyU_ok (rep_up R1 r1) es, kit_ty (isiB_ok eb), f (.bl b) B1 H1 x1 p1 R1 rfl⟩
    · exact a.ok F W ρ σ B H _ _ e1 R fun cls d B1 H1 x1 R1 xr => f cls d B1 H1 x1 R1 xr
end Sg
set_option Elab.async false
set_option linter.all false
set_option maxRecDepth 100000
set_option maxHeartbeats 4000000
namespace Sg
open PySem L2
section
variable {X : Cx} {pos : Pos} {x : Str}
theorem pglI {i : Int} (h : ∃ t, X.mg x = some (.int i t)) (hg : Gl X x := by rfl) (hd : (x == ("__debug__" : Str)) = false := by decide) : PE X (.Name x pos) (tC (.int i)) := by
  obtain ⟨t, e⟩ := h
  exact pe_glob hg e ⟨t, rfl⟩ hd
theorem pglS {z : Str} (h : ∃ t, X.mg x = some (.str z t)) (hg : Gl X x := by rfl) (hd : (x == ("__debug__" : Str)) = false := by decide) : PE X (.Name x pos) (tC (.str z)) := by
  obtain ⟨t, e⟩ := h
  exact pe_glob hg e ⟨t, rfl⟩ hd
end
variable {K : PySem.W.Frag}
def rgLok (i j : Int) : Bool := decide (-(2 ^ 62) ≤ i ∧ i < 2 ^ 62 ∧ -(2 ^ 62) ≤ j ∧ j < 2 ^ 62 ∧ (j - i).toNat ≤ 2 ^ 24)
theorem rgU_rep {B : Hp} (i j : Int) : RepL K B (rangeU i (j - i).toNat) (rgV i j) := by
  unfold rangeU rgV
  generalize (j - i).toNat = n
  have : ∀ l : List Nat, RepL K B (l.map fun k => U.int (i + (k : Nat))) (l.map fun k => V.int (i + (k : Nat))) := by
    intro l
    induction l with
    | nil => exact rfl
    | cons x l ih => exact ⟨_, _, rfl, rfl, ih⟩
  exact this _
def mListRng (a b : ME K) : MF K where
  t := fun W => tLstRg (tRg2 (a.t W) (b.t W))
  m := fun ρ => match a.m ρ with
    | some (.ok (.int i) ρ1) => (match b.m ρ1 with
      | some (.ok (.int j) ρ2) => if rgLok i j = true then some (.ok (rangeU i (j - i).toNat) ρ2) else none
      | some (.ex e ρ2) => some (.ex e ρ2)
      | _ => none)
    | some (.ex e ρ1) => some (.ex e ρ1)
    | _ => none
  p := a.p && b.p
  ok := fun F W ρ σ B H Q out e R f => by
    split at e
    · rename_i i ρ1 e1
      refine a.ok F W ρ σ B H _ _ e1 R fun v1 B1 H1 x1 p1 R1 r1 => ?_
      have r2 : v1 = .int i := rep_up R1 r1
      subst r2
      split at e
      · rename_i j ρ2 e2
        split at e
        · rename_i h
          cases e
          refine b.ok F W ρ1 σ B1 H1 _ _ e2 R1 fun v2 B2 H2 x2 p2 R2 r2 => ?_
          have r3 : v2 = .int j := rep_up R2 r2
          subst r3
          refine ⟨i, j, rfl, rfl, (by have h' := of_decide_eq_true (show decide _ = true from h); exact h'), fun q hq => newF f (x1.trans x2) (fun c => ?_) R2 (rgU_rep i j) hq⟩
          obtain ⟨c1, c2⟩ := Bool.and_eq_true_iff.mp c
          exact ⟨(p1 c1).1.trans (p2 c2).1, (p2 c2).2.trans (p1 c1).2⟩
        · cases e
      · rename_i x ρ2 e2
        cases e
        exact b.ok F W ρ1 σ B1 H1 _ _ e2 R1 fun cls d B2 H2 x2 R2 xr => f cls d B2 H2 (x1.trans x2) R2 xr
      · cases e
    · rename_i x ρ1 e1
      cases e
      exact a.ok F W ρ σ B H _ _ e1 R f
    · cases e
section
variable {X : Cx} {pos p2 p3 p4 : Pos} {a b : Expr} {ta tb : TE}
theorem pe_listRng2 (hl : X.mg "list" = none) (hm : X.mg "range" = none) (ha : PE X a ta) (hb : PE X b tb) (hc : X.calm = true := by rfl) (hg : Gl X "list" := by rfl) (hg2 : Gl X "range" := by rfl)
    (na : starEach [a, b] X.env = (false, eval a X.env) :: starEach [b] X.env := by rfl)
    (nb : starEach [b] X.env = (false, eval b X.env) :: starEach [] X.env := by rfl) (hp : (backTo p2 (starEach [b] X.env)).any (·.1) = false := by rfl) :
    PE X (.Call (.Name "list" p3) [.Call (.Name "range" p4) [a, b] [] p2] [] pos) (tLstRg (tRg2 ta tb)) :=
  pe_listRg hc hg hl (prg_2 hg2 hm ha hb na nb hp)
end
def callMF (mf : List Slot → Option CO) (a : Option CA) : Option AO :=
  match a with
  | none => none
  | some (.ex e ρ) => some (.ex e ρ)
  | some (.ok is ρ) => match resolve ρ is with
    | none => none
    | some as => if nCel as ≤ 1 then match mf as with
      | some (.cel us c) => (putJ ρ (celJ is) c).map fun ρ' => .ok us ρ'
      | some (.ex e c) => (putJ ρ (celJ is) c).map fun ρ' => .ex e ρ'
      | _ => none
    else none
def mCallF (n : Nat) (mf : List Slot → Option CO) (a : MC K) (hk : a.k = true := by exact id rfl) : MF K where
  t := fun W => tCallS (spM K n mf) (WE W) (a.t W)
  m := fun ρ => (a.m ρ).bind fun o => match o with
    | .ok is _ => if is.length = n then callMF mf (some o) else none
    | _ => callMF mf (some o)
  p := false
  ok := fun F W ρ σ B H Q out e R f => by
    obtain ⟨o, e1, e⟩ := Option.bind_eq_some_iff.mp e
    cases o with
    | ex x ρ1 => cases e; exact a.ok F W ρ σ B H _ _ e1 R fun cls d B1 H1 x1 R1 xr => f cls d B1 H1 x1 R1 xr
    | ok is ρ1 =>
      refine a.ok F W ρ σ B H _ _ e1 R fun vs B1 H1 x1 p1 R1 r1 => ?_
      rw [hk] at r1
      have e' : (if is.length = n then callMF mf (some (.ok is ρ1)) else none) = some out := e
      split at e'
      · rename_i hn
        unfold callMF at e'
        split at e'
        · cases e'
        · rename_i h; cases h
        · rename_i is' ρ1' h
          cases h
          split at e'
          · cases e'
          · rename_i as ea
            obtain ⟨q1, q2, q3⟩ := resolve_ok R1 r1 ea
            split at e'
            · rename_i n1
              have q3 := q3 n1
              split at e'
              · rename_i us c em
                obtain ⟨ρ', ep, rfl⟩ := Option.map_eq_some_iff.mp e'
                refine ⟨B1, as, _, R1.ex, q2.trans hn, q1, n1, em, fun q ws B' H' g cc h1 h2 h3 hq r => ?_⟩
                exact f q ws B' H' (x1.trans g.bb) (fun z => nomatch z) (after_call R1 g q3 cc ep) h1 h2 (R1.fresh0 h3) (put_cells R1 g q3 h3 ep) (fun o ho => by rw [(R1.xx _ _ ho).1] at h3; cases h3) r
              · rename_i x c em
                obtain ⟨ρ', ep, rfl⟩ := Option.map_eq_some_iff.mp e'
                exact ⟨B1, as, _, R1.ex, q2.trans hn, q1, n1, em, fun cls d B' H' g cc xr => f cls d B' H' (x1.trans g.bb) (after_call R1 g q3 cc ep) (XRel.up R1 xr)⟩
              · cases e'
            · cases e'
      · cases e'
theorem Rel.pushX {F : Fc} {ρ : Env} {σ : St} {B H : Hp} {q : Addr} {o : HO} (R : Rel K F ρ σ B H) (h1 : H q = some o) (h2 : B q = none) (h3 : F.H0 q = none) (h4 : ∀ (j : Nat) s, ρ[j]? = some s → q ∉ s.ow H (σ.getD j none)) (h5 : ∀ o, (q, o) ∉ F.X) : Rel K (F.push q o) ρ σ B H :=
  ⟨R.len, R.ex, R.sl, R.ds, R.bb, R.hh, R.th, R.nw, fun a u e => by
    rcases List.mem_cons.mp e with e | e
    · cases e; exact ⟨h1, h2, h3⟩
    · exact R.xx a u e, fun a u e j s es => by
    rcases List.mem_cons.mp e with e | e
    · cases e; exact h4 j s es
    · exact R.xs a u e j s es, by
    show ((q, o) :: F.X |>.map (·.1)).Nodup
    rw [List.map_cons, List.nodup_cons]
    refine ⟨fun hm => ?_, R.xd⟩
    obtain ⟨⟨a, u⟩, hu, e⟩ := List.mem_map.mp hm
    have e' : a = q := e
    rw [e'] at hu
    exact h5 u hu, R.ln⟩
def msParVV (i j : Nat) (a b : ME K) (ha : a.k = true := by exact id rfl) (hb : b.k = true := by exact id rfl) : MS K where
  t := fun W => tPar i j (tCons (a.t W) (tCons (b.t W) tNil))
  m := fun ρ => bindES (a.m ρ) fun u ρ1 => bindES (b.m ρ1) fun v ρ2 => some (.nx ((ρ2.set i (.val u)).set j (.val v)))
  ok := fun F W ρ σ B H D o q R f => by
    rcases bindES_some q with ⟨u, ρ1, e1, q⟩ | ⟨x, ρ1, e1, rfl⟩
    · refine a.ok F W ρ σ B H _ _ e1 R fun v1 B1 H1 x1 p1 R1 r1 => ?_
      rw [ha] at r1
      rcases bindES_some q with ⟨v, ρ2, e2, q⟩ | ⟨x, ρ2, e2, rfl⟩
      · cases q
        refine b.ok F W ρ1 σ B1 H1 _ _ e2 R1 fun v2 B2 H2 x2 p2 R2 r2 => ?_
        rw [hb] at r2
        exact ⟨v1, v2, rfl, f _ B2 H2 (x1.trans x2) ((R2.setV (Rep.mono x2 _ _ r1)).setV r2)⟩
      · exact b.ok F W ρ1 σ B1 H1 _ _ e2 R1 fun cls d B2 H2 x2 R2 xr => f cls d σ B2 H2 (x1.trans x2) R2 xr
    · exact a.ok F W ρ σ B H _ _ e1 R fun cls d B1 H1 x1 R1 xr => f cls d σ B1 H1 x1 R1 xr
def msParFV (i j : Nat) (a : MF K) (b : ME K) (hij : (i != j) = true := by exact id rfl) (hb : b.k = true := by exact id rfl) : MS K where
  t := fun W => tPar i j (tCons (a.t W) (tCons (b.t W) tNil))
  m := fun ρ => bindAS (a.m ρ) fun us ρ1 => match b.m ρ1 with
    | some (.ok v ρ2) => some (.nx ((ρ2.set i (.cel true us)).set j (.val v)))
    | some (.ex e ρ2) => some (.ex e ρ2)
    | none => none
  ok := fun F W ρ σ B H D o q R f => by
    rcases bindAS_some q with ⟨us, ρ1, e1, q⟩ | ⟨x, ρ1, e1, rfl⟩
    · refine a.ok F W ρ σ B H _ _ e1 R fun p ws B1 H1 x1 p1 R1 h1 h2 h3 h4 h5 r1 => ?_
      have R1' := R1.pushX h1 h2 h3 h4 h5
      split at q
      · rename_i v ρ2 e2
        cases q
        refine b.ok _ W ρ1 σ B1 H1 _ _ e2 R1' fun v2 B2 H2 x2 p2 R2 r2 => ?_
        rw [hb] at r2
        obtain ⟨y1, y2, y3⟩ := R2.getX
        have y4 := R2.xs p _ List.mem_cons_self
        have y5 := R2.notX
        exact ⟨.ref p, v2, rfl, f _ B2 H2 (x1.trans x2) ((R2.popX.setC y1 y2 (RepL.mono x2 _ _ r1) y3 y4 y5).setV r2)⟩
      · rename_i x ρ2 e2
        cases q
        exact b.ok _ W ρ1 σ B1 H1 _ _ e2 R1' fun cls d B2 H2 x2 R2 xr => f cls d σ B2 H2 (x1.trans x2) R2.popX (XRel.sub rfl (by first | exact fun _ h => h | exact fun _ h => List.mem_cons_of_mem _ h) (XRel.pop (XRel.sub rfl (by first | exact fun _ h => h | exact fun _ h => List.mem_cons_of_mem _ h) xr)))
      · cases q
    · exact a.ok F W ρ σ B H _ _ e1 R fun cls d B1 H1 x1 R1 xr => f cls d σ B1 H1 x1 R1 xr
end Sg
set_option Elab.async false
set_option linter.all false
set_option maxRecDepth 100000
set_option maxHeartbeats 4000000
namespace Sg
open PySem L2
section
variable {X : Cx} {W : WX} {pos p2 p3 p4 : Pos} {e a b c : Expr} {es : List Expr} {A B C : ME X.K} {j : Nat} {x : Str}
theorem dI {i : Int} {h} : PE X (.Constant (.int i) j pos) ((mC (K := X.K) (.int i) (.int i) h).t W) := pe_int
theorem dB {i : Bool} {h} : PE X (.Constant (.bool i) j pos) ((mC (K := X.K) (.bl i) (.bl i) h).t W) := pe_bl
theorem dN {h} : PE X (.Constant .none j pos) ((mC (K := X.K) .non .non h).t W) := pe_non
theorem dS {i : Str} {h} : PE X (.Constant (.str i) j pos) ((mC (K := X.K) (.str i) (.str i) h).t W) := pe_str
theorem dGI {i : Int} {h} (q : ∃ t, X.mg x = some (.int i t)) (hg : Gl X x := by rfl) (hd : (x == ("__debug__" : Str)) = false := by decide) : PE X (.Name x pos) ((mC (K := X.K) (.int i) (.int i) h).t W) := pglI q hg hd
theorem dGS {i : Str} {h} (q : ∃ t, X.mg x = some (.str i t)) (hg : Gl X x := by rfl) (hd : (x == ("__debug__" : Str)) = false := by decide) : PE X (.Name x pos) ((mC (K := X.K) (.str i) (.str i) h).t W) := pglS q hg hd
theorem dV {i : Nat} (hN : X.N[i]? = some x := by rfl) (hv : Vis X.env.scope x := by first | exact Or.inl rfl | exact Or.inr (Or.inl rfl) | exact Or.inr (Or.inr rfl)) (hd : (x == ("__debug__" : Str)) = false := by decide)
    (hcd : (x == ("__classdict__" : Str)) = false := by decide) : PE X (.Name x pos) ((mVar (K := X.K) i).t W) := pe_var hN hv hd hcd
theorem dLk {i : Nat} (hN : X.N[i]? = some x := by rfl) (hv : Vis X.env.scope x := by first | exact Or.inl rfl | exact Or.inr (Or.inl rfl) | exact Or.inr (Or.inr rfl)) (hd : (x == ("__debug__" : Str)) = false := by decide)
    (hcd : (x == ("__classdict__" : Str)) = false := by decide) : PE X (.Name x pos) ((mLook (K := X.K) i).t W) := pe_var hN hv hd hcd
theorem dLt {i : Nat} (hN : X.N[i]? = some x := by rfl) (hv : Vis X.env.scope x := by first | exact Or.inl rfl | exact Or.inr (Or.inl rfl) | exact Or.inr (Or.inr rfl)) (hd : (x == ("__debug__" : Str)) = false := by decide)
    (hcd : (x == ("__classdict__" : Str)) = false := by decide) : PE X (.Name x pos) ((mLet (K := X.K) i).t W) := pe_var hN hv hd hcd
theorem dop {op : Operator} {o : Op2 X.K} {h} (ho : OpR X (binaryOp op) o.r) (ha : PE X a (A.t W)) (hb : PE X b (B.t W)) : PE X (.BinOp a op b pos) ((mOp o A B h).t W) := pe_op ho ha hb
theorem dcm {op : CmpOp} {o : Op2 X.K} {h} (ho : OpR X (compareOp op) o.r) (ha : PE X a (A.t W)) (hb : PE X b (B.t W)) (hm : behindInMarks op b = false := by first | exact nomark _ | rfl) : PE X (.Compare a [op] [b] pos) ((mOp o A B h).t W) := pe_cmpR ho ha hb hm
theorem tcm {op : CmpOp} {o : Op2 X.K} {h} (ho : OpR X (compareOp op) o.r) (ha : PE X a (A.t W)) (hb : PE X b (B.t W)) (hm : behindInMarks op b = false := by first | exact nomark _ | rfl) : PT X (.Compare a [op] [b] pos) ((mTest (mOp o A B h)).t W) := pt_cmpR ho ha hb hm
theorem tch {op op' : CmpOp} {o o' : Op2 X.K} {h h'} (ho : OpR X (compareOp op) o.r) (ho' : OpR X (compareOp op') o'.r) (ha : PE X a (A.t W)) (hb : PE X b (B.t W)) (hc : PE X c (C.t W)) (hm : lastMarks [op, op'] [b, c] = false := by with_unfolding_all rfl) : PT X (.Compare a [op, op'] [b, c] pos) ((mTest (mChain o o' A B C h h')).t W) := pt_chain ho ho' ha hb hc hm
theorem dneg (ha : PE X a (A.t W)) : PE X (.UnaryOp .USub a pos) ((mUn oNeg A).t W) := show PE X _ (tUn (oNeg (K := X.K)).r (A.t W)) from pe_un un_neg ha
theorem dix {h} (ha : PE X a (A.t W)) (hb : PE X b (B.t W)) (hs : PlainIx b := by exact fun _ _ => rfl) : PE X (.Subscript a b pos) ((mIx oIx A B h).t W) := pe_ix ix_seq ha hb hs
theorem dsc (ha : PE X a (A.t W)) : PE X a ((mSc A).t W) := ha
theorem dfr {M : MF X.K} (ha : PE X a (M.t W)) : PE X a ((mFr M).t W) := ha
theorem dnil : PA X [] ((mNil (K := X.K)).t W) := pa_nil
theorem dcons {L : MA X.K} {h} (ha : PE X e (A.t W)) (hr : PA X es (L.t W)) (hs : starEach (e :: es) X.env = (false, eval e X.env) :: starEach es X.env := by rfl) : PA X (e :: es) ((mCons A L h).t W) := pa_cons ha hr hs
theorem dtup {L : MA X.K} {h x1} (ha : PA X es (L.t W)) : PE X (.Tuple es x1 pos) ((mTup L h).t W) := pe_tup ha
theorem dlst {L : MA X.K} {h} (ha : PA X es (L.t W)) : PE X (.List es pos) ((mLst L h).t W) := pe_lst ha
theorem dand {rest : List Expr} (ha : PE X a (A.t W)) (hb : PE X (.BoolOp .And (b :: rest) pos) (B.t W)) : PE X (.BoolOp .And (a :: b :: rest) pos) ((mAndV A B).t W) := pe_and ha hb
theorem done {op} (ha : PE X a (A.t W)) : PE X (.BoolOp op [a] pos) (A.t W) := pe_one ha
theorem dnot (ha : PE X a (A.t W)) : PE X (.UnaryOp .Not a pos) ((mNotV A).t W) := pe_not ha
theorem dif {T : MT X.K} (hc : PT X c (T.t W)) (ha : PE X a (A.t W)) (hb : PE X b (B.t W)) : PE X (.IfExp c a b pos) ((mIf T A B).t W) := pe_ifExp hc ha hb
theorem onone : PO X none ((moNone (K := X.K)).t W) := po_none
theorem osome (ha : PE X a (A.t W)) : PO X (some a) ((moSome A).t W) := po_some ha
theorem dsl {lo hi : Option Expr} {L U : MO X.K} {h h1 h2} (ha : PE X a (A.t W)) (hl : PO X lo (L.t W)) (hu : PO X hi (U.t W)) : PE X (.Subscript a (.Slice lo hi none p2) pos) ((mSlL A L U h h1 h2).t W) := pe_slice sl_list ha hl hu
theorem dcat {h} (ha : PE X a (A.t W)) (hb : PE X b (B.t W)) : PE X (.BinOp a .Add b pos) ((mCat A B h).t W) := pe_op op_cat ha hb
theorem dbiB {o : OpC X.K} {L : MA X.K} {id : String} (hc : CallR X (.builtin id) o.r) (hm : X.mg x = none) (ha : PA X (e :: es) (L.t W)) (hv : bootBuiltins x = some (.builtin id) := by decide +kernel) (hg : Gl X x := by rfl) (hn : x ≠ "__name__" := by decide) (hdb : (x == ("__debug__" : Str)) = false := by decide)
    (he : starEach (e :: es) X.env = (false, eval e X.env) :: starEach es X.env := by rfl) (hpl : (backTo pos (starEach es X.env)).any (·.1) = false := by rfl) : PE X (.Call (.Name x p2) (e :: es) [] pos) ((mBi o L).t W) := pe_callB hc hg hm hv ha hn hdb he hpl
theorem dbiT {o : OpC X.K} {L : MA X.K} {id : String} (hc : CallR X (.type id) o.r) (hm : X.mg x = none) (ha : PA X (e :: es) (L.t W)) (hv : bootBuiltins x = some (.type id) := by decide +kernel) (hg : Gl X x := by rfl) (hn : x ≠ "__name__" := by decide) (hdb : (x == ("__debug__" : Str)) = false := by decide)
    (he : starEach (e :: es) X.env = (false, eval e X.env) :: starEach es X.env := by rfl) (hpl : (backTo pos (starEach es X.env)).any (·.1) = false := by rfl) : PE X (.Call (.Name x p2) (e :: es) [] pos) ((mBi o L).t W) := pe_callTy hc hg hm hv ha hn hdb he hpl
theorem dbfB {o : OpF X.K} {L : MA X.K} {id : String} {h} (hc : CallR X (.builtin id) o.r) (hm : X.mg x = none) (ha : PA X (e :: es) (L.t W)) (hv : bootBuiltins x = some (.builtin id) := by decide +kernel) (hg : Gl X x := by rfl) (hn : x ≠ "__name__" := by decide) (hdb : (x == ("__debug__" : Str)) = false := by decide)
    (he : starEach (e :: es) X.env = (false, eval e X.env) :: starEach es X.env := by rfl) (hpl : (backTo pos (starEach es X.env)).any (·.1) = false := by rfl) : PE X (.Call (.Name x p2) (e :: es) [] pos) ((mBiF o L h).t W) := pe_callB hc hg hm hv ha hn hdb he hpl
theorem dbfT {o : OpF X.K} {L : MA X.K} {id : String} {h} (hc : CallR X (.type id) o.r) (hm : X.mg x = none) (ha : PA X (e :: es) (L.t W)) (hv : bootBuiltins x = some (.type id) := by decide +kernel) (hg : Gl X x := by rfl) (hn : x ≠ "__name__" := by decide) (hdb : (x == ("__debug__" : Str)) = false := by decide)
    (he : starEach (e :: es) X.env = (false, eval e X.env) :: starEach es X.env := by rfl) (hpl : (backTo pos (starEach es X.env)).any (·.1) = false := by rfl) : PE X (.Call (.Name x p2) (e :: es) [] pos) ((mBiF o L h).t W) := pe_callTy hc hg hm hv ha hn hdb he hpl
theorem dlr (hl : X.mg "list" = none) (hm : X.mg "range" = none) (ha : PE X a (A.t W)) (hb : PE X b (B.t W)) (hc : X.calm = true := by rfl) (hg : Gl X "list" := by rfl) (hg2 : Gl X "range" := by rfl)
    (na : starEach [a, b] X.env = (false, eval a X.env) :: starEach [b] X.env := by rfl)
    (nb : starEach [b] X.env = (false, eval b X.env) :: starEach [] X.env := by rfl) (hp : (backTo p2 (starEach [b] X.env)).any (·.1) = false := by rfl) :
    PE X (.Call (.Name "list" p3) [.Call (.Name "range" p4) [a, b] [] p2] [] pos) ((mListRng A B).t W) := pe_listRng2 hl hm ha hb hc hg hg2 na nb hp
theorem disi {n : String} {y : Str} (hi : X.mg "isinstance" = none) (ht : X.mg y = none) (ha : PE X a (A.t W)) (hv : bootBuiltins y = some (.type n) := by decide +kernel) (hg : Gl X "isinstance" := by rfl) (hg2 : Gl X y := by rfl)
    (hn : y ≠ "__name__" := by decide) (hd : (y == ("__debug__" : Str)) = false := by decide)
    (he : starEach [a, .Name y p2] X.env = (false, eval a X.env) :: starEach [.Name y p2] X.env := by rfl) (he2 : starEach [.Name y p2] X.env = (false, eval (.Name y p2) X.env) :: starEach [] X.env := by rfl) (hpl : (backTo pos (starEach [.Name y p2] X.env)).any (·.1) = false := by rfl) :
    PE X (.Call (.Name "isinstance" p3) [a, .Name y p2] [] pos) ((mIsi n A).t W) :=
  pe_callB call_isi hg hi (by decide +kernel) (pa_cons ha (pa_cons (pe_bltn (v := .ty n) hg2 ht hv rfl hn hd) pa_nil he2) he) (by decide) (by decide) he hpl
theorem dcnil : PA X [] ((mcNil (K := X.K)).t W) := pa_nil
theorem dcval {L : MC X.K} {h} (ha : PE X e (A.t W)) (hr : PA X es (L.t W)) (hs : starEach (e :: es) X.env = (false, eval e X.env) :: starEach es X.env := by rfl) : PA X (e :: es) ((mcVal A L h).t W) := pa_cons ha hr hs
theorem dccel {i : Nat} {L : MC X.K} (hr : PA X es (L.t W)) (hN : X.N[i]? = some x := by rfl) (hv : Vis X.env.scope x := by first | exact Or.inl rfl | exact Or.inr (Or.inl rfl) | exact Or.inr (Or.inr rfl)) (hd : (x == ("__debug__" : Str)) = false := by decide)
    (hcd : (x == ("__classdict__" : Str)) = false := by decide) (hs : starEach (.Name x p2 :: es) X.env = (false, eval (.Name x p2) X.env) :: starEach es X.env := by rfl) : PA X (.Name x p2 :: es) ((mcCel i L).t W) := pa_cons (pe_var hN hv hd hcd) hr hs
theorem dcall0 {k n : Nat} {mf : List Slot → Option CO} {L : MC X.K} {h} (c : Cal X.prog X.w X.K X.mg X.base CX0 k x n mf) (hr : Room k X.A) (ha : PA X (e :: es) (L.t W)) (hg : Gl X x := by rfl) (hdb : (x == ("__debug__" : Str)) = false := by decide)
    (he : starEach (e :: es) X.env = (false, eval e X.env) :: starEach es X.env := by rfl) (hpl : (backTo pos (starEach es X.env)).any (·.1) = false := by rfl) : PE X (.Call (.Name x p2) (e :: es) [] pos) ((mCall n mf L h).t W) := pcal0 c hr ha hg hdb he hpl
theorem dcallX {k n : Nat} {mf : List Slot → Option CO} {L : MC X.K} {h} (c : Cal X.prog X.w X.K X.mg X.base (L2.CX X.prog X.w) k x n mf) (hr : Room k X.A) (tk : Takes X W) (ha : PA X (e :: es) (L.t W)) (hg : Gl X x := by rfl) (hdb : (x == ("__debug__" : Str)) = false := by decide)
    (he : starEach (e :: es) X.env = (false, eval e X.env) :: starEach es X.env := by rfl) (hpl : (backTo pos (starEach es X.env)).any (·.1) = false := by rfl) : PE X (.Call (.Name x p2) (e :: es) [] pos) ((mCall n mf L h).t W) := pcalX c hr tk ha hg hdb he hpl
theorem dcallF0 {k n : Nat} {mf : List Slot → Option CO} {L : MC X.K} {h} (c : Cal X.prog X.w X.K X.mg X.base CX0 k x n mf) (hr : Room k X.A) (ha : PA X (e :: es) (L.t W)) (hg : Gl X x := by rfl) (hdb : (x == ("__debug__" : Str)) = false := by decide)
    (he : starEach (e :: es) X.env = (false, eval e X.env) :: starEach es X.env := by rfl) (hpl : (backTo pos (starEach es X.env)).any (·.1) = false := by rfl) : PE X (.Call (.Name x p2) (e :: es) [] pos) ((mCallF n mf L h).t W) := pcal0 c hr ha hg hdb he hpl
theorem dcallFX {k n : Nat} {mf : List Slot → Option CO} {L : MC X.K} {h} (c : Cal X.prog X.w X.K X.mg X.base (L2.CX X.prog X.w) k x n mf) (hr : Room k X.A) (tk : Takes X W) (ha : PA X (e :: es) (L.t W)) (hg : Gl X x := by rfl) (hdb : (x == ("__debug__" : Str)) = false := by decide)
    (he : starEach (e :: es) X.env = (false, eval e X.env) :: starEach es X.env := by rfl) (hpl : (backTo pos (starEach es X.env)).any (·.1) = false := by rfl) : PE X (.Call (.Name x p2) (e :: es) [] pos) ((mCallF n mf L h).t W) := pcalX c hr tk ha hg hdb he hpl
theorem dmeth {i : Nat} {name : Str} {id : String} {o : OpM X.K} {L : MA X.K} {h} {apos cpos : Pos} (slot : PySem.Slot "list" name id) (hty : typeOf (.builtin id) = pure (.type "method_descriptor")) (hm : MtR X id o.r) (ha : PA X (e :: es) (L.t W))
    (hN : X.N[i]? = some x := by rfl) (hv : Vis X.env.scope x := by first | exact Or.inl rfl | exact Or.inr (Or.inl rfl) | exact Or.inr (Or.inr rfl)) (hd : (x == ("__debug__" : Str)) = false := by decide) (hcd : (x == ("__classdict__" : Str)) = false := by decide)
    (hbase : attributeBase (.Name x p2) name X.env (eval (.Name x p2) X.env) = eval (.Name x p2) X.env := by rfl)
    (hfew : ((backTo cpos (starEach (e :: es) X.env)).all (fun x => !x.1) && (backToKw cpos (keywordEach [] X.env)).all (fun x => x.1.isSome)
      && decide ((e :: es).length + ([] : List Keyword).length + (if ([] : List Keyword).isEmpty then 0 else 1) < 30)) = true := by rfl)
    (hline : (apos.endLine == cpos.line) = true := by rfl) (hs : starEach (e :: es) X.env = (false, eval e X.env) :: starEach es X.env := by rfl) (hplain : (backTo cpos (starEach es X.env)).any (·.1) = false := by rfl) :
    PE X (.Call (.Attribute (.Name x p2) name apos) (e :: es) [] cpos) ((mMeth i o L h).t W) := pe_bm PySem.F.plainAttrs_list slot hty hm (pe_var hN hv hd hcd) ha hbase hfew hline hs hplain
theorem dmeth0 {i : Nat} {name : Str} {id : String} {o : OpM X.K} {apos cpos : Pos} (slot : PySem.Slot "list" name id) (hty : typeOf (.builtin id) = pure (.type "method_descriptor")) (hm : MtR X id o.r)
    (hN : X.N[i]? = some x := by rfl) (hv : Vis X.env.scope x := by first | exact Or.inl rfl | exact Or.inr (Or.inl rfl) | exact Or.inr (Or.inr rfl)) (hd : (x == ("__debug__" : Str)) = false := by decide) (hcd : (x == ("__classdict__" : Str)) = false := by decide)
    (hbase : attributeBase (.Name x p2) name X.env (eval (.Name x p2) X.env) = eval (.Name x p2) X.env := by rfl) (hline : (apos.endLine == cpos.line) = true := by rfl) :
    PE X (.Call (.Attribute (.Name x p2) name apos) [] [] cpos) ((mMeth0 i o).t W) := pe_bm0 PySem.F.plainAttrs_list slot hty hm (pe_var hN hv hd hcd) hbase hline
end
section
variable {X : Cx} {W : WX} {pos p2 p3 p4 : Pos} {e a b c : Expr} {es rest : List Expr} {A B C : ME X.K} {j : Nat} {x : Str} {S T : MT X.K}
theorem tval (ha : PE X a (A.t W)) (he : ∀ whole, isTrue a X.env whole = (do let v ← whole; standAt a.pos; holding [v] (truthy v)) := by intro _; rfl) : PT X a ((mTest A).t W) := pt_val ha he
theorem ttru (ha : PE X a (A.t W)) (he : ∀ whole, isTrue a X.env whole = (do let v ← whole; standAt a.pos; holding [v] (truthy v)) := by intro _; rfl) : PT X a ((mTru A).t W) := pt_truth ha he
theorem tnot (ha : PT X a (T.t W)) : PT X (.UnaryOp .Not a pos) ((mNot T).t W) := pt_not ha
theorem tpw (ha : PW X a (T.t W)) : PT X a (T.t W) := ha.pt
theorem wand (ha : PT X a (S.t W)) (hb : PW X (.BoolOp .And (b :: rest) pos) (T.t W)) : PW X (.BoolOp .And (a :: b :: rest) pos) ((mAnd S T).t W) := pw_and ha hb
theorem wor (ha : PT X a (S.t W)) (hb : PW X (.BoolOp .Or (b :: rest) pos) (T.t W)) : PW X (.BoolOp .Or (a :: b :: rest) pos) ((mOr S T).t W) := pw_or ha hb
theorem wand1 (ha : PT X a (S.t W)) : PW X (.BoolOp .And [a] pos) (S.t W) := pw_and1 ha
theorem wor1 (ha : PT X a (S.t W)) : PW X (.BoolOp .Or [a] pos) (S.t W) := pw_or1 ha
variable {tg : Expr} {G : MG X.K} {Gs : MGs X.K} {I : MI X.K}
theorem gN {i : Nat} (hN : X.N.Nodup) (hi : X.N[i]? = some x := by rfl) (hx : Loc X.env.scope x := by first | exact Or.inl rfl | exact Or.inr rfl)
    (hf : X.fn x = true ∨ X.env.scope.names.lookup x = some .local := by first | exact .inl rfl | exact .inr rfl) : PG X (.Name x pos) ((mgName (K := X.K) i).t) := pg_name hN hi hx hf
theorem gnil : PGs X [] ((mgNil (K := X.K)).t) := pgs_nil
theorem gcons (h1 : PG X e G.t) (h2 : PGs X es Gs.t) (hs : (assignEach (e :: es) X.env).map (·.2) = assign e X.env :: (assignEach es X.env).map (·.2) := by rfl) : PGs X (e :: es) ((mgCons G Gs).t) := pgs_cons h1 h2 hs
theorem gtup {k n : Nat} (h : PGs X es Gs.t) (hc : X.calm = true := by rfl) (hn : (assignEach es X.env).length = n := by rfl) (hst : (assignEach es X.env).findIdx? (·.1) = none := by rfl) : PG X (.Tuple es k pos) ((mgTup n Gs).t) := pg_tup hc h hn hst
theorem ilist {h} (ha : PE X a (A.t W)) : PI X tg a ((miList A h).t W) := pi_list ha
theorem irng1 (hm : X.mg "range" = none) (ha : PE X a (A.t W)) (hg : Gl X "range" := by rfl) (hs : starEach [a] X.env = [(false, eval a X.env)] := by rfl) (hs' : starEach [a] X.env = (false, eval a X.env) :: starEach [] X.env := by rfl) : PI X tg (.Call (.Name "range" p2) [a] [] pos) ((miRng1 A).t W) := pi_range1 hg hm (pa_cons ha pa_nil hs') hs
theorem ienum {elts : List Expr} {kk : Nat} {tpos : Pos} {h} (hm : X.mg "enumerate" = none) (ha : PE X a (A.t W)) (hg : Gl X "enumerate" := by rfl) (hs : starEach [a] X.env = [(false, eval a X.env)] := by rfl) (hs' : starEach [a] X.env = (false, eval a X.env) :: starEach [] X.env := by rfl) :
    PI X (.Tuple elts kk tpos) (.Call (.Name "enumerate" p2) [a] [] pos) ((miEnum A h).t W) := pi_enum hg hm (pa_cons ha pa_nil hs') hs
theorem izip {elts : List Expr} {kk : Nat} {tpos : Pos} {h} (hm : X.mg "zip" = none) (ha : PE X a (A.t W)) (hb : PE X b (B.t W)) (hg : Gl X "zip" := by rfl)
    (hs : starEach [a, b] X.env = (false, eval a X.env) :: starEach [b] X.env := by rfl) (hpl : (backTo pos (starEach [b] X.env)).any (·.1) = false := by rfl) (h2 : starEach [b] X.env = (false, eval b X.env) :: starEach [] X.env := by rfl) :
    PI X (.Tuple elts kk tpos) (.Call (.Name "zip" p2) [a, b] [] pos) ((miZip A B h).t W) := pi_zip hg hm (pa_cons ha (pa_cons hb pa_nil h2) hs) hs hpl
theorem tsnil : PTs X [] ((mtYes (K := X.K)).t W) := pts_nil
theorem dlc {elt iter : Expr} {ifs : List Expr} {scope : Scope} {own : List (Str × Nat)} {Ts : MTs X.K} {vs : List Nat} {hg0 hk0} (hN : X.N.Nodup) (ok : blkC X.N X.env.scope scope own = true) (hvs : own.map (·.2) = vs) (hi : PI X tg iter (I.t W))
    (hg : ∀ (s : Shared) (H : Hp) (C : Addr) (cl : List (Str × Addr)) (fp : List Addr), PG (X.blk s H scope (compEnvC scope cl C X.env) fp) tg G.t) (ht : ∀ (s : Shared) (H : Hp) (C : Addr) (cl : List (Str × Addr)) (fp : List Addr), PTs (X.blk s H scope (compEnvC scope cl C X.env) fp) ifs (Ts.t WNo))
    (he : ∀ (s : Shared) (H : Hp) (C : Addr) (cl : List (Str × Addr)) (fp : List Addr), PE (X.blk s H scope (compEnvC scope cl C X.env) fp) elt (A.t WNo)) (hs : ∀ x, foldedSetIterable iter X.env x = pure x := by intro _; rfl) (hc : X.calm = true := by rfl) :
    PE X (.ListComp elt [⟨tg, iter, ifs, 0⟩] scope pos) ((mLc I G Ts A vs hg0 hk0).t W) := by
  subst hvs
  exact pe_lc hc hN hi (blkOk_by ok) hg ht he hs
end
section
variable {X : Cx} {W : WX} {pos p2 p3 p4 : Pos} {e a b c : Expr} {es rest : List Expr} {A B C : ME X.K} {j : Nat} {x : Str} {T : MT X.K} {st : Stmt} {sts b1 b2 : List Stmt} {S S' : MS X.K} {tg iter : Expr} {G : MG X.K} {I : MI X.K} {M : MF X.K}
theorem snil : PSs X [] ((msNil (K := X.K)).t W) := pss_nil
theorem scons (h1 : PS X st (S.t W)) (h2 : PSs X sts (S'.t W)) : PSs X (st :: sts) ((msSeq S S').t W) := show PSs X (st :: sts) (tSeq (S.t W) (S'.t W)) from pss_cons h1 h2
theorem sone (h1 : PS X st (S.t W)) : PSs X [st] (S.t W) := pss_one h1
theorem sif (hc : PT X c (T.t W)) (ha : PSs X b1 (S.t W)) (hb : PSs X b2 (S'.t W)) : PS X (.If c b1 b2 pos) ((msIf T S S').t W) := ps_if hc ha hb
theorem sasg {h} (he : PE X e (A.t W)) (hg : PG X tg G.t) (hs : swapsWithSole [tg] e pos.line X.env = pure false := by rfl) (hw : swappedStores [tg] e X.env = pure none := by rfl)
    (h1 : (assignEach [tg] X.env).map (·.2) = [assign tg X.env] := by rfl) : PS X (.Assign [tg] e pos) ((msAsg A G h).t W) := ps_asg he hg hs hw h1
theorem sasgN {i : Nat} {h} (hN : X.N.Nodup) (he : PE X e (A.t W)) (hi : X.N[i]? = some x := by rfl) (hx : Loc X.env.scope x := by first | exact Or.inl rfl | exact Or.inr rfl) (hs : swapsWith e (some (.Name x p2)) pos.line X.env = pure false := by rfl)
    (hf : X.fn x = true ∨ X.env.scope.names.lookup x = some .local := by first | exact .inl rfl | exact .inr rfl) : PS X (.Assign [.Name x p2] e pos) ((msAsg A (mgName i) h).t W) := ps_set hN hi hx he hs hf
theorem sasgF {i : Nat} (hN : X.N.Nodup) (he : PE X e (M.t W)) (hi : X.N[i]? = some x := by rfl) (hx : Loc X.env.scope x := by first | exact Or.inl rfl | exact Or.inr rfl) (hs : swapsWith e (some (.Name x p2)) pos.line X.env = pure false := by rfl)
    (hf : X.fn x = true ∨ X.env.scope.names.lookup x = some .local := by first | exact .inl rfl | exact .inr rfl) : PS X (.Assign [.Name x p2] e pos) ((msAsgF M i).t W) := ps_set hN hi hx he hs hf
theorem sdrop (he : PE X e (A.t W)) (hs : swapsWith e none pos.line X.env = pure false := by rfl) : PS X (.Expr e pos) ((msDrop A).t W) := ps_expr he hs
theorem sret {h} (he : PE X e (A.t W)) : PS X (.Return (some e) pos) ((msRet A h).t W) := ps_ret he
theorem sretF (he : PE X e (M.t W)) : PS X (.Return (some e) pos) ((msRetF M).t W) := ps_ret he
theorem sretC {i : Nat} (hN : X.N[i]? = some x := by rfl) (hv : Vis X.env.scope x := by first | exact Or.inl rfl | exact Or.inr (Or.inl rfl) | exact Or.inr (Or.inr rfl)) (hd : (x == ("__debug__" : Str)) = false := by decide)
    (hcd : (x == ("__classdict__" : Str)) = false := by decide) : PS X (.Return (some (.Name x p2)) pos) ((msRetC (K := X.K) i).t W) := ps_ret (pe_var hN hv hd hcd)
theorem ssetI {i : Nat} {I : ME X.K} {h} (he : PE X e (A.t W)) (hi : PE X b (I.t W)) (hN : X.N[i]? = some x := by rfl) (hv : Vis X.env.scope x := by first | exact Or.inl rfl | exact Or.inr (Or.inl rfl) | exact Or.inr (Or.inr rfl)) (hd : (x == ("__debug__" : Str)) = false := by decide)
    (hcd : (x == ("__classdict__" : Str)) = false := by decide)
    (hsub : ∀ v, assign (.Subscript (.Name x p2) b p3) X.env v = (do
      let ov ← holding [v] (eval (.Name x p2) X.env)
      let iv ← holding [v, ov] (eval b X.env)
      standAt p3
      holding [v, ov, iv] (setItem ov iv v)
      release [v, ov, iv] []) := by intro _; rfl)
    (hs : swapsWithSole [.Subscript (.Name x p2) b p3] e pos.line X.env = pure false := by rfl) (hw : swappedStores [.Subscript (.Name x p2) b p3] e X.env = pure none := by rfl)
    (h1 : (assignEach [.Subscript (.Name x p2) b p3] X.env).map (·.2) = [assign (.Subscript (.Name x p2) b p3) X.env] := by rfl) :
    PS X (.Assign [.Subscript (.Name x p2) b p3] e pos) ((msSet i I A h).t W) := ps_asg he (pg_sub (pe_var hN hv hd hcd) hi set_list hsub) hs hw h1
theorem sfor {body : List Stmt} {kl : List Nat} (hp : PassesOwn (model X.prog X.w) X.A X.env X.xe) (hi : PI X tg iter (I.t W)) (hg : PG X tg G.t) (hb : PSs X body (S.t W)) (hc : X.calm = true := by rfl) (hs : ∀ x, foldedSetIterable iter X.env x = pure x := by intro _; rfl) :
    PS X (.For tg iter body [] pos) ((msFor I G S kl).t W) := ps_for hp hc hi hg hb hs
theorem sparVV {i k : Nat} {y : Str} {kt k2 : Nat} {pt pt2 px py : Pos} {h h'} (hN : X.N.Nodup) (ha : PE X a (A.t W)) (hb : PE X b (B.t W)) (hc : X.calm = true := by rfl) (hi : X.N[i]? = some x := by rfl) (hj : X.N[k]? = some y := by rfl) (hij : i ≠ k := by decide)
    (hx : X.env.scope.names.lookup x = some .local := by rfl) (hy : X.env.scope.names.lookup y = some .local := by rfl) (na : starEach [a, b] X.env = (false, eval a X.env) :: starEach [b] X.env := by rfl) (nb : starEach [b] X.env = (false, eval b X.env) :: starEach [] X.env := by rfl)
    (hw : swappedStores [.Tuple [.Name x px, .Name y py] kt pt] (.Tuple [a, b] k2 pt2) X.env = pure (some [x, y]) := by rfl)
    (hs : swapsWithSole [.Tuple [.Name x px, .Name y py] kt pt] (.Tuple [a, b] k2 pt2) pos.line X.env = pure false := by rfl) :
    PS X (.Assign [.Tuple [.Name x px, .Name y py] kt pt] (.Tuple [a, b] k2 pt2) pos) ((msParVV i k A B h h').t W) := ps_par hc hN hi hj hij hx hy (pa_cons ha (pa_cons hb pa_nil nb) na) hw hs
theorem sparFV {i k : Nat} {y : Str} {kt k2 : Nat} {pt pt2 px py : Pos} {h h'} (hN : X.N.Nodup) (ha : PE X a (M.t W)) (hb : PE X b (B.t W)) (hc : X.calm = true := by rfl) (hi : X.N[i]? = some x := by rfl) (hj : X.N[k]? = some y := by rfl) (hij : i ≠ k := by decide)
    (hx : X.env.scope.names.lookup x = some .local := by rfl) (hy : X.env.scope.names.lookup y = some .local := by rfl) (na : starEach [a, b] X.env = (false, eval a X.env) :: starEach [b] X.env := by rfl) (nb : starEach [b] X.env = (false, eval b X.env) :: starEach [] X.env := by rfl)
    (hw : swappedStores [.Tuple [.Name x px, .Name y py] kt pt] (.Tuple [a, b] k2 pt2) X.env = pure (some [x, y]) := by rfl)
    (hs : swapsWithSole [.Tuple [.Name x px, .Name y py] kt pt] (.Tuple [a, b] k2 pt2) pos.line X.env = pure false := by rfl) :
    PS X (.Assign [.Tuple [.Name x px, .Name y py] kt pt] (.Tuple [a, b] k2 pt2) pos) ((msParFV i k M B h h').t W) := ps_par hc hN hi hj hij hx hy (pa_cons ha (pa_cons hb pa_nil nb) na) hw hs
end
section
variable {X : Cx}
theorem rAdd : OpR X (binaryOp .Add) (oAdd (K := X.K)).r := op_or op_add op_add_str
theorem rSub : OpR X (binaryOp .Sub) (oSub (K := X.K)).r := op_sub
theorem rMul : OpR X (binaryOp .Mult) (oMul (K := X.K)).r := op_or op_mul op_mulX
theorem rMod : OpR X (binaryOp .Mod) (oMod (K := X.K)).r := op_modN
theorem rDiv : OpR X (binaryOp .FloorDiv) (oDiv (K := X.K)).r := op_or op_fdivN op_fdivW
theorem rPow : OpR X (binaryOp .Pow) (oPow (K := X.K)).r := op_pow
theorem rLt : OpR X (compareOp .Lt) (oLt (K := X.K)).r := op_lt
theorem rLe : OpR X (compareOp .LtE) (oLe (K := X.K)).r := op_le
theorem rGt : OpR X (compareOp .Gt) (oGt (K := X.K)).r := op_gt
theorem rGe : OpR X (compareOp .GtE) (oGe (K := X.K)).r := op_ge
theorem rEqS : OpR X (compareOp .Eq) (oEqS (K := X.K)).r := op_eq
theorem rNeS : OpR X (compareOp .NotEq) (oNeS (K := X.K)).r := op_ne
theorem rEqX {k : Nat} (hr : Room k X.A) : OpR X (compareOp .Eq) (oEq (K := X.K)).r := op_eqD hr.units
theorem rNeX {k : Nat} (hr : Room k X.A) : OpR X (compareOp .NotEq) (oNe (K := X.K)).r := op_neD hr.units
theorem rIsN : OpR X (compareOp .Is) (oIsN (K := X.K)).r := op_isN
theorem rNotN : OpR X (compareOp .IsNot) (oNotN (K := X.K)).r := op_notN
theorem rInX : OpR X (compareOp .In) (oIn (K := X.K) false).r := op_in_seq
theorem rNotInX : OpR X (compareOp .NotIn) (oIn (K := X.K) true).r := op_notIn_seq
theorem rLen : CallR X (.builtin "len") (oLen (K := X.K)).r := call_len
theorem rAbs : CallR X (.builtin "abs") (oAbs (K := X.K)).r := call_abs
theorem rMax2 (hc : X.calm = true := by rfl) : CallR X (.builtin "max") (oMax2 (K := X.K)).r := call_max2 hc
theorem rMin2 (hc : X.calm = true := by rfl) : CallR X (.builtin "min") (oMin2 (K := X.K)).r := call_min2 hc
theorem rAllX (hc : X.calm = true := by rfl) : CallR X (.builtin "all") (oAll (K := X.K)).r := cr_all hc
theorem rListL : CallR X (.type "list") (oList (K := X.K)).r := call_list_of
theorem rSortedX : CallR X (.builtin "sorted") (oSorted (K := X.K)).r := cr_sortedI
theorem rAppendX : MtR X "list.append" (oAppend (K := X.K)).r := mt_append
theorem rPopAtX : MtR X "list.pop" (oPopAt (K := X.K)).r := mt_popAt
theorem rReverseX : MtR X "list.reverse" (oReverse (K := X.K)).r := mt_reverse
end
end Sg
set_option Elab.async false
set_option linter.all false
set_option maxRecDepth 100000
set_option maxHeartbeats 4000000
namespace Sg
open PySem L2
variable {K : PySem.W.Frag}
theorem call_fin {n : Nat} {mf : List Slot → Option CO} {F : Fc} {W : WX} {ρ ρ1 : Env} {σ : St} {B H B1 H1 : Hp} {Q : VK} {out : EO} {is : List (U ⊕ Nat)} {vs : List V} (x1 : Ex B B1) (R1 : Rel K F ρ1 σ B1 H1) (r1 : ItemsOk K B1 σ is vs) (hn : is.length = n)
    (e' : callM mf (some (.ok is ρ1)) = some out) (f : Fin K F W false true ρ σ B H Q out) : spM K n mf vs H1 Q (WE W σ) := by
  unfold callM at e'
  split at e'
  · cases e'
  · rename_i h; cases h
  · rename_i is' ρ1' h
    cases h
    split at e'
    · cases e'
    · rename_i as ea
      obtain ⟨q1, q2, q3⟩ := resolve_ok R1 r1 ea
      split at e'
      · rename_i n1
        have q3 := q3 n1
        split at e'
        · cases e'
        · rename_i u c em
          obtain ⟨ρ', ep, rfl⟩ := Option.map_eq_some_iff.mp e'
          exact ⟨B1, as, _, R1.ex, q2.trans hn, q1, n1, em, fun v B' H' g cc r => f v B' H' (x1.trans g.bb) (fun z => nomatch z) (after_call R1 g q3 cc ep) r⟩
        · rename_i us c em
          obtain ⟨ρ', ep, rfl⟩ := Option.map_eq_some_iff.mp e'
          refine ⟨B1, as, _, R1.ex, q2.trans hn, q1, n1, em, fun q ws B' H' g cc h1 h2 h3 hq r => ?_⟩
          have R2 := after_call R1 g q3 cc ep
          have xb : Ex B' (upd B' q (.lst ws)) := Ex.new h2
          have R3 := R2.know h1 h2 (R1.fresh0 h3) (put_cells R1 g q3 h3 ep) (fun o ho => by rw [(R1.xx _ _ ho).1] at h3; cases h3)
          exact f (.ref q) (upd B' q (.lst ws)) H' ((x1.trans g.bb).trans xb) (fun z => nomatch z) R3 ⟨q, ws, rfl, upd_same, RepL.mono xb _ _ r⟩
        · rename_i us c em
          obtain ⟨ρ', ep, rfl⟩ := Option.map_eq_some_iff.mp e'
          refine ⟨B1, as, _, R1.ex, q2.trans hn, q1, n1, em, fun q ws B' H' g cc h1 h2 h3 hq r => ?_⟩
          have R2 := after_call R1 g q3 cc ep
          have xb : Ex B' (upd B' q (.dK ws)) := Ex.new h2
          have R3 := R2.know h1 h2 (R1.fresh0 h3) (put_cells R1 g q3 h3 ep) (fun o ho => by rw [(R1.xx _ _ ho).1] at h3; cases h3)
          exact f (.ref q) (upd B' q (.dK ws)) H' ((x1.trans g.bb).trans xb) (fun z => nomatch z) R3 ⟨q, ws, rfl, .inl upd_same, RepD.mono xb _ _ r⟩
        · rename_i x c em
          obtain ⟨ρ', ep, rfl⟩ := Option.map_eq_some_iff.mp e'
          exact ⟨B1, as, _, R1.ex, q2.trans hn, q1, n1, em, fun cls d B' H' g cc xr => f cls d B' H' (x1.trans g.bb) (after_call R1 g q3 cc ep) (XRel.up R1 xr)⟩
      · cases e'
theorem fnR_of {P : Program} {w : World} {mg : Str → Option Value} {base : Heap} {CX : CXT} {k : Nat} {f : Addr} {fd : FuncData} {ps : List Str} {sp : Sp} (F : FnOk P w K mg base CX k f fd ps sp) (hb : Binds K fd ps []) : FnR P w K mg base CX k f sp := by
  intro A outer s H us vs Q E hr e0 r h
  have hl : us.length = ps.length := by rw [← r.length]; exact F.len _ _ _ _ h
  have KX : K.In s.heap := e0.mod.kin.keeps fun b o e => (e0.bs b o e).1
  have b := hb s us KX (by rw [List.append_nil]; exact hl)
  rw [List.append_nil] at b
  exact F.run A outer s H ⟨us, []⟩ us vs Q E hr e0 b r h
theorem run_fnRS {X : Cx} {CX : CXT} {k : Nat} {f : Addr} {sp : Sp} {pins : List (Addr × Obj)} {σ : St} {H : Hp} {s : Shared} {E : St → XK} {Q : VK} {us : List Value} {vs : List V} (F : FnR X.prog X.w X.K X.mg X.base CX k f sp) (hr : Room k X.A) (hx : PassesAt CX X σ (E σ)) (I : Inv X pins σ H s) (r : Vals vs us) (h : sp vs H Q (E σ)) :
    codeAny (model X.prog X.w) X.A (.call (.ref f) ⟨us, []⟩) (fun r s' => match r with | .ok (.ret v) => EP X pins σ Q v s' | .ok _ => False | .error e => X.xe e s') s := by
  refine codeAny_mono (F X.A X.stack s H us vs Q (E σ) hr I.env0 r h) fun r s' hq => ?_
  cases r with
  | error e => exact hx pins H s e s' I hq
  | ok fl =>
    cases fl with
    | ret u => exact I.after hq
    | next => exact False.elim hq
    | brk => exact False.elim hq
    | cont => exact False.elim hq
abbrev MTab := List (Str × (List Slot → Option CO))
def tMethD (K : PySem.W.Frag) (m : Str) (n : Nat) (tab : MTab) (E : St → XK) (ta : TE) (t : TA) : TE := fun σ H Q => ta σ H fun x H1 => ∃ a c dx fs mf, x = .ref a ∧ H1 a = some (.ins (He.ga K c) dx fs) ∧ fs.lookup m = none ∧ tab.lookup c = some mf ∧
  t σ H1 fun vs H2 => spM K n mf (x :: vs) H2 Q (E σ)
structure CalM (P : Program) (w : World) (K : PySem.W.Frag) (mg : Str → Option Value) (base : Heap) (CX : CXT) (k : Nat) (c m : Str) (n : Nat) (mf : List Slot → Option CO) : Prop where
  cls : Cls K (He.ga K c)
  ok : ∃ f, Meth K (He.ga K c) m f ∧ FnR P w K mg base CX k f (spM K n mf)
def CalT (P : Program) (w : World) (K : PySem.W.Frag) (mg : Str → Option Value) (base : Heap) (k : Nat) (m : Str) (n : Nat) (tab : MTab) : Prop := ∀ c mf, tab.lookup c = some mf → CalM P w K mg base (L2.CX P w) k c m n mf
section
variable {X : Cx} {W : WX} {m x : Str} {n k : Nat} {tab : MTab} {ta : TE} {t : TA} {o e : Expr} {es : List Expr} {pos apos p : Pos} {pl : Sem Bool}
theorem pe_methD (he : PE X o ta) (c : CalT X.prog X.w X.K X.mg X.base k m n tab) (hr : Room k X.A) (tk : Takes X W) (ha : PA X (e :: es) t)
    (hst : starEach (e :: es) X.env = (false, eval e X.env) :: starEach es X.env) (hpl : (backTo pos (starEach es X.env)).any (·.1) = false)
    (ht : eval (.Call (.Attribute o m apos) (e :: es) [] pos) X.env = (do
      let ov ← eval o X.env
      standAt apos.atName
      let (f, first) ← holding [ov] (getMethod ov m pl)
      callWith pos f first (backTo pos (starEach (e :: es) X.env)) (backToKw pos (keywordEach [] X.env)))) :
    PE X (.Call (.Attribute o m apos) (e :: es) [] pos) (tMethD X.K m n tab (WE W) ta t) := by
  refine ⟨fun pins s σ H Q I h => ?_⟩
  refine PySem.W.methodCall_KW (pl := pl) (thn (he.run pins s σ H _ I h) fun u s1 ⟨x, H1, I1, rx, a, c', dx, fs, mf, ex, ea, l, hl, q⟩ => ?_) ht
  subst ex
  obtain rfl : u = Value.ref a := rx
  obtain ⟨cc, f, hm, F⟩ := c _ _ hl
  refine getmeth_ok I1 ea cc hm l ?_
  refine PySem.W.callWith_K (first := [.ref a]) (h₀ := X.base) I.ok.mod.kin hm.kp (thn (ha.run pos pins s1 σ H1 _ I1 q) fun us s2 ⟨vs, H2, I2, r, q2⟩ => ⟨I2.kIn, ?_⟩) hst hpl
  exact wpAny_call (run_fnRS (us := .ref a :: us) (vs := .ref a :: vs) F hr (passAt tk σ) I2 (.cons rfl r) q2)
end
theorem RepF.lookup {B : Hp} {m : Str} : ∀ {fs : List (Str × U)} {ws : List (Str × V)}, RepF K B fs ws → fs.lookup m = none → ws.lookup m = none
  | [], _, h, _ => by cases h; rfl
  | (k, u) :: us, _, h, e => by
    obtain ⟨v, r, rfl, _, h2⟩ := h
    rw [List.lookup_cons] at e ⊢
    cases c : m == k with
    | true => rw [c] at e; cases e
    | false => rw [c] at e; exact RepF.lookup h2 e
def mMethD (m : Str) (n : Nat) (tab : MTab) (a : ME K) (b : MC K) (ha : a.k = true := by exact id rfl) (hk : b.k = true := by exact id rfl) : ME K where
  t := fun W => tMethD K m n tab (WE W) (a.t W) (b.t W)
  m := fun ρ => bindE (a.m ρ) fun u ρ1 => match u with
    | .ins c fs => match fs.lookup m, tab.lookup c with
      | none, some mf => (b.m ρ1).bind fun o => match o with
        | .ok is ρ2 => if is.length + 1 = n then callM mf (some (.ok (.inl (.ins c fs) :: is) ρ2)) else none
        | .ex e ρ2 => some (.ex e ρ2)
      | _, _ => none
    | _ => none
  p := false
  k := true
  ok := fun F W ρ σ B H Q out e R f => by
    rcases bindE_some e with ⟨u, ρ1, e1, e⟩ | ⟨x, ρ1, e1, rfl⟩
    · refine a.ok F W ρ σ B H _ _ e1 R fun v1 B1 H1 x1 p1 R1 r1 => ?_
      rw [ha, if_pos rfl] at r1
      cases u with
      | ins c fs =>
        dsimp only at e
        split at e
        · rename_i mf h1 h2
          obtain ⟨ad, dx, ws, rfl, hb, hf⟩ := r1
          refine ⟨ad, c, dx, ws, mf, rfl, R1.ex _ _ hb, RepF.lookup hf h1, h2, ?_⟩
          obtain ⟨o, e2, e⟩ := Option.bind_eq_some_iff.mp e
          cases o with
          | ex x ρ2 => cases e; exact b.ok F W ρ1 σ B1 H1 _ _ e2 R1 fun cls d B2 H2 x2 R2 xr => f cls d B2 H2 (x1.trans x2) R2 xr
          | ok is ρ2 =>
            refine b.ok F W ρ1 σ B1 H1 _ _ e2 R1 fun vs B2 H2 x2 p2 R2 r2 => ?_
            rw [hk, if_pos rfl] at r2
            dsimp only at e
            split at e
            · rename_i hn
              exact call_fin (H := H) (ρ := ρ) (is := .inl (.ins c fs) :: is) (x1.trans x2) R2 ⟨_, vs, rfl, ⟨ad, dx, ws, rfl, x2 _ _ hb, RepF.mono x2 _ _ hf⟩, r2⟩ hn e f
            · cases e
        · cases e
      | _ => cases e
    · exact a.ok F W ρ σ B H _ _ e1 R fun cls d B1 H1 x1 R1 xr => f cls d B1 H1 x1 R1 xr
structure CalC (P : Program) (w : World) (K : PySem.W.Frag) (mg : Str → Option Value) (base : Heap) (k : Nat) (c m : Str) (n : Nat) (mf : List Slot → Option CO) : Prop where
  mg_ : mg c = some (.ref (He.ga K c))
  kp : PySem.W.keepIn K (.ref (He.ga K c)) = true
  ok : ∃ mc p g, ClX.CRead K (He.ga K c) mc ∧ ClX.CMet K (He.ga K c) mc m p g ∧ FnR P w K mg base (L2.CX P w) k g (spM K n mf)
def tCMethW (C : Addr) (sp : Sp) (E : St → XK) (t : TA) : TE := fun σ H Q => t σ H fun vs H2 => sp (.ref C :: vs) H2 Q (E σ)
section
variable {X : Cx} {W : WX} {m x c : Str} {n k : Nat} {mf : List Slot → Option CO} {t : TA} {o e : Expr} {es : List Expr} {pos apos p : Pos} {pl : Sem Bool}
theorem run_cmS {C q g : Addr} {sp : Sp} {pins : List (Addr × Obj)} {σ : St} {H : Hp} {s : Shared} {Q : VK} {us : List Value} {vs : List V} (F : FnR X.prog X.w X.K X.mg X.base (L2.CX X.prog X.w) k g sp) (hr : Room k X.A) (tk : Takes X W) (I : Inv X ((q, PySem.W.methodObj (.ref g) (.ref C)) :: pins) σ H s)
    (r : Vals vs us) (h : sp (.ref C :: vs) H Q (WE W σ)) : wpAny (model X.prog X.w) X.A (call (.ref q) us) (EP X pins σ Q) X.xe s := by
  have z : wpAny (model X.prog X.w) X.A (call (.ref q) us) (EP X ((q, PySem.W.methodObj (.ref g) (.ref C)) :: pins) σ Q) X.xe s :=
    wpAny_call (PySem.W.method_call (ClX.pin_at I) (run_fnRS (us := .ref C :: us) (vs := .ref C :: vs) F hr (passAt tk σ) I (.cons rfl r) h))
  exact thn z fun _ _ y => ClX.unpinE y
theorem pe_cmethW (cal : CalC X.prog X.w X.K X.mg X.base k c m n mf) (hr : Room k X.A) (tk : Takes X W) (ha : PA X (e :: es) t) (hg : Gl X c) (hdb : (c == ("__debug__" : Str)) = false)
    (hst : starEach (e :: es) X.env = (false, eval e X.env) :: starEach es X.env) (hpl : (backTo pos (starEach es X.env)).any (·.1) = false)
    (ht : eval (.Call (.Attribute (.Name c p) m apos) (e :: es) [] pos) X.env = (do
      let ov ← eval (.Name c p) X.env
      standAt apos.atName
      let (f, first) ← holding [ov] (getMethod ov m pl)
      callWith pos f first (backTo pos (starEach (e :: es) X.env)) (backToKw pos (keywordEach [] X.env)))) :
    PE X (.Call (.Attribute (.Name c p) m apos) (e :: es) [] pos) (tCMethW (He.ga X.K c) (spM X.K n mf) (WE W) t) := by
  obtain ⟨mc, pp, g, r, cm, F⟩ := cal.ok
  refine ⟨fun pins s σ H Q I h => ?_⟩
  refine PySem.W.methodCall_KW (pl := pl) (ld_glob I hg cal.mg_ ?_ hdb) ht
  refine ClX.getmethcm_ok I r cm fun s2 I2 => ?_
  refine ClX.callwith_cm I2 (ClX.base_none I (Nat.le_refl _)) cm.fi (thn (ha.run pos _ s2 σ H _ I2 h) fun us s3 ⟨vs, H2, I3, rv, q2⟩ => ⟨⟨ClX.pin_at I3, I3.kIn⟩, ?_⟩) hst hpl
  exact run_cmS F hr tk I3 rv q2
end
def mCMeth (c : Str) (n : Nat) (mf : List Slot → Option CO) (b : MC K) (hk : b.k = true := by exact id rfl) : ME K where
  t := fun W => tCMethW (He.ga K c) (spM K n mf) (WE W) (b.t W)
  m := fun ρ => (b.m ρ).bind fun o => match o with
    | .ok is ρ2 => if is.length + 1 = n then callM mf (some (.ok (.inl (.ref (He.ga K c)) :: is) ρ2)) else none
    | .ex e ρ2 => some (.ex e ρ2)
  p := false
  k := true
  ok := fun F W ρ σ B H Q out e R f => by
    obtain ⟨o, e2, e⟩ := Option.bind_eq_some_iff.mp e
    cases o with
    | ex x ρ2 => cases e; exact b.ok F W ρ σ B H _ _ e2 R fun cls d B2 H2 x2 R2 xr => f cls d B2 H2 x2 R2 xr
    | ok is ρ2 =>
      refine b.ok F W ρ σ B H _ _ e2 R fun vs B2 H2 x2 p2 R2 r2 => ?_
      rw [hk, if_pos rfl] at r2
      dsimp only at e
      split at e
      · rename_i hn
        exact call_fin (H := H) (ρ := ρ) (is := .inl (.ref (He.ga K c)) :: is) x2 R2 ⟨_, vs, rfl, rfl, r2⟩ hn e f
      · cases e
structure ConC (K : PySem.W.Frag) (c f : Str) (u : U) : Prop where
  ok : ∃ mc v w, ClX.CRead K (He.ga K c) mc ∧ ClX.CVal K (He.ga K c) mc f v w ∧ ∀ B, Rep K B u v
def tCon (K : PySem.W.Frag) (c : Str) (u : U) (ta : TE) : TE := fun σ H Q => ta σ H fun x H1 => x = .ref (He.ga K c) ∧ ∀ v, (∀ B, Rep K B u v) → Q v H1
theorem pe_conC {X : Cx} {c f : Str} {u : U} {e : Expr} {ta : TE} {pos : Pos} (k : ConC X.K c f u) (he : PE X e ta) (hb : attributeBase e f X.env (eval e X.env) = eval e X.env) : PE X (.Attribute e f pos) (tCon X.K c u ta) := by
  obtain ⟨mc, v, w, r, cv, hr⟩ := k.ok
  refine ⟨fun pins s σ H Q I h => ?_⟩
  refine attr_of hb (thn (he.run pins s σ H _ I h) fun uu s1 ⟨x, H1, I1, rx, ex, q⟩ => ?_)
  subst ex
  obtain rfl : uu = Value.ref (He.ga X.K c) := rx
  exact ClX.getcval_ok I1 r cv fun s2 I2 => ⟨v, H1, I2, cv.rel, q v hr⟩
def mConC (c : Str) (u : U) (a : ME K) : ME K where
  t := fun W => tCon K c u (a.t W)
  m := fun ρ => bindE (a.m ρ) fun x ρ1 => match x with
    | .ref p => if p = He.ga K c then some (.ok u ρ1) else none
    | _ => none
  p := a.p
  k := true
  ok := fun F W ρ σ B H Q out e R f => by
    rcases bindE_some e with ⟨x, ρ1, e1, e⟩ | ⟨x, ρ1, e1, rfl⟩
    · refine a.ok F W ρ σ B H _ _ e1 R fun v1 B1 H1 x1 p1 R1 r1 => ?_
      cases x with
      | ref p =>
        dsimp only at e
        split at e
        · rename_i hp
          cases e
          subst hp
          have r2 : Rep K H1 (.ref (He.ga K c)) v1 := rep_up R1 r1
          exact ⟨r2, fun v hv => f v B1 H1 x1 p1 R1 (hv _)⟩
        · cases e
      | _ => cases e
    · exact a.ok F W ρ σ B H _ _ e1 R fun cls d B1 H1 x1 R1 xr => f cls d B1 H1 x1 R1 xr
end Sg
set_option Elab.async false
set_option linter.all false
set_option maxRecDepth 100000
set_option maxHeartbeats 4000000
namespace Sg
open PySem L2
variable {K : PySem.W.Frag}
section
variable {X : Cx} {W : WX} {m x c : Str} {n k : Nat} {tab : MTab} {mf : List Slot → Option CO} {A : ME X.K} {L : MC X.K} {o e : Expr} {es : List Expr} {pos apos p : Pos} {pl : Sem Bool}
theorem dM {h1 h2} (he : PE X o (A.t W)) (c : CalT X.prog X.w X.K X.mg X.base k m n tab) (hr : Room k X.A) (tk : Takes X W) (ha : PA X (e :: es) (L.t W))
    (hst : starEach (e :: es) X.env = (false, eval e X.env) :: starEach es X.env := by rfl) (hpl : (backTo pos (starEach es X.env)).any (·.1) = false := by rfl)
    (ht : eval (.Call (.Attribute o m apos) (e :: es) [] pos) X.env = (do
      let ov ← eval o X.env
      standAt apos.atName
      let (f, first) ← holding [ov] (getMethod ov m pl)
      callWith pos f first (backTo pos (starEach (e :: es) X.env)) (backToKw pos (keywordEach [] X.env))) := by rfl) :
    PE X (.Call (.Attribute o m apos) (e :: es) [] pos) ((mMethD m n tab A L h1 h2).t W) := pe_methD he c hr tk ha hst hpl ht
theorem dCM {h} (cal : CalC X.prog X.w X.K X.mg X.base k c m n mf) (hr : Room k X.A) (tk : Takes X W) (ha : PA X (e :: es) (L.t W)) (hg : Gl X c := by rfl) (hdb : (c == ("__debug__" : Str)) = false := by decide)
    (hst : starEach (e :: es) X.env = (false, eval e X.env) :: starEach es X.env := by rfl) (hpl : (backTo pos (starEach es X.env)).any (·.1) = false := by rfl)
    (ht : eval (.Call (.Attribute (.Name c p) m apos) (e :: es) [] pos) X.env = (do
      let ov ← eval (.Name c p) X.env
      standAt apos.atName
      let (f, first) ← holding [ov] (getMethod ov m pl)
      callWith pos f first (backTo pos (starEach (e :: es) X.env)) (backToKw pos (keywordEach [] X.env))) := by rfl) :
    PE X (.Call (.Attribute (.Name c p) m apos) (e :: es) [] pos) ((mCMeth c n mf L h).t W) := pe_cmethW cal hr tk ha hg hdb hst hpl ht
theorem dcon {u : U} (k : ConC X.K c m u) (he : PE X e (A.t W)) (hb : attributeBase e m X.env (eval e X.env) = eval e X.env := by rfl) : PE X (.Attribute e m pos) ((mConC c u A).t W) := pe_conC k he hb
structure XF (K : PySem.W.Frag) (mg : Str → Option Value) (c : Str) : Prop where
  mg_ : mg c = some (.ref (He.ga K c))
  ok : PySem.W.excIn K (He.ga K c) He.veBase "ValueError.__new__" = true ∧ PySem.W.keepIn K (.ref (He.ga K c)) = true ∧ PySem.W.subIn K (.ref (He.ga K c)) (.type "BaseException") = some true ∧ PySem.W.typeIn K (.ref (He.ga K c)) = some (.type "type")
theorem srs {t : Str} {j : Nat} {p2 : Pos} (f : XF X.K X.mg c) (tk : Takes X W) (hc : X.calm = true := by rfl) (hg : Gl X c := by rfl) (hdb : (c == ("__debug__" : Str)) = false := by decide) :
    PS X (.Raise (some (.Call (.Name c p) [.Constant (.str t) j p2] [] pos)) none apos) ((msRaise (K := X.K) c).t W) :=
  ps_raise hc tk (pmk_own PySem.F.excBase_ValueError f.ok.1 f.mg_ f.ok.2.1 (raises_own f.ok.2.2.1 f.ok.2.2.2) hg hdb)
end
end Sg
set_option Elab.async false
set_option linter.all false
set_option maxRecDepth 100000
set_option maxHeartbeats 4000000
namespace Sg
open PySem L2
end Sg
set_option Elab.async false
set_option linter.all false
set_option maxRecDepth 100000
set_option maxHeartbeats 4000000
namespace Sg
open PySem L2
section
variable {P : Program} {w : World} {K : PySem.W.Frag} {mg : Str → Option Value} {base : Heap} {k j n : Nat} {c m : Str} {mf : List Slot → Option CO} {tab : MTab} {CX : CXT}
theorem CalM.mono (h : CalM P w K mg base CX j c m n mf) (l : j ≤ k) : CalM P w K mg base CX k c m n mf := by
  obtain ⟨a, f, b, d⟩ := h
  exact ⟨a, f, b, d.mono l⟩
theorem calT_nil : CalT P w K mg base k m n [] := fun c mf h => by cases h
theorem calT_cons (h1 : CalM P w K mg base (L2.CX P w) k c m n mf) (h2 : CalT P w K mg base k m n tab) : CalT P w K mg base k m n ((c, mf) :: tab) := fun c' mf' h => by
  rw [List.lookup_cons] at h
  cases z : c' == c with
  | true => rw [z] at h; cases h; rw [beq_iff_eq.mp z]; exact h1
  | false => rw [z] at h; exact h2 c' mf' h
end
open He (ga ma ba eqO eqO_ok)
inductive Pl where
  | g (x : Str)
  | m (c x : Str)
  | k (c x : Str)
  | p (c x : Str)
def pmg (K : PySem.W.Frag) (p : Addr) : Addr := match PySem.W.recIn K p "property" with
  | some (.ref g :: _) => g
  | _ => 0
def cmg (K : PySem.W.Frag) (p : Addr) : Addr := match PySem.W.recIn K p "classmethod" with
  | some (.ref g :: _) => g
  | _ => 0
def Pl.ad (K : PySem.W.Frag) : Pl → Addr
  | .g x => ga K x
  | .m c x => ma K (ga K c) x
  | .k c x => cmg K (ma K (ga K c) x)
  | .p c x => pmg K (ma K (ga K c) x)
abbrev FnY : Type := Option (Str × Str × Arguments × FuncBody × Scope × Addr × List Str × Value × Addr)
def fnY (K : PySem.W.Frag) (p : Pl) : FnY := match K.lookup (p.ad K) with
  | some ⟨_, _, .func fd, _⟩ => some (fd.name, fd.qualname, fd.params, fd.body, fd.scope, fd.globals, fd.closure.map (·.1), fd.defaults, fd.builtins)
  | _ => none
structure DefY where
  at_ : Pl
  name : Str
  qual : Str
  st : Stmt
  cl : List Str
def DefY.val (d : DefY) : FnY := some (d.name, d.qual, defArgs d.st, .stmts (defBody d.st), defScope d.st, mainGlobals, d.cl, .none, builtinsNs)
def DefY.ok (K : PySem.W.Frag) (d : DefY) : Bool := PySem.W.keepIn K (.ref (d.at_.ad K)) && (match K.lookup (d.at_.ad K) with
  | some ⟨_, _, .func fd, _⟩ => PySem.W.codeIn K fd.code d.qual
  | _ => false)
theorem fun_of {K : PySem.W.Frag} {d : DefY} (e : fnY K d.at_ = d.val) (c : d.ok K = true) (hcl : d.cl = []) : ∃ fd, Fun K d.name d.qual d.st (d.at_.ad K) fd := by
  obtain ⟨kp, c2⟩ := ba c
  unfold fnY at e
  cases q : K.lookup (d.at_.ad K) with
  | none => rw [q] at c2; cases c2
  | some o =>
    obtain ⟨oc, od, dt, osl⟩ := o
    rw [q] at c2 e
    cases dt with
    | func fd =>
      obtain ⟨n1, n2, n3, n4, n5, n6, n7, n8, n9, n10, n11, n12, n13, n14, n15⟩ := fd
      have e2 : (some (n1, n2, n3, n4, n5, n6, n7.map (·.1), n8, n15) : FnY) = some (d.name, d.qual, defArgs d.st, .stmts (defBody d.st), defScope d.st, mainGlobals, d.cl, .none, builtinsNs) := e
      simp only [Option.some.injEq, Prod.mk.injEq] at e2
      obtain ⟨h1, h2, h3, h4, h5, h6, h7, h8, h9⟩ := e2
      rw [hcl] at h7
      have h7' : n7 = [] := List.map_eq_nil_iff.mp h7
      subst h1 h2 h3 h4 h5 h6 h7' h8 h9
      exact ⟨_, ⟨oc, od, n9, n10, n11, n12, n13, n14, osl, rfl, q, c2⟩, kp⟩
    | _ => cases c2
def methB (K : PySem.W.Frag) (c m b : Str) : Bool := eqO (PySem.W.findIn K (.ref (ga K c)) m) (some (some (.ref (ma K (ga K b) m)))) && (PySem.W.isFn K (.ref (ma K (ga K b) m)) && PySem.W.keepIn K (.ref (ma K (ga K b) m)))
theorem methB_ok {K : PySem.W.Frag} {c m b : Str} (h : methB K c m b = true) : Meth K (ga K c) m (ma K (ga K b) m) := by
  obtain ⟨h1, h⟩ := ba h
  obtain ⟨h2, h3⟩ := ba h
  exact ⟨eqO_ok h1, h2, h3⟩
def creadB (K : PySem.W.Frag) (c : Str) : Bool := PySem.W.readsIn K (ga K c) (.type "type") && eqO (PySem.W.specialIn K (.ref (ga K c)) "__getattribute__") (some (some (.builtin "type.__getattribute__")))
theorem cread_ok {K : PySem.W.Frag} {c : Str} (h : creadB K c = true) : ClX.CRead K (ga K c) (.type "type") := by
  obtain ⟨h1, h2⟩ := ba h
  exact ⟨h1, eqO_ok h2⟩
def cmetB (K : PySem.W.Frag) (c m : Str) : Bool := (match PySem.W.findCls K (.ref (ga K c)) (.type "type") m with
    | some (.get (.builtin g) (.ref p) .none (.ref c')) => decide (g = "classmethod.__get__") && (decide (p = ma K (ga K c) m) && decide (c' = ga K c))
    | _ => false) && ((match PySem.W.recIn K (ma K (ga K c) m) "classmethod" with
    | some (.ref _ :: _) => true
    | _ => false) && PySem.W.fnIn K (cmg K (ma K (ga K c) m)))
theorem cmet_ok {K : PySem.W.Frag} {c m : Str} (h : cmetB K c m = true) : ClX.CMet K (ga K c) (.type "type") m (ma K (ga K c) m) (cmg K (ma K (ga K c) m)) := by
  obtain ⟨h1, h⟩ := ba h
  obtain ⟨h2, h3⟩ := ba h
  refine ⟨?_, ?_, h3⟩
  · split at h1
    · rename_i g p c' e
      obtain ⟨e1, h1⟩ := ba h1
      obtain ⟨e2, e3⟩ := ba h1
      rw [of_decide_eq_true e1, of_decide_eq_true e2, of_decide_eq_true e3] at e
      exact e
    · cases h1
  · unfold cmg
    split at h2
    · rename_i g r e
      rw [e]
      exact ⟨r, rfl⟩
    · cases h2
def strsV (xs : List Str) : List V := xs.map V.str
def conB (K : PySem.W.Frag) (c f : Str) (xs : List Str) : Bool := match PySem.W.findCls K (.ref (ga K c)) (.type "type") f with
  | some (.val (.ref p)) => (match K.lookup p with
    | some ⟨.type t, _, .seq its _, _⟩ => decide (t = "tuple") && (decide (its.size ≤ sizeLine) && He.relAll (strsV xs) its.toList)
    | _ => false)
  | _ => false
theorem repL_strs {K : PySem.W.Frag} {B : Hp} : ∀ xs : List Str, RepL K B (xs.map U.str) (strsV xs)
  | [] => rfl
  | x :: xs => ⟨.str x, strsV xs, rfl, rfl, repL_strs xs⟩
theorem con_ok {K : PySem.W.Frag} {c f : Str} {xs : List Str} (r : creadB K c = true) (h : conB K c f xs = true) : ConC K c f (.tup (xs.map U.str)) := by
  unfold conB at h
  split at h
  · rename_i p e
    split at h
    · rename_i t od its n sl e2
      obtain ⟨h1, h⟩ := ba h
      obtain ⟨h2, h3⟩ := ba h
      refine ⟨.type "type", .ref p, .ref p, cread_ok r, ⟨e, rfl⟩, fun B => ⟨p, strsV xs, rfl, .inr ⟨_, its, n, e2, congrArg Value.type (of_decide_eq_true h1), rfl, of_decide_eq_true h2, He.relAll_ok h3⟩, repL_strs xs⟩⟩
    · cases h
  · cases h
theorem xf_ok {K : PySem.W.Frag} {mg : Str → Option Value} {c : Str} (g : mg c = some (.ref (ga K c))) (h : (He.Fa.exc c).ok K = true) : XF K mg c := ⟨g, He.exc_ok h⟩
abbrev FaY : Type := PySem.W.Frag → Bool
abbrev AlY : Type := Bool × List FnY
def obsY (fa : List FaY) (fn : List DefY) (K : PySem.W.Frag) : AlY := ((fa.all fun f => f K) && fn.all fun d => d.ok K, fn.map fun d => fnY K d.at_)
def valY (fn : List DefY) : AlY := (true, fn.map DefY.val)
def SaysY (fa : List FaY) (fn : List DefY) (K : PySem.W.Frag) : Prop := obsY fa fn K = valY fn
def asY (g : Addr → Option Obj) (n : Nat) : List Addr := (He.asD g n ++ [cStatics, sysModules]).eraseDups
def obsYG (n : Nat) (fa : List FaY) (fn : List DefY) (g : Addr → Option Obj) : AlY := obsY fa fn (He.frG g (asY g n))
def hookY (n : Nat) (fa : List FaY) (fn : List DefY) : PySem.W.Hook where
  α := AlY
  obs := fun s => obsYG n fa fn s.heap.get?
  val := fun _ => valY fn
  says := fun _ h => ∃ K : PySem.W.Frag, K.In h ∧ SaysY fa fn K
  of := fun _ _ e => ⟨_, He.frG_in, e⟩
  keeps := fun _ _ _ ⟨K, hK, c⟩ k => ⟨K, PySem.W.Frag.In.keeps hK k, c⟩
theorem obsYG_eq {n : Nat} {fa : List FaY} {fn : List DefY} {g : Addr → Option Obj} {s : Shared} (h : ∀ a, g a = s.heap.get? a) : obsYG n fa fn g = (hookY n fa fn).obs s := by
  have e : g = s.heap.get? := funext h
  rw [e] <;> rfl
section
variable {fa : List FaY} {fn : List DefY} {K : PySem.W.Frag}
theorem SaysY.fact (c : SaysY fa fn K) (i : Nat) {f : FaY} (h : fa[i]? = some f) : f K = true := by
  have c1 := (ba (show ((fa.all fun f => f K) && fn.all fun d => d.ok K) = true from congrArg (fun z : AlY => z.1) c)).1
  exact List.all_eq_true.mp c1 f (List.mem_of_getElem? h)
theorem SaysY.def_ (c : SaysY fa fn K) (i : Nat) {d : DefY} (h : fn[i]? = some d) : fnY K d.at_ = d.val ∧ d.ok K = true := by
  have c2 := (ba (show ((fa.all fun f => f K) && fn.all fun d => d.ok K) = true from congrArg (fun z : AlY => z.1) c)).2
  have e : fn.map (fun d => fnY K d.at_) = fn.map DefY.val := congrArg (fun z : AlY => z.2) c
  have e2 : (fn.map fun d => fnY K d.at_)[i]? = (fn.map DefY.val)[i]? := by rw [e]
  rw [List.getElem?_map, List.getElem?_map, h] at e2
  exact ⟨Option.some.inj e2, List.all_eq_true.mp c2 d (List.mem_of_getElem? h)⟩
end
theorem repL_ints {K : PySem.W.Frag} {B : Hp} : ∀ ns : List Int, RepL K B (ns.map U.int) (ns.map V.int)
  | [] => rfl
  | x :: xs => ⟨.int x, xs.map V.int, rfl, rfl, repL_ints xs⟩
def spL (K : PySem.W.Frag) (mf : List Slot → Option CO) : Sp := fun vs H Q _ => spM K 1 mf vs H Q fun _ _ _ => False
theorem spM_law {K : PySem.W.Frag} {mf : List Slot → Option CO} {ns : List Int} (h : mf [.val (.frl (ns.map U.int))] = some (.val (.bl true) none)) {a : Addr} {H : Hp} (hS : SqL K H a (ns.map V.int)) : spL K mf [.ref a] H (fun v _ => v = .bl true) (fun _ _ _ => False) :=
  ⟨H, [.val (.frl (ns.map U.int))], _, Ex.refl, rfl, ⟨.ref a, [], rfl, ⟨a, _, rfl, hS, repL_ints ns⟩, rfl⟩, Nat.zero_le 1, h, fun v B' H' _ _ r => r⟩
end Sg
set_option Elab.async false
set_option linter.all false
set_option maxRecDepth 100000
set_option maxHeartbeats 4000000
namespace Sg
open PySem L2
variable {K : PySem.W.Frag}
def SmK (K : PySem.W.Frag) : Prop := ∃ o, K.lookup sysModules = some o ∧ o.cls = .type "dict"
def smB (K : PySem.W.Frag) : Bool := match K.lookup sysModules with
  | some o => o.cls == .type "dict"
  | none => false
theorem smK_ok (h : smB K = true) : SmK K := by
  unfold smB at h
  split at h
  · rename_i o e
    exact ⟨o, e, by simpa using h⟩
  · cases h
mutual
inductive DpG (K : PySem.W.Frag) (H : Hp) : V → PyData → Prop
  | non : DpG K H .non .none
  | bl (b : Bool) : DpG K H (.bl b) (.bool b)
  | int (i : Int) : DpG K H (.int i) (.int i)
  | str (x : Str) : DpG K H (.str x) (.str x)
  | lst {a : Addr} {xs : List V} {ds : List PyData} : SqL K H a xs → DpGA K H xs ds → DpG K H (.ref a) (.list ds)
  | tup {a : Addr} {xs : List V} {ds : List PyData} : SqT K H a xs → DpGA K H xs ds → DpG K H (.ref a) (.tuple ds)
  | dic {a : Addr} {ws : List (Key × V)} {ds : List (PyData × PyData)} : Rd H a (.dK ws) → DpGD K H ws ds → DpG K H (.ref a) (.dict ds)
inductive DpGA (K : PySem.W.Frag) (H : Hp) : List V → List PyData → Prop
  | nil : DpGA K H [] []
  | cons {v : V} {vs : List V} {d : PyData} {ds : List PyData} : DpG K H v d → DpGA K H vs ds → DpGA K H (v :: vs) (d :: ds)
inductive DpGD (K : PySem.W.Frag) (H : Hp) : List (Key × V) → List (PyData × PyData) → Prop
  | nil : DpGD K H [] []
  | consI {i : Int} {v : V} {vs : List (Key × V)} {d : PyData} {ds : List (PyData × PyData)} : DpG K H v d → DpGD K H vs ds → DpGD K H ((.inl i, v) :: vs) ((.int i, d) :: ds)
  | consS {i : Str} {v : V} {vs : List (Key × V)} {d : PyData} {ds : List (PyData × PyData)} : DpG K H v d → DpGD K H vs ds → DpGD K H ((.inr i, v) :: vs) ((.str i, d) :: ds)
end
section
open PySem.Spec PyProof.Rows
variable {X : Cx} {pins : List (Addr × Obj)} {σ : L2.St} {H : Hp} {s : Shared}
theorem not_sm (I : Inv X pins σ H s) (sm : SmK X.K) {a : Addr} {o : Obj} (ho : s.heap.get? a = some o) (hc : o.cls = .type "list") : sysModules ≠ a := fun z => by
  obtain ⟨o2, e2, c2⟩ := sm
  have q := I.kIn _ _ e2
  rw [z, ho] at q
  cases q
  rw [hc] at c2
  exact absurd c2 (by decide)
mutual
theorem DpG.reads (I : Inv X pins σ H s) (sm : SmK X.K) : ∀ (d : PyData) (v : V) (u : Value), DpG X.K H v d → RelV v u → ∃ as, Reads s.heap u d as ∧ sysModules ∉ as
  | .none, _, _, h, r => by
    cases h
    cases r
    exact ⟨_, Reads.none, by simp⟩
  | .bool b, _, _, h, r => by
    cases h
    cases r
    exact ⟨_, Reads.bool b, by simp⟩
  | .int i, _, _, h, r => by
    cases h
    obtain ⟨t, rfl⟩ := r
    exact ⟨_, Reads.int i t, by simp⟩
  | .str x, _, _, h, r => by
    cases h
    obtain ⟨t, rfl⟩ := r
    exact ⟨_, Reads.str x t, by simp⟩
  | .list ds, _, _, h, r => by
    cases h with
    | lst hs ha =>
      cases r
      obtain ⟨its, rv, ⟨o, n, ho, hc, _, hd⟩, _⟩ := I.list hs
      obtain ⟨as, hr, hn⟩ := DpGA.reads I sm ds _ its ha rv
      exact ⟨_, Reads.list ho hc hd hr, fun z => (List.mem_cons.mp z).elim (not_sm I sm ho hc) hn⟩
  | .tuple ds, _, _, h, r => by
    cases h with
    | tup hs ha =>
      cases r
      obtain ⟨its, rv, ⟨o, ho, hc, n, hd⟩, _⟩ := I.tuple hs
      obtain ⟨as, hr, hn⟩ := DpGA.reads I sm ds _ its ha rv
      exact ⟨_, Reads.tuple ho hc hd hr, hn⟩
  | .dict ds, _, _, h, r => by
    cases h with
    | @dic a ws _ hd ha =>
      cases r
      obtain ⟨z, lo, vs, rel, o, es, ep, ho, hx, hd2, _, hp, _⟩ := dk_rd I.hok hd
      obtain ⟨bs, q1, q2, hn⟩ := DpGD.reads I sm ds hp rel ha
      refine ⟨_, Reads.dict ho hx.1 hd2 q1 q2, fun z => ?_⟩
      rw [List.singleton_append] at z
      rcases List.mem_cons.mp z with z | z
      · rw [← z] at lo; simp at lo
      · exact hn z
theorem DpGA.reads (I : Inv X pins σ H s) (sm : SmK X.K) : ∀ (ds : List PyData) (vs : List V) (us : List Value), DpGA X.K H vs ds → Vals vs us → ∃ as, ReadsAll s.heap us ds as ∧ sysModules ∉ as
  | [], _, _, h, r => by
    cases h
    cases r
    exact ⟨_, ReadsAll.nil, by simp⟩
  | d :: ds, _, _, h, r => by
    cases h with
    | cons h1 h2 =>
      cases r with
      | cons r1 r2 =>
        obtain ⟨as, q1, n1⟩ := DpG.reads I sm d _ _ h1 r1
        obtain ⟨bs, q2, n2⟩ := DpGA.reads I sm ds _ _ h2 r2
        exact ⟨_, ReadsAll.cons q1 q2, fun z => (List.mem_append.mp z).elim n1 n2⟩
theorem DpGD.reads (I : Inv X pins σ H s) (sm : SmK X.K) {P : Program} {w : World} : ∀ (ds : List (PyData × PyData)) {es : List DictEntry} {vs : List (Key × Value)} {kvs : List (Key × V)}, Pairs (mixKind P w) es vs → KV kvs vs → DpGD X.K H kvs ds →
    ∃ bs, ReadsAll s.heap (es.map (·.key)) (ds.map (·.1)) [] ∧ ReadsAll s.heap (es.map (·.val)) (ds.map (·.2)) bs ∧ sysModules ∉ bs
  | [], _, _, _, p, r, h => by
    cases h
    cases r
    cases p
    exact ⟨[], ReadsAll.nil, ReadsAll.nil, by simp⟩
  | (k, d) :: ds, _, _, _, p, r, h => by
    cases h with
    | consI h1 h2 =>
      cases r with
      | cons hr ht =>
        cases p with
        | cons hk hv hp =>
          obtain ⟨bs, i1, i2, n2⟩ := DpGD.reads I sm ds hp ht h2
          obtain ⟨as, q1, n1⟩ := DpG.reads I sm d _ _ h1 hr.2
          refine ⟨as ++ bs, ReadsAll.cons (as := []) (bs := []) ?_ i1, ReadsAll.cons ?_ i2, fun z => (List.mem_append.mp z).elim n1 n2⟩
          · dsimp only
            rcases keyIs_shape hk with ⟨i, t, e1, e2⟩ | ⟨x, t, e1, e2⟩
            · have e3 := hr.1
              rw [e1] at e3
              dsimp only at e3
              cases e3
              rw [e2]; exact Reads.int _ t
            · have e3 := hr.1
              rw [e1] at e3
              cases e3
          · dsimp only
            rw [hv]
            exact q1
    | consS h1 h2 =>
      cases r with
      | cons hr ht =>
        cases p with
        | cons hk hv hp =>
          obtain ⟨bs, i1, i2, n2⟩ := DpGD.reads I sm ds hp ht h2
          obtain ⟨as, q1, n1⟩ := DpG.reads I sm d _ _ h1 hr.2
          refine ⟨as ++ bs, ReadsAll.cons (as := []) (bs := []) ?_ i1, ReadsAll.cons ?_ i2, fun z => (List.mem_append.mp z).elim n1 n2⟩
          · dsimp only
            rcases keyIs_shape hk with ⟨i, t, e1, e2⟩ | ⟨x, t, e1, e2⟩
            · have e3 := hr.1
              rw [e1] at e3
              cases e3
            · have e3 := hr.1
              rw [e1] at e3
              dsimp only at e3
              cases e3
              rw [e2]; exact Reads.str _ t
          · dsimp only
            rw [hv]
            exact q1
end
end
def rRepr (K : PySem.W.Frag) : List V → Hp → VK → Prop := fun xs H Q => SmK K → ∃ v d, xs = [v] ∧ DpG K H v d ∧ d.showable = true ∧ d.depth ≤ 60 ∧ d.shown.length ≤ sizeLine ∧ Q (.str d.shown) H
theorem call_reprD {X : Cx} (hu : X.A.units + 64 < cLine) (hg : X.A.guards = some []) (sm : SmK X.K) : CallR X (.builtin "repr") (rRepr X.K) := by
  intro pins s σ H xs us Q I r h
  obtain ⟨v, d, rfl, hd, hs, hk, hz, q⟩ := h sm
  have deep : ∀ a, v = .ref a → wpAny (model X.prog X.w) X.A (call (.builtin "repr") us) (EP X pins σ Q) X.xe s := fun a e => by
    subst e
    rw [Vals.ref1 r]
    obtain ⟨as, rr, hn⟩ := DpG.reads I sm d (.ref a) (.ref a) hd rfl
    exact repr_of_reads' rr hs (fun _ => hn) hg (by omega) (fun _ _ e => e) (fun h' u tk hk => ⟨.str _, H, I.kept hk, ⟨u, rfl⟩, q⟩) hz
  obtain ⟨u, rfl, ru⟩ : ∃ u, us = [u] ∧ RelV v u := by
    cases r with
    | cons r1 r2 => cases r2; exact ⟨_, rfl, r1⟩
  cases hd with
  | lst _ _ => exact deep _ rfl
  | tup _ _ => exact deep _ rfl
  | dic _ _ => exact deep _ rfl
  | non =>
    cases (show u = Value.none from ru)
    exact P.repr_of_none ⟨.str _, H, I.tok _, ⟨_, rfl⟩, q⟩
  | bl b =>
    cases (show u = Value.bool b from ru)
    exact P.repr_of_bool ⟨.str _, H, I.tok _, ⟨_, rfl⟩, by cases b <;> exact q⟩
  | int i =>
    obtain ⟨t, e⟩ := (show ∃ t, u = Value.int i t from ru)
    cases e
    exact P.repr_of_int (by simpa only [PyData.showable, decide_eq_true_eq] using hs) ⟨.str _, H, I.tok _, ⟨_, rfl⟩, q⟩
  | str x =>
    obtain ⟨t, e⟩ := (show ∃ t, u = Value.str x t from ru)
    cases e
    exact P.repr_of_str ⟨.str _, H, I.tok _, ⟨_, rfl⟩, q⟩ hz
mutual
def pdG : U → Option PyData
  | .non => some .none
  | .bl b => some (.bool b)
  | .int i => some (.int i)
  | .str s => some (.str s)
  | .lst us => (pdGL us).map .list
  | .frl us => (pdGL us).map .list
  | .tup us => (pdGL us).map .tuple
  | .dic kvs => (pdGD kvs).map .dict
  | _ => none
def pdGL : List U → Option (List PyData)
  | [] => some []
  | u :: us => (pdG u).bind fun d => (pdGL us).map fun ds => d :: ds
def pdGD : List (Key × U) → Option (List (PyData × PyData))
  | [] => some []
  | (.inl i, u) :: us => (pdG u).bind fun d => (pdGD us).map fun ds => (.int i, d) :: ds
  | (.inr i, u) :: us => (pdG u).bind fun d => (pdGD us).map fun ds => (.str i, d) :: ds
end
mutual
theorem pdG_ok {H : Hp} : ∀ (u : U) (v : V) (d : PyData), Rep K H u v → pdG u = some d → DpG K H v d
  | .non, _, _, r, e => by cases r; cases e; exact .non
  | .bl b, _, _, r, e => by cases r; cases e; exact .bl b
  | .int i, _, _, r, e => by cases r; cases e; exact .int i
  | .str s, _, _, r, e => by cases r; cases e; exact .str s
  | .ref _, _, _, r, e => by cases e
  | .lst us, _, _, r, e => by
    obtain ⟨a, vs, rfl, h1, h2⟩ := r
    obtain ⟨ds, e1, rfl⟩ := Option.map_eq_some_iff.mp e
    exact .lst (SqL.of h1) (pdGL_ok us vs ds h2 e1)
  | .frl us, _, _, r, e => by
    obtain ⟨a, vs, rfl, h1, h2⟩ := r
    obtain ⟨ds, e1, rfl⟩ := Option.map_eq_some_iff.mp e
    exact .lst h1 (pdGL_ok us vs ds h2 e1)
  | .tup us, _, _, r, e => by
    obtain ⟨a, vs, rfl, h1, h2⟩ := r
    obtain ⟨ds, e1, rfl⟩ := Option.map_eq_some_iff.mp e
    exact .tup h1 (pdGL_ok us vs ds h2 e1)
  | .dic us, _, _, r, e => by
    obtain ⟨a, vs, rfl, h1, h2⟩ := r
    obtain ⟨ds, e1, rfl⟩ := Option.map_eq_some_iff.mp e
    exact .dic h1 (pdGD_ok us vs ds h2 e1)
  | .ins _ _, _, _, _, e => by cases e
  | .exc _, _, _, _, e => by cases e
  | .exf _ _ _, _, _, _, e => by cases e
  | .ndc _, _, _, _, e => by cases e
theorem pdGL_ok {H : Hp} : ∀ (us : List U) (vs : List V) (ds : List PyData), RepL K H us vs → pdGL us = some ds → DpGA K H vs ds
  | [], _, _, r, e => by cases r; cases e; exact .nil
  | u :: us, _, _, r, e => by
    obtain ⟨v, vr, rfl, h1, h2⟩ := r
    obtain ⟨d, e1, e2⟩ := Option.bind_eq_some_iff.mp e
    obtain ⟨ds, e3, rfl⟩ := Option.map_eq_some_iff.mp e2
    exact .cons (pdG_ok u v d h1 e1) (pdGL_ok us vr ds h2 e3)
theorem pdGD_ok {H : Hp} : ∀ (us : List (Key × U)) (vs : List (Key × V)) (ds : List (PyData × PyData)), RepD K H us vs → pdGD us = some ds → DpGD K H vs ds
  | [], _, _, r, e => by cases r; cases e; exact .nil
  | (.inl i, u) :: us, _, _, r, e => by
    obtain ⟨v, vr, rfl, h1, h2⟩ := r
    obtain ⟨d, e1, e2⟩ := Option.bind_eq_some_iff.mp e
    obtain ⟨ds, e3, rfl⟩ := Option.map_eq_some_iff.mp e2
    exact .consI (pdG_ok u v d h1 e1) (pdGD_ok us vr ds h2 e3)
  | (.inr i, u) :: us, _, _, r, e => by
    obtain ⟨v, vr, rfl, h1, h2⟩ := r
    obtain ⟨d, e1, e2⟩ := Option.bind_eq_some_iff.mp e
    obtain ⟨ds, e3, rfl⟩ := Option.map_eq_some_iff.mp e2
    exact .consS (pdG_ok u v d h1 e1) (pdGD_ok us vr ds h2 e3)
end
def reprU (u : U) : Option Str := (pdG u).bind fun d => if d.showable = true ∧ d.depth ≤ 60 ∧ d.shown.length ≤ 16777216 then some d.shown else none
def isRef : U → Bool
  | .lst _ => true
  | .frl _ => true
  | .tup _ => true
  | .dic _ => true
  | _ => false
def oRepr : OpC K where
  r := rRepr K
  f := fun us => match us with
    | [u] => (reprU u).map .str
    | _ => none
  ok := fun H xs us w r e => by
    split at e
    · obtain ⟨v, rfl, r1⟩ := repL1 r
      obtain ⟨x, e1, rfl⟩ := Option.map_eq_some_iff.mp e
      obtain ⟨d, e2, e1⟩ := Option.bind_eq_some_iff.mp e1
      split at e1
      · rename_i h
        cases e1
        obtain ⟨h1, h3, h4⟩ := h
        exact ⟨_, rfl, fun Q q _ => ⟨v, d, rfl, pdG_ok _ _ _ r1 e2, h1, h3, by rw [PySem.sizeLine_eq]; exact h4, q⟩⟩
      · cases e1
    · cases e
def resolveL (ρ : Env) : List (U ⊕ Nat) → Option (List Slot)
  | [] => some []
  | .inl u :: r => (resolveL ρ r).map fun as => .val u :: as
  | .inr j :: r => match ρ[j]? with
    | some (.cel _ us) => (resolveL ρ r).map fun as => .val (.lst us) :: as
    | some (.celD _ us) => (resolveL ρ r).map fun as => .val (.dic us) :: as
    | _ => none
theorem resolveL_ok {F : Fc} {ρ : Env} {σ : St} {B H : Hp} (R : Rel K F ρ σ B H) : ∀ {is : List (U ⊕ Nat)} {vs : List V} {as : List Slot}, ItemsOk K B σ is vs → resolveL ρ is = some as →
    ∃ L : List Addr, (∀ a ∈ L, B a = none ∧ ∃ o, H a = some o) ∧ ∀ Bl : Hp, Ex B Bl → (∀ a ∈ L, Bl a = H a) → ArgsOk K Bl H as vs ∧ as.length = is.length ∧ nCel as = 0 ∧ cellsOf as vs = []
  | [], _, as, h, e => by cases h; cases e; exact ⟨[], by simp, fun Bl _ _ => ⟨rfl, rfl, rfl, rfl⟩⟩
  | .inl u :: r, _, as, h, e => by
    obtain ⟨v, vr, rfl, h1, h2⟩ := h
    obtain ⟨bs, eb, rfl⟩ := Option.map_eq_some_iff.mp e
    obtain ⟨L, q0, q1⟩ := resolveL_ok R h2 eb
    refine ⟨L, q0, fun Bl xb hl => ?_⟩
    obtain ⟨z1, z2, z3, z4⟩ := q1 Bl xb hl
    exact ⟨⟨v, vr, rfl, Rep.mono xb _ _ h1, z1⟩, by simp [z2], by simpa [nCel, List.filter_cons, Slot.isC] using z3, by simpa [cellsOf] using z4⟩
  | .inr j :: r, _, as, h, e => by
    obtain ⟨v, vr, rfl, h1, h2⟩ := h
    unfold resolveL at e
    split at e
    · rename_i own us hu
      obtain ⟨bs, eb, rfl⟩ := Option.map_eq_some_iff.mp e
      obtain ⟨L, q0, q1⟩ := resolveL_ok R h2 eb
      obtain ⟨p, ws, hv, z1, z2, z3, _⟩ := R.sl j _ hu
      have ev : v = .ref p := by rw [h1] at hv; exact Option.some.inj hv
      subst ev
      refine ⟨p :: L, fun a ha => ?_, fun Bl xb hl => ?_⟩
      · rcases List.mem_cons.mp ha with rfl | ha
        · exact ⟨z2, _, z1⟩
        · exact q0 a ha
      · obtain ⟨y1, y2, y3, y4⟩ := q1 Bl xb fun a ha => hl a (List.mem_cons_of_mem _ ha)
        have hb : Bl p = some (.lst ws) := by rw [hl p List.mem_cons_self]; exact z1
        exact ⟨⟨.ref p, vr, rfl, ⟨p, ws, rfl, hb, RepL.mono xb _ _ z3⟩, y1⟩, by simp [y2], by simpa [nCel, List.filter_cons, Slot.isC] using y3, by simpa [cellsOf] using y4⟩
    · rename_i own us hu
      obtain ⟨bs, eb, rfl⟩ := Option.map_eq_some_iff.mp e
      obtain ⟨L, q0, q1⟩ := resolveL_ok R h2 eb
      obtain ⟨p, ws, hv, z1, z2, z3, _⟩ := R.sl j _ hu
      have ev : v = .ref p := by rw [h1] at hv; exact Option.some.inj hv
      subst ev
      refine ⟨p :: L, fun a ha => ?_, fun Bl xb hl => ?_⟩
      · rcases List.mem_cons.mp ha with rfl | ha
        · exact ⟨z2, _, z1⟩
        · exact q0 a ha
      · obtain ⟨y1, y2, y3, y4⟩ := q1 Bl xb fun a ha => hl a (List.mem_cons_of_mem _ ha)
        have hb : Bl p = some (.dK ws) := by rw [hl p List.mem_cons_self]; exact z1
        exact ⟨⟨.ref p, vr, rfl, ⟨p, ws, rfl, .inl hb, RepD.mono xb _ _ z3⟩, y1⟩, by simp [y2], by simpa [nCel, List.filter_cons, Slot.isC] using y3, by simpa [cellsOf] using y4⟩
    · cases e
noncomputable def lendB (B H : Hp) (L : List Addr) : Hp := fun a => if a ∈ L then H a else B a
theorem lendB_ex {B H : Hp} {L : List Addr} (h : ∀ a ∈ L, B a = none ∧ ∃ o, H a = some o) : Ex B (lendB B H L) := fun a o e => by
  unfold lendB
  split
  · rename_i m
    rw [(h a m).1] at e; cases e
  · exact e
theorem lendB_up {B H : Hp} {L : List Addr} (x : Ex B H) : Ex (lendB B H L) H := fun a o e => by
  unfold lendB at e
  split at e
  · exact e
  · exact x a o e
def lendM (n : Nat) (mf : List Slot → Option CO) (o : Option CA) : Option EO := o.bind fun o => match o with
  | .ex e ρ => some (.ex e ρ)
  | .ok is ρ => if is.length = n then (resolveL ρ is).bind fun as => match mf as with
      | some (.val u _) => if (scV u).isSome then some (.ok u ρ) else none
      | some (.ex e _) => some (.ex e ρ)
      | _ => none
    else none
def mCallL (n : Nat) (mf : List Slot → Option CO) (a : MC K) (hk : a.k = true := by exact id rfl) : ME K where
  t := fun W => tCallS (spM K n mf) (WE W) (a.t W)
  m := fun ρ => lendM n mf (a.m ρ)
  p := false
  k := true
  ok := fun F W ρ σ B H Q out e R f => by
    obtain ⟨o, e1, e⟩ := Option.bind_eq_some_iff.mp e
    cases o with
    | ex x ρ1 => cases e; exact a.ok F W ρ σ B H _ _ e1 R fun cls d B1 H1 x1 R1 xr => f cls d B1 H1 x1 R1 xr
    | ok is ρ1 =>
      refine a.ok F W ρ σ B H _ _ e1 R fun vs B1 H1 x1 p1 R1 r1 => ?_
      rw [hk] at r1
      dsimp only at e
      split at e
      · rename_i hn
        obtain ⟨as, ea, e⟩ := Option.bind_eq_some_iff.mp e
        obtain ⟨L, q0, q1⟩ := resolveL_ok R1 r1 ea
        have xl := lendB_ex q0
        have xu : Ex (lendB B1 H1 L) H1 := lendB_up R1.ex
        obtain ⟨z1, z2, z3, z4⟩ := q1 _ xl fun a m => if_pos m
        have go : ∀ {B' H' : Hp}, Go (cellsOf as vs) (lendB B1 H1 L) H1 B' H' → Go [] B1 H1 B1 H' := fun {B' H'} g => by
          rw [z4] at g
          exact ⟨Ex.refl, (xl.trans g.bb).trans g.bh, g.hh, g.th, fun _ _ h _ => h⟩
        split at e
        · rename_i u c em
          split at e
          · rename_i hs
            cases e
            obtain ⟨z, hz⟩ := Option.isSome_iff_exists.mp hs
            refine ⟨_, as, _, xu, z2.trans hn, z1, by omega, em, fun v B' H' g cc r => ?_⟩
            obtain ⟨rfl, r2⟩ := scV_rep (B' := B1) hz r
            exact f v B1 H' x1 (fun z => nomatch z) (R1.grow (go g)) r2
          · cases e
        · rename_i x c em
          cases e
          exact ⟨_, as, _, xu, z2.trans hn, z1, by omega, em, fun cls d B' H' g cc xr => f cls d B1 H' x1 (R1.grow (go g)) (XRel.up R1 xr)⟩
        · cases e
      · cases e
end Sg
set_option Elab.async false
set_option linter.all false
set_option maxRecDepth 100000
set_option maxHeartbeats 4000000
namespace Sg
open PySem L2 PySem.Spec PyProof.Rows
def FnG (P : Program) (w : World) (K : PySem.W.Frag) (mg : Str → Option Value) (base : Heap) (CX : CXT) (k : Nat) (f : Addr) (sp : Sp) : Prop :=
  ∀ (A : Around) (outer : List PySem.Env) (s : Shared) (H : Hp) (us : List Value) (vs : List V) (Q : VK) (E : XK), Room k A → A.guards = some [] → Env0 P w K mg base A outer s H → Vals vs us → sp vs H Q E →
    codeAny (model P w) A (.call (.ref f) ⟨us, []⟩) (CR CX outer P w H s Q E) s
section
variable {P : Program} {w : World} {K : PySem.W.Frag} {mg : Str → Option Value} {base : Heap} {CX : CXT}
theorem fn_gd {k : Nat} {f : Addr} {fd : FuncData} {x qual : Str} {st : Stmt} {N ps : List Str} {sp : Sp} (F : Fun K x qual st f fd) (S : FnScope N ps (defScope st)) (hbd : Binds K fd ps []) (len : ∀ v1 H1 Q1 E1, sp v1 H1 Q1 E1 → v1.length = ps.length)
    (hbody : ∀ (cdv : Value) (A : Around) (outer : List PySem.Env) (s : Shared) (H : Hp) (vs : List V) (Q : VK) (E : XK), Room k (A.deeper (envOfC qual (defScope st) s.heap.objs.size f cdv)) → A.guards = some [] → sp vs H Q E →
      ∃ t, PSs (cxOf CX P w K mg base N qual (defScope st) f cdv A outer s H E) (defBody st) t ∧ t { nx := fun _ H2 => Q .non H2, rt := Q } (L2.start N vs) H) : FnG P w K mg base CX (k + 1) f sp := by
  obtain ⟨oc, od, kV, doc, pm, an, cdv, ct, osl, rfl, lk, hcd⟩ := F.ex
  intro A outer s H us vs Q E hroom hgu env0 rel hspec
  have hlen := len _ _ _ _ hspec
  have hlu : us.length = ps.length := by rw [← rel.length]; exact hlen
  have KH : K.In s.heap := env0.mod.kin.keeps fun b o e => (env0.bs b o e).1
  have nolim : s.heap.NoLimit := env0.mod.nolimit.keeps fun b o e => (env0.bs b o e).1
  have hb := hbd s us KH (by rw [List.append_nil]; exact hlu)
  rw [List.append_nil] at hb
  have hkd : ∀ y ∈ ps.zip us, (defScope st).names.lookup y.1 = some .local ∨ ((defScope st).names.lookup y.1 = some .cell ∧ ((cellsFrom (s.heap.objs.size + 1) (defScope st).names []).lookup y.1).isSome = true) := fun ⟨n, v⟩ hy => by
    rcases S.par n (List.of_mem_zip hy).1 with q1 | q1
    · exact Or.inl q1
    · exact Or.inr ⟨q1, PySem.W.cellsFrom_some _ _ _ (Or.inl q1)⟩
  refine codeAny_call_function hroom.depth (KH _ _ lk) rfl S.co S.gen rfl (PySem.W.codeRec_of KH hcd) (hb _ _ _ _ ?_)
  refine wpAny_newFunctionEnv_cells S.kind hkd fun env henv s1 x1 => ?_
  subst henv
  refine ⟨nolim.keeps x1.toInCall.keep, codeAny_func ?_⟩
  obtain ⟨t, ht, hq⟩ := hbody cdv A outer s H vs Q E (hroom.deeper _) hgu hspec
  have I : Inv (cxOf CX P w K mg base N qual (defScope st) f cdv A outer s H E) [] (L2.start N vs) H s1 := inv_start S hroom.hd env0 hlen rel x1
  refine wpAny_mono (ht.run [] s1 (L2.start N vs) H _ I hq) (fun fl s2 hs => ?_) fun e s2 hs => hs
  have done : ∀ {σ2 : L2.St} {H2 : Hp} {v : V} {u : Value}, Inv (cxOf CX P w K mg base N qual (defScope st) f cdv A outer s H E) [] σ2 H2 s2 → RelV v u → Q v H2 → CE outer P w H s Q u s2 :=
    fun {σ2 H2 v u} J rv q1 => ⟨v, H2, J.os, J.bare, J.base, J.hok, rv, q1⟩
  cases fl with
  | ret u =>
    obtain ⟨v, σ2, H2, J, rv, q1⟩ := hs
    exact done J rv q1
  | next =>
    obtain ⟨σ2, H2, J, q1⟩ := hs
    exact done (v := V.non) (u := Value.none) J rfl q1
  | brk =>
    obtain ⟨_, _, _, q1⟩ := hs
    exact q1.elim
  | cont =>
    obtain ⟨_, _, _, q1⟩ := hs
    exact q1.elim
theorem fn_gX {x qual : Str} {st : Stmt} {f : Addr} {fd : FuncData} {N ps : List Str} {k n : Nat} (F : Fun K x qual st f fd) (S : FnScope N ps (defScope st)) (b : MS K) (hn : ps.length = n) (hN : n ≤ N.length) (hbd : Binds K fd ps [])
    (d : ∀ (cdv : Value) (A : Around) (outer : List PySem.Env) (s : Shared) (H : Hp) (E : XK), Room k (A.deeper (PyProof.Rows.envOfC qual (defScope st) s.heap.objs.size f cdv)) → A.guards = some [] → ∃ t, PSs (cxOf (L2.CX P w) P w K mg base N qual (defScope st) f cdv A outer s H E) (defBody st) t ∧ t = b.t fun cls d _ H => E cls d H) :
    FnG P w K mg base (L2.CX P w) (k + 1) f (spM K n (mfOf N.length b.m)) := by
  refine fn_gd F S hbd (fun vs H Q E h => by rw [hn]; exact spM_len vs H Q E h) fun cdv A outer s H vs Q E hr hg h => ⟨b.t fun cls d _ H => E cls d H, (by obtain ⟨t, h1, h2⟩ := d cdv A outer s H E hr hg; rw [← h2]; exact h1), ?_⟩
  obtain ⟨B, as, o, x, e, a, n1, m, f⟩ := h
  exact body_fin (n := n) x (by omega) a n1 m f
end
structure CalG (P : Program) (w : World) (K : PySem.W.Frag) (mg : Str → Option Value) (base : Heap) (CX : CXT) (k : Nat) (x : Str) (n : Nat) (mf : List Slot → Option CO) : Prop where
  mg_ : mg x = some (.ref (He.ga K x))
  kp : PySem.W.keepIn K (.ref (He.ga K x)) = true
  ok : FnG P w K mg base CX k (He.ga K x) (spM K n mf)
section
variable {X : Cx} {pos p : Pos} {x : Str} {e : Expr} {es : List Expr} {t : TA} {k n : Nat} {mf : List Slot → Option CO} {W : WX} {CX : CXT}
theorem run_fnG {f : Addr} {sp : Sp} {pins : List (Addr × Obj)} {σ : L2.St} {H : Hp} {s : Shared} {E : L2.St → XK} {Q : VK} {us : List Value} {vs : List V} (F : FnG X.prog X.w X.K X.mg X.base CX k f sp) (hr : Room k X.A) (hgu : X.A.guards = some []) (hx : PassesAt CX X σ (E σ)) (I : Inv X pins σ H s)
    (r : Vals vs us) (h : sp vs H Q (E σ)) : wpAny (model X.prog X.w) X.A (call (.ref f) us) (EP X pins σ Q) X.xe s := by
  refine wpAny_call (codeAny_mono (F X.A X.stack s H us vs Q (E σ) hr hgu I.env0 r h) fun r1 s1 hq => ?_)
  cases r1 with
  | error e => exact hx pins H s e s1 I hq
  | ok fl =>
    cases fl with
    | ret u => exact I.after hq
    | next => exact hq.elim
    | brk => exact hq.elim
    | cont => exact hq.elim
theorem pcalG (c : CalG X.prog X.w X.K X.mg X.base CX k x n mf) (hr : Room k X.A) (hgu : X.A.guards = some []) (hx : ∀ σ, PassesAt CX X σ (WE W σ)) (ha : PA X (e :: es) t) (hg : Gl X x := by rfl) (hdb : (x == ("__debug__" : Str)) = false := by decide)
    (he : starEach (e :: es) X.env = (false, eval e X.env) :: starEach es X.env := by rfl) (hpl : (backTo pos (starEach es X.env)).any (·.1) = false := by rfl) :
    PE X (.Call (.Name x p) (e :: es) [] pos) (tCallS (spM X.K n mf) (WE W) t) := by
  refine ⟨fun pins s σ H Q I h => ?_⟩
  refine wpAny_Call_Name_kw (ld_glob I hg c.mg_ ?_ hdb)
  refine PySem.W.callWith_K (h₀ := X.base) I.ok.mod.kin c.kp (thn (ha.run pos pins s σ H _ I h) fun us s1 ⟨vs, H1, I1, r, q⟩ => ⟨I1.kIn, ?_⟩) he hpl
  exact run_fnG c.ok hr hgu (hx σ) I1 r q
theorem pcalGX (c : CalG X.prog X.w X.K X.mg X.base (L2.CX X.prog X.w) k x n mf) (hr : Room k X.A) (hgu : X.A.guards = some []) (tk : Takes X W) (ha : PA X (e :: es) t) (hg : Gl X x := by rfl) (hdb : (x == ("__debug__" : Str)) = false := by decide)
    (he : starEach (e :: es) X.env = (false, eval e X.env) :: starEach es X.env := by rfl) (hpl : (backTo pos (starEach es X.env)).any (·.1) = false := by rfl) :
    PE X (.Call (.Name x p) (e :: es) [] pos) (tCallS (spM X.K n mf) (WE W) t) := pcalG c hr hgu (fun σ => passAt tk σ) ha hg hdb he hpl
end
theorem law_callG {P : Program} {w : World} {K : PySem.W.Frag} {mg mb : Str → Option Value} {k : Nat} {fa a : Addr} {sp : Sp} {s1 : Shared} {vs : List Value} {ns : List Int}
    (kin : K.In s1.heap) (hns : s1.heap.Ns mainGlobals mg) (hbn : s1.heap.Ns builtinsNs mb) (hbb : ∀ y : Str, y ≠ "__name__" → mb y = bootBuiltins y) (hlim : s1.heap.NoLimit) (hgens : s1.gens = #[])
    (hobj : s1.heap.get? a = some { cls := .type "list", data := .seq vs.toArray }) (hint : IntsAre vs ns) (hsz : ns.length ≤ sizeLine) (hroom : Room k callerA)
    (F : ∀ base : Heap, K.In base → base.Ns mainGlobals mg → FnG P w K mg base CX0 k fa sp)
    (hsp : ∀ H : Hp, Only H → SqL K H a (ns.map V.int) → sp [.ref a] H (fun v _ => v = .bl true) fun _ _ _ => False) :
    codeAny (model P w) callerA (.call (.ref fa) ⟨[.ref a], []⟩) (fun res s2 => res = .ok (.ret (.bool true)) ∧ OldK s1.heap s2.heap ∧ s2.os = s1.os ∧ AllBare s2.gens) s1 := by
  have relv := vals_ints hint
  have hlv := hint.length
  have core : ∀ H : Hp, Only H → SqL K H a (ns.map V.int) → HOk P w H s1.heap → (∀ b, H b ≠ none → b = a) → (H a ≠ none → K.lookup a = none) →
      codeAny (model P w) callerA (.call (.ref fa) ⟨[.ref a], []⟩) (fun res s2 => res = .ok (.ret (.bool true)) ∧ OldK s1.heap s2.heap ∧ s2.os = s1.os ∧ AllBare s2.gens) s1 := by
    intro H hOnly hSq hHok hAt hNot
    have toB : ∀ {b : Addr} {o : Obj}, s1.heap.get? b = some o → H b = none → (hidT s1.heap H).get? b = some o := fun g1 n1 => hidT_get g1 n1
    have noD : ∀ {b : Addr} {o : Obj} {es : Array DictEntry} {ep : Nat}, s1.heap.get? b = some o → o.data = .dict es ep → H b = none := fun {b o es ep} g1 d1 => by
      cases hb1 : H b with
      | none => rfl
      | some u =>
        have hba : b = a := hAt b (by rw [hb1]; simp)
        subst hba
        rw [hobj] at g1; cases g1
        have d2 : Data.seq vs.toArray _ = Data.dict es ep := d1
        cases d2
    have nsB : ∀ {b : Addr} {m : Str → Option Value}, s1.heap.Ns b m → (hidT s1.heap H).Ns b m := fun {b m} ⟨o, es, ep, g1, d1, r1⟩ => ⟨o, es, ep, toB g1 (noD g1 d1), d1, r1⟩
    have kinB : K.In (hidT s1.heap H) := fun b o g1 => toB (kin b o g1) (by
      cases hb1 : H b with
      | none => rfl
      | some u =>
        have hba : b = a := hAt b (by rw [hb1]; simp)
        subst hba
        rw [hNot (by rw [hb1]; simp)] at g1; cases g1)
    have modB : Mod K mg (hidT s1.heap H) := ⟨kinB, nsB hns, ⟨mb, nsB hbn, hbb⟩, let ⟨mc, z1, z2⟩ := hlim; ⟨mc, nsB z1, z2⟩⟩
    have envB : Env0 P w K mg (hidT s1.heap H) callerA [] s1 H := ⟨rfl, modB, fun b o g1 => of_hidT g1, Nat.le_of_eq (hidT_size _ _), trivial, fun b hb1 => absurd (show b ∈ ([] : List Addr) from hb1) (by simp), hHok, .of_eq hgens⟩
    refine codeAny_mono (F _ kinB (nsB hns) callerA [] s1 H [.ref a] [.ref a] _ _ hroom rfl envB (.cons rfl .nil) (hsp H hOnly hSq)) fun res s2 hres => ?_
    cases res with
    | error e => exact (show False from hres).elim
    | ok fl =>
      cases fl with
      | next => exact (show False from hres).elim
      | brk => exact (show False from hres).elim
      | cont => exact (show False from hres).elim
      | ret u =>
        obtain ⟨v, H2, os2, bare2, un2, hok2, rv2, q2⟩ := hres
        have q3 : v = .bl true := q2
        subst q3
        obtain rfl : u = Value.bool true := rv2
        refine ⟨rfl, OldK.of_keep fun b o g1 => ?_, os2, bare2⟩
        cases hb1 : H b with
        | none => exact un2.keep b o g1 hb1 (by intro z; exact absurd (show b ∈ ([] : List Addr) from z) (by simp)) (by simp)
        | some u =>
          rcases hOnly b with z | ⟨ob, xs, z⟩
          · rw [hb1] at z; cases z
          · have z2 := un2.frzs b ob _ z
            obtain ⟨y1, _⟩ := hHok b _ z
            obtain ⟨y2, _⟩ := hok2 b _ z2
            rw [g1] at y1; cases y1
            exact y2
  cases hka : K.lookup a with
  | some o =>
    have g1 := kin a o hka
    rw [hobj] at g1
    cases g1
    refine core (fun _ => none) (fun _ => .inl rfl) (.inr ⟨_, vs.toArray, _, hka, rfl, rfl, rfl, by rw [List.size_toArray, hlv]; exact hsz, by simpa using relv⟩) (fun b u z => by have z2 : (none : Option HO) = some u := z; cases z2) (fun b z => absurd rfl z) fun z => absurd rfl z
  | none =>
    refine core (fun b => if b = a then some (.frz { cls := .type "list", data := .seq vs.toArray } (.lst (ns.map V.int))) else none) (fun b => ?_) (.inl (.inr ⟨{ cls := .type "list", data := .seq vs.toArray }, if_pos rfl⟩)) (fun b u z => ?_) (fun b z => ?_) fun _ => hka
    · by_cases hba : b = a
      · exact .inr ⟨_, _, if_pos hba⟩
      · exact .inl (if_neg hba)
    · by_cases hba : b = a
      · have z2 := (if_pos hba).symm.trans z
        cases z2
        subst hba
        exact ⟨hobj, by rw [List.length_map]; exact hsz, vs, _, relv, hobj⟩
      · have z2 := (if_neg hba).symm.trans z
        cases z2
    · by_cases hba : b = a
      · exact hba
      · exact absurd (if_neg hba) z
theorem walk_G {l : PySem.W.OpenLaw} {n k : Nat} {q : Program} {loose : List Str} {XP : (Str → Option Value) → Heap → Prop} {YP : World → Heap → Prop} {d : DefRec}
    (hm : l.most = some n) (hz : n ≤ sizeLine) (hdf : d.params.defaults = []) (hroom : Room k callerA)
    (F : ∀ (w : World) (mg : Str → Option Value) (fa : Addr) (h : Heap), YP w h → h.Ns mainGlobals mg → mg d.name = some (.ref fa) →
      ∃ (K : PySem.W.Frag) (sp : Sp), K.In h ∧
        (∀ (H : Hp) (a : Addr) (ns : List Int), ns.length ≤ n → Only H → SqL K H a (ns.map V.int) → sp [.ref a] H (fun v _ => v = .bl true) fun _ _ _ => False) ∧
        ∀ base : Heap, K.In base → base.Ns mainGlobals mg → FnG l.prog w K mg base CX0 k fa sp) :
    PySem.W.WalkO q loose XP YP l.row.toRowW d [] (fun f vs => PySem.call f vs) := by
  refine Att.attach_call hm hdf fun w s0 s1 mg mb fa o pm cd doc a vs ns G Y ho hd hcd hmg hobj hint hlen hgens => ?_
  obtain ⟨K, sp, kin, hsp, hF⟩ := F w mg fa _ Y G.T.g hmg
  exact law_callG kin G.T.g G.T.b G.T.builtins G.T.nolimit hgens hobj hint (Nat.le_trans hlen hz) hroom hF fun H hO hS => hsp H a ns hlen hO hS
end Sg
set_option Elab.async false
set_option linter.all false
set_option maxRecDepth 100000
set_option maxHeartbeats 4000000
namespace Sg
open PySem L2 PySem.Spec PyProof.Rows
end Sg
set_option Elab.async false
set_option linter.all false
set_option maxRecDepth 100000
set_option maxHeartbeats 4000000
namespace Sg
open PySem L2 PySem.Spec PyProof.Rows
def rSetL (K : PySem.W.Frag) (w : World) : List V → Hp → VK → Prop := fun xs H Q => ∃ (a : Addr) (ns : List Int), xs = [V.ref a] ∧ SqL K H a (ns.map V.int) ∧ ns.length ≤ 4000 ∧
  ∀ p c, c ≤ ns.length → H p = none → Q (.ref p) (upd H p (SetO w p (fun j => decide (j ∈ ns)) c))
end Sg
set_option Elab.async false
set_option linter.all false
set_option maxRecDepth 100000
set_option maxHeartbeats 4000000
namespace Sg
open PySem L2
variable {K : PySem.W.Frag}
def FinP (K : PySem.W.Frag) (F : Fc) (W : WX) (ks : List Key) (σ : St) (B H : Hp) (Q : List (V × V) → Hp → Prop) : AO → Prop
  | .ok us ρ' => ∀ vs B' H', Ex B B' → Rel K F ρ' σ B' H' → RepL K B' us vs → vs.length = ks.length → Q ((ks.map kV).zip vs) H'
  | .ex e ρ' => ∀ cls d B' H', Ex B B' → Rel K F ρ' σ B' H' → XRel K F e cls d H' → W cls d σ H'
structure MP (K : PySem.W.Frag) where
  ks : List Key
  t : WX → List (TE × TE)
  m : Env → Option AO
  ok : ∀ (F : Fc) (W : WX) (ρ : Env) (σ : St) (B H : Hp) (Q : List (V × V) → Hp → Prop) (o : AO), m ρ = some o → Rel K F ρ σ B H → FinP K F W ks σ B H Q o → tPairs (t W) σ H Q
section
variable {X : Cx} {W : WX} {pos p2 p3 p4 apos : Pos} {e a b c : Expr} {es : List Expr} {A B C : ME X.K} {j : Nat} {x : Str} {D : MP X.K} {ks : List (Option Expr)} {vs : List Expr}
theorem drepr {k : Nat} {L : MA X.K} (hr : Room k X.A) (hg : X.A.guards = some []) (sm : SmK X.K) (hm : X.mg "repr" = none) (ha : PA X (e :: es) (L.t W)) (hgl : Gl X "repr" := by rfl)
    (he : starEach (e :: es) X.env = (false, eval e X.env) :: starEach es X.env := by rfl) (hpl : (backTo pos (starEach es X.env)).any (·.1) = false := by rfl) : PE X (.Call (.Name "repr" p2) (e :: es) [] pos) ((mBi oRepr L).t W) :=
  dbiB (call_reprD hr.units hg sm) hm ha (by decide +kernel) hgl (by decide) (by decide) he hpl
end
theorem lawG0 {P : Program} {w : World} {K : PySem.W.Frag} {mg : Str → Option Value} {base : Heap} {k : Nat} {f : Addr} {mf : List Slot → Option CO} (F : FnG P w K mg base (L2.CX P w) k f (spM K 1 mf)) : FnG P w K mg base CX0 k f (spL K mf) :=
  fun A outer s H us vs Q E hr hg e0 r h => codeAny_mono (F A outer s H us vs Q _ hr hg e0 r h) fun r s' hq => by
    cases r with
    | error e =>
      obtain ⟨_, _, _, _, _, _, _, _, _, _, _, _, z⟩ := hq
      exact z.elim
    | ok fl => cases fl <;> exact hq
end Sg
set_option Elab.async false
set_option linter.all false
set_option maxRecDepth 100000
set_option maxHeartbeats 4000000
namespace Sg
open PySem L2
variable {K : PySem.W.Frag}
theorem mC_m (u : U) (z : V) (h : scV u = some z) (ρ : Env) : (@mC K u z h).m ρ = (some (.ok u ρ)) := rfl
theorem mVar_m (i : Nat) (ρ : Env) : (@mVar K i).m ρ = (match ρ[i]? with
    | some (.val u) => some (.ok u ρ)
    | some (.lck kvs) => some (.ok (.dic kvs) ρ)
    | some (.nam _ u) => some (.ok u ρ)
    | _ => none) := rfl
theorem mLook_m (i : Nat) (ρ : Env) : (@mLook K i).m ρ = (match ρ[i]? with
    | some (.val u) => some (.ok u ρ)
    | some (.cel _ us) => some (.ok (.lst us) ρ)
    | some (.celD _ us) => some (.ok (.dic us) ρ)
    | some (.lck us) => some (.ok (.dic us) ρ)
    | some (.nam _ u) => some (.ok u ρ)
    | _ => none) := rfl
theorem mLet_m (i : Nat) (ρ : Env) : (@mLet K i).m ρ = (match ρ[i]? with
    | some (.val u) => some (.ok u ρ)
    | some (.cel true us) => some (.ok (.lst us) (ρ.set i (.val (.lst us))))
    | _ => none) := rfl
theorem mSc_m (a : ME K) (ρ : Env) : (@mSc K a).m ρ = (bindE (a.m ρ) fun u ρ1 => if (scV u).isSome then some (.ok u ρ1) else none) := rfl
theorem mNil_m (ρ : Env) : (@mNil K).m ρ = (some (.ok [] ρ)) := rfl
theorem msNil_m (ρ : Env) : (@msNil K).m ρ = (some (.nx ρ)) := rfl
theorem msSeq_m (a b : MS K) (ρ : Env) : (@msSeq K a b).m ρ = (thenS (a.m ρ) b.m) := rfl
theorem msAsgF_m (e : MF K) (i : Nat) (ρ : Env) : (@msAsgF K e i).m ρ = (bindAS (e.m ρ) fun us ρ1 => some (.nx (ρ1.set i (.cel true us)))) := rfl
theorem msDrop_m (e : ME K) (ρ : Env) : (@msDrop K e).m ρ = (bindES (e.m ρ) fun _ ρ1 => some (.nx ρ1)) := rfl
theorem msRet_m (e : ME K) (h : e.k = true) (ρ : Env) : (@msRet K e h).m ρ = (bindES (e.m ρ) fun u ρ1 => some (.rt (.val u) ρ1)) := rfl
theorem msRetF_m (e : MF K) (ρ : Env) : (@msRetF K e).m ρ = (bindAS (e.m ρ) fun us ρ1 => some (.rt (.cel us) ρ1)) := rfl
theorem msRetC_m (i : Nat) (ρ : Env) : (@msRetC K i).m ρ = (match ρ[i]? with
    | some (.cel true us) => some (.rt (.cel us) (ρ.set i .non))
    | _ => none) := rfl
theorem msRaise_m (c : Str) (ρ : Env) : (@msRaise K c).m ρ = (some (.ex ⟨c, none⟩ ρ)) := rfl
theorem msFor_m (it : MI K) (g : MG K) (b : MS K) (kl : List Nat) (ρ : Env) : (@msFor K it g b kl).m ρ = (bindAS (it.m ρ) fun us ρ1 => loopM g.m b.m kl us ρ1) := rfl
theorem mtYes_m (ρ : Env) : (@mtYes K).m ρ = (some (.ok true ρ)) := rfl
theorem mLc_m (it : MI K) (g : MG K) (tt : MTs K) (e : ME K) (vs : List Nat) (hg : (g.is.all fun i => vs.contains i) = true) (hk : e.k = true) (ρ : Env) : (@mLc K it g tt e vs hg hk).m ρ = (match it.m ρ with
    | some (.ok us ρ1) => lcM g.m tt.m e.m vs us [] (kills ρ1 vs)
    | o => o) := rfl
theorem mcNil_m (ρ : Env) : (@mcNil K).m ρ = (some (.ok [] ρ)) := rfl
theorem mcCel_m (j : Nat) (b : MC K) (ρ : Env) : (@mcCel K j b).m ρ = (match ρ[j]? with
    | some (.cel _ _) => consC (.inr j) (b.m ρ)
    | some (.celD _ _) => consC (.inr j) (b.m ρ)
    | _ => none) := rfl
theorem mCall_m (n : Nat) (mf : List Slot → Option CO) (a : MC K) (hk : a.k = true) (ρ : Env) : (@mCall K n mf a hk).m ρ = ((a.m ρ).bind fun o => match o with
    | .ok is _ => if is.length = n then callM mf (some o) else none
    | _ => callM mf (some o)) := rfl
theorem moNone_m (ρ : Env) : (@moNone K).m ρ = (some (.ok none ρ)) := rfl
theorem moSome_m (a : ME K) (ρ : Env) : (@moSome K a).m ρ = (match a.m ρ with
    | some (.ok (.int i) ρ1) => some (.ok (some i) ρ1)
    | some (.ex e ρ1) => some (.ex e ρ1)
    | _ => none) := rfl
theorem mSlL_m (a : ME K) (lo hi : MO K) (hk : a.k = true) (h1 : lo.p = true) (h2 : hi.p = true) (ρ : Env) : (@mSlL K a lo hi hk h1 h2).m ρ = (match a.m ρ with
    | none => none
    | some (.ex e ρ1) => some (.ex e ρ1)
    | some (.ok u ρ1) => match lo.m ρ1 with
      | none => none
      | some (.ex e ρ2) => some (.ex e ρ2)
      | some (.ok x ρ2) => match hi.m ρ2 with
        | none => none
        | some (.ex e ρ3) => some (.ex e ρ3)
        | some (.ok y ρ3) => (lstU u).map fun us => .ok (cutU us x y) ρ3) := rfl
theorem mBi_m (o : OpC K) (a : MA K) (ρ : Env) : (@mBi K o a).m ρ = (bindAE (a.m ρ) fun us ρ1 => (o.f us).map fun w => .ok w ρ1) := rfl
theorem mBiF_m (o : OpF K) (a : MA K) (hk : a.k = true) (ρ : Env) : (@mBiF K o a hk).m ρ = (match a.m ρ with
    | some (.ok us ρ1) => (o.f us).map fun ws => .ok ws ρ1
    | x => x) := rfl
theorem miList_m (a : ME K) (hk : a.k = true) (ρ : Env) : (@miList K a hk).m ρ = (match a.m ρ with
    | some (.ok u ρ1) => (lstU u).map fun us => .ok us ρ1
    | some (.ex e ρ1) => some (.ex e ρ1)
    | none => none) := rfl
theorem miRng1_m (a : ME K) (ρ : Env) : (@miRng1 K a).m ρ = (match a.m ρ with
    | some (.ok (.int j) ρ1) => if rngOk 0 j = true then some (.ok (rangeU 0 j.toNat) ρ1) else none
    | some (.ex e ρ1) => some (.ex e ρ1)
    | _ => none) := rfl
theorem miEnum_m (a : ME K) (hk : a.k = true) (ρ : Env) : (@miEnum K a hk).m ρ = (match a.m ρ with
    | some (.ok u ρ1) => (lstU u).map fun us => .ok (enumU 0 us) ρ1
    | some (.ex e ρ1) => some (.ex e ρ1)
    | none => none) := rfl
theorem miZip_m (a b : ME K) (hk : (a.k && b.k) = true) (ρ : Env) : (@miZip K a b hk).m ρ = (match a.m ρ with
    | some (.ok u ρ1) => (match b.m ρ1 with
      | some (.ok v ρ2) => (lstU u).bind fun us => (lstU v).map fun vs => .ok (zipU us vs) ρ2
      | some (.ex e ρ2) => some (.ex e ρ2)
      | none => none)
    | some (.ex e ρ1) => some (.ex e ρ1)
    | none => none) := rfl
theorem mMeth_m (j : Nat) (o : OpM K) (a : MA K) (hk : a.k = true) (ρ : Env) : (@mMeth K j o a hk).m ρ = (match ρ[j]? with
    | some (.cel _ _) => (match a.m ρ with
      | some (.ok xs ρ1) => (match ρ1[j]? with
        | some (.cel own us) => (o.f us xs).map fun q => .ok q.1 (ρ1.set j (.cel own q.2))
        | _ => none)
      | some (.ex e ρ1) => some (.ex e ρ1)
      | none => none)
    | _ => none) := rfl
theorem mMeth0_m (j : Nat) (o : OpM K) (ρ : Env) : (@mMeth0 K j o).m ρ = (match ρ[j]? with
    | some (.cel own us) => (o.f us []).map fun q => .ok q.1 (ρ.set j (.cel own q.2))
    | _ => none) := rfl
theorem msSet_m (j : Nat) (i e : ME K) (hk : e.k = true) (ρ : Env) : (@msSet K j i e hk).m ρ = (match e.m ρ with
    | none => none
    | some (.ex x ρ1) => some (.ex x ρ1)
    | some (.ok u ρ1) => match ρ1[j]? with
      | some (.cel _ _) => (match i.m ρ1 with
        | none => none
        | some (.ex x ρ2) => some (.ex x ρ2)
        | some (.ok (.int n) ρ2) => (match ρ2[j]? with
          | some (.cel own us) => (ixN us.length n).map fun k => .nx (ρ2.set j (.cel own (us.set k u)))
          | _ => none)
        | _ => none)
      | _ => none) := rfl
theorem mCat_m (a b : ME K) (hk : (a.k && b.k) = true) (ρ : Env) : (@mCat K a b hk).m ρ = (match a.m ρ with
    | some (.ok (.lst us) ρ1) => (match b.m ρ1 with
      | some (.ok (.lst vs) ρ2) => if us.length + vs.length ≤ 16777216 then some (.ok (us ++ vs) ρ2) else none
      | some (.ex e ρ2) => some (.ex e ρ2)
      | _ => none)
    | some (.ex e ρ1) => some (.ex e ρ1)
    | _ => none) := rfl
theorem mChain_m (o o' : Op2 K) (a b c : ME K) (h1 : (a.k || b.p) = true) (h2 : (b.k || c.p) = true) (ρ : Env) : (@mChain K o o' a b c h1 h2).m ρ = (bindE (a.m ρ) fun u ρ1 => bindE (b.m ρ1) fun v ρ2 => match o.f u v with
    | some (.bl true) => bindE (c.m ρ2) fun w ρ3 => (o'.f v w).bind fun z => match z with
      | .bl d => some (.ok (.bl d) ρ3)
      | _ => none
    | some (.bl false) => some (.ok (.bl false) ρ2)
    | _ => none) := rfl
theorem mIsi_m (n : String) (a : ME K) (ρ : Env) : (@mIsi K n a).m ρ = (bindE (a.m ρ) fun u ρ1 => (tyU u).bind fun s => (isiB s n).map fun b => .ok (.bl b) ρ1) := rfl
theorem mListRng_m (a b : ME K) (ρ : Env) : (@mListRng K a b).m ρ = (match a.m ρ with
    | some (.ok (.int i) ρ1) => (match b.m ρ1 with
      | some (.ok (.int j) ρ2) => if rgLok i j = true then some (.ok (rangeU i (j - i).toNat) ρ2) else none
      | some (.ex e ρ2) => some (.ex e ρ2)
      | _ => none)
    | some (.ex e ρ1) => some (.ex e ρ1)
    | _ => none) := rfl
theorem mCallF_m (n : Nat) (mf : List Slot → Option CO) (a : MC K) (hk : a.k = true) (ρ : Env) : (@mCallF K n mf a hk).m ρ = ((a.m ρ).bind fun o => match o with
    | .ok is _ => if is.length = n then callMF mf (some o) else none
    | _ => callMF mf (some o)) := rfl
theorem msParVV_m (i j : Nat) (a b : ME K) (ha : a.k = true) (hb : b.k = true) (ρ : Env) : (@msParVV K i j a b ha hb).m ρ = (bindES (a.m ρ) fun u ρ1 => bindES (b.m ρ1) fun v ρ2 => some (.nx ((ρ2.set i (.val u)).set j (.val v)))) := rfl
theorem msParFV_m (i j : Nat) (a : MF K) (b : ME K) (hij : (i != j) = true) (hb : b.k = true) (ρ : Env) : (@msParFV K i j a b hij hb).m ρ = (bindAS (a.m ρ) fun us ρ1 => match b.m ρ1 with
    | some (.ok v ρ2) => some (.nx ((ρ2.set i (.cel true us)).set j (.val v)))
    | some (.ex e ρ2) => some (.ex e ρ2)
    | none => none) := rfl
theorem mMethD_m (m : Str) (n : Nat) (tab : MTab) (a : ME K) (b : MC K) (ha : a.k = true) (hk : b.k = true) (ρ : Env) : (@mMethD K m n tab a b ha hk).m ρ = (bindE (a.m ρ) fun u ρ1 => match u with
    | .ins c fs => match fs.lookup m, tab.lookup c with
      | none, some mf => (b.m ρ1).bind fun o => match o with
        | .ok is ρ2 => if is.length + 1 = n then callM mf (some (.ok (.inl (.ins c fs) :: is) ρ2)) else none
        | .ex e ρ2 => some (.ex e ρ2)
      | _, _ => none
    | _ => none) := rfl
theorem mCMeth_m (c : Str) (n : Nat) (mf : List Slot → Option CO) (b : MC K) (hk : b.k = true) (ρ : Env) : (@mCMeth K c n mf b hk).m ρ = ((b.m ρ).bind fun o => match o with
    | .ok is ρ2 => if is.length + 1 = n then callM mf (some (.ok (.inl (.ref (He.ga K c)) :: is) ρ2)) else none
    | .ex e ρ2 => some (.ex e ρ2)) := rfl
theorem mConC_m (c : Str) (u : U) (a : ME K) (ρ : Env) : (@mConC K c u a).m ρ = (bindE (a.m ρ) fun x ρ1 => match x with
    | .ref p => if p = He.ga K c then some (.ok u ρ1) else none
    | _ => none) := rfl
section
variable {α : Type}
def opE (x : Option EO) (b : ME K) (f : U → U → Option U) : Option EO := bindE x fun u ρ1 => bindE (b.m ρ1) fun v ρ2 => (f u v).map fun w => .ok w ρ2
def opF (x : Option EO) (u : U) (f : U → U → Option U) : Option EO := bindE x fun v ρ2 => (f u v).map fun w => .ok w ρ2
def okE (x : Option U) (ρ : Env) : Option EO := x.map fun w => .ok w ρ
theorem okE_some (u : U) (ρ : Env) : okE (some u) ρ = some (.ok u ρ) := rfl
theorem okE_none (ρ : Env) : okE none ρ = none := rfl
theorem opE_ok (u : U) (ρ : Env) (b : ME K) (f : U → U → Option U) : opE (some (.ok u ρ)) b f = opF (b.m ρ) u f := rfl
theorem opE_ex (e : Exn) (ρ : Env) (b : ME K) (f : U → U → Option U) : opE (some (.ex e ρ)) b f = some (.ex e ρ) := rfl
theorem opF_ok (u v : U) (ρ : Env) (f : U → U → Option U) : opF (some (.ok v ρ)) u f = okE (f u v) ρ := rfl
theorem opF_ex (u : U) (e : Exn) (ρ : Env) (f : U → U → Option U) : opF (some (.ex e ρ)) u f = some (.ex e ρ) := rfl
theorem mOp_e (o : Op2 K) (a b : ME K) (h : (a.k || b.p) = true) (ρ : Env) : (@mOp K o a b h).m ρ = opE (a.m ρ) b o.f := rfl
theorem mIx_e (o : OpI K) (a b : ME K) (h : (a.k || b.p) = true) (ρ : Env) : (@mIx K o a b h).m ρ = opE (a.m ρ) b o.f := rfl
def unE (x : Option EO) (f : U → Option U) : Option EO := bindE x fun u ρ1 => (f u).map fun w => .ok w ρ1
theorem unE_ok (u : U) (ρ : Env) (f : U → Option U) : unE (some (.ok u ρ)) f = okE (f u) ρ := rfl
theorem mUn_e (o : Op1 K) (a : ME K) (ρ : Env) : (@mUn K o a).m ρ = unE (a.m ρ) o.f := rfl
def coE (x : Option EO) (b : MA K) : Option AO := bindEA x fun u ρ1 => match b.m ρ1 with
    | none => none
    | some (.ex e ρ2) => some (.ex e ρ2)
    | some (.ok us ρ2) => some (.ok (u :: us) ρ2)
def coF (x : Option AO) (u : U) : Option AO := match x with
    | none => none
    | some (.ex e ρ2) => some (.ex e ρ2)
    | some (.ok us ρ2) => some (.ok (u :: us) ρ2)
theorem coE_ok (u : U) (ρ : Env) (b : MA K) : coE (some (.ok u ρ)) b = coF (b.m ρ) u := rfl
theorem coE_ex (e : Exn) (ρ : Env) (b : MA K) : coE (some (.ex e ρ)) b = some (.ex e ρ) := rfl
theorem coF_ok (u : U) (us : List U) (ρ : Env) : coF (some (.ok us ρ)) u = some (.ok (u :: us) ρ) := rfl
theorem coF_ex (u : U) (e : Exn) (ρ : Env) : coF (some (.ex e ρ)) u = some (.ex e ρ) := rfl
theorem mCons_e (a : ME K) (b : MA K) (h : (a.k || b.p) = true) (ρ : Env) : (@mCons K a b h).m ρ = coE (a.m ρ) b := rfl
def tupF (us : List U) (ρ : Env) : Option EO := if us.length ≤ 16777216 then some (.ok (.tup us) ρ) else none
theorem bindAE_ok (us : List U) (ρ : Env) (f : List U → Env → Option EO) : bindAE (some (.ok us ρ)) f = f us ρ := rfl
theorem bindAE_ex (e : Exn) (ρ : Env) (f : List U → Env → Option EO) : bindAE (some (.ex e ρ)) f = some (.ex e ρ) := rfl
theorem mTup_e (a : MA K) (h : a.k = true) (ρ : Env) : (@mTup K a h).m ρ = bindAE (a.m ρ) tupF := rfl
theorem tupF_e (us : List U) (ρ : Env) (h : us.length ≤ 16777216) : tupF us ρ = some (.ok (.tup us) ρ) := if_pos h
def frF (us : List U) (ρ : Env) : Option EO := some (.ok (.lst us) ρ)
theorem mFr_e (a : MF K) (ρ : Env) : (@mFr K a).m ρ = bindAE (a.m ρ) frF := rfl
def lstF (x : Option AO) : Option AO := match x with
    | some (.ok us ρ1) => if us.length ≤ 16777216 then some (.ok us ρ1) else none
    | o => o
theorem lstF_ok (us : List U) (ρ : Env) (h : us.length ≤ 16777216) : lstF (some (.ok us ρ)) = some (.ok us ρ) := if_pos h
theorem mLst_e (a : MA K) (h : a.k = true) (ρ : Env) : (@mLst K a h).m ρ = lstF (a.m ρ) := rfl
def tsE (x : Option EO) : Option TOu := bindET x fun u ρ1 => match u with
    | .bl b => some (.ok b ρ1)
    | _ => none
theorem tsE_ok (b : Bool) (ρ : Env) : tsE (some (.ok (.bl b) ρ)) = some (.ok b ρ) := rfl
theorem tsE_ex (e : Exn) (ρ : Env) : tsE (some (.ex e ρ)) = some (.ex e ρ) := rfl
theorem mTest_e (a : ME K) (ρ : Env) : (@mTest K a).m ρ = tsE (a.m ρ) := rfl
def truE (x : Option EO) : Option TOu := bindET x fun u ρ1 => (truU u).map fun b => .ok b ρ1
def okT (x : Option Bool) (ρ : Env) : Option TOu := x.map fun b => .ok b ρ
theorem okT_some (b : Bool) (ρ : Env) : okT (some b) ρ = some (.ok b ρ) := rfl
theorem truE_ok (u : U) (ρ : Env) : truE (some (.ok u ρ)) = okT (truU u) ρ := rfl
theorem truE_ex (e : Exn) (ρ : Env) : truE (some (.ex e ρ)) = some (.ex e ρ) := rfl
theorem mTru_e (a : ME K) (ρ : Env) : (@mTru K a).m ρ = truE (a.m ρ) := rfl
def anE (x : Option TOu) (b : MT K) : Option TOu := bindTT x fun c ρ1 => if c = true then b.m ρ1 else some (.ok false ρ1)
def orE (x : Option TOu) (b : MT K) : Option TOu := bindTT x fun c ρ1 => if c = true then some (.ok true ρ1) else b.m ρ1
theorem anE_t (b : MT K) (ρ : Env) : anE (some (.ok true ρ)) b = b.m ρ := rfl
theorem anE_f (b : MT K) (ρ : Env) : anE (some (.ok false ρ)) b = some (.ok false ρ) := rfl
theorem anE_ok (c : Bool) (b : MT K) (ρ : Env) : anE (some (.ok c ρ)) b = if c = true then b.m ρ else some (.ok false ρ) := rfl
theorem orE_t (b : MT K) (ρ : Env) : orE (some (.ok true ρ)) b = some (.ok true ρ) := rfl
theorem orE_f (b : MT K) (ρ : Env) : orE (some (.ok false ρ)) b = b.m ρ := rfl
theorem orE_ok (c : Bool) (b : MT K) (ρ : Env) : orE (some (.ok c ρ)) b = if c = true then some (.ok true ρ) else b.m ρ := rfl
theorem mAnd_e (a b : MT K) (ρ : Env) : (@mAnd K a b).m ρ = anE (a.m ρ) b := rfl
theorem mOr_e (a b : MT K) (ρ : Env) : (@mOr K a b).m ρ = orE (a.m ρ) b := rfl
def noE (x : Option TOu) : Option TOu := bindTT x fun c ρ1 => some (.ok (!c) ρ1)
theorem noE_ok (c : Bool) (ρ : Env) : noE (some (.ok c ρ)) = some (.ok (!c) ρ) := rfl
theorem noE_ex (e : Exn) (ρ : Env) : noE (some (.ex e ρ)) = some (.ex e ρ) := rfl
theorem mNot_e (a : MT K) (ρ : Env) : (@mNot K a).m ρ = noE (a.m ρ) := rfl
def anV (x : Option EO) (b : ME K) : Option EO := bindE x fun u ρ1 => match u with
    | .bl true => bindE (b.m ρ1) fun v ρ2 => match v with
      | .bl c => some (.ok (.bl c) ρ2)
      | _ => none
    | .bl false => some (.ok (.bl false) ρ1)
    | _ => none
def blV (x : Option EO) : Option EO := bindE x fun v ρ2 => match v with
      | .bl c => some (.ok (.bl c) ρ2)
      | _ => none
theorem blV_ok (c : Bool) (ρ : Env) : blV (some (.ok (.bl c) ρ)) = some (.ok (.bl c) ρ) := rfl
theorem blV_ex (e : Exn) (ρ : Env) : blV (some (.ex e ρ)) = some (.ex e ρ) := rfl
theorem anV_t (b : ME K) (ρ : Env) : anV (some (.ok (.bl true) ρ)) b = blV (b.m ρ) := rfl
theorem anV_f (b : ME K) (ρ : Env) : anV (some (.ok (.bl false) ρ)) b = some (.ok (.bl false) ρ) := rfl
theorem anV_ok (c : Bool) (b : ME K) (ρ : Env) : anV (some (.ok (.bl c) ρ)) b = if c = true then blV (b.m ρ) else some (.ok (.bl false) ρ) := by cases c <;> rfl
theorem mAndV_e (a b : ME K) (ρ : Env) : (@mAndV K a b).m ρ = anV (a.m ρ) b := rfl
def noV (x : Option EO) : Option EO := bindE x fun u ρ1 => match u with
    | .bl c => some (.ok (.bl (!c)) ρ1)
    | _ => none
theorem noV_ok (c : Bool) (ρ : Env) : noV (some (.ok (.bl c) ρ)) = some (.ok (.bl (!c)) ρ) := rfl
theorem noV_ex (e : Exn) (ρ : Env) : noV (some (.ex e ρ)) = some (.ex e ρ) := rfl
theorem mNotV_e (a : ME K) (ρ : Env) : (@mNotV K a).m ρ = noV (a.m ρ) := rfl
def ifV (x : Option TOu) (a b : ME K) : Option EO := bindTE x fun c ρ1 => if c = true then a.m ρ1 else b.m ρ1
theorem ifV_t (a b : ME K) (ρ : Env) : ifV (some (.ok true ρ)) a b = a.m ρ := rfl
theorem ifV_f (a b : ME K) (ρ : Env) : ifV (some (.ok false ρ)) a b = b.m ρ := rfl
theorem ifV_ok (c : Bool) (a b : ME K) (ρ : Env) : ifV (some (.ok c ρ)) a b = if c = true then a.m ρ else b.m ρ := rfl
theorem mIf_e (c : MT K) (a b : ME K) (ρ : Env) : (@mIf K c a b).m ρ = ifV (c.m ρ) a b := rfl
def ifS (x : Option TOu) (a b : MS K) : Option SO := bindTS x fun c ρ1 => if c = true then a.m ρ1 else b.m ρ1
theorem ifS_t (a b : MS K) (ρ : Env) : ifS (some (.ok true ρ)) a b = a.m ρ := rfl
theorem ifS_f (a b : MS K) (ρ : Env) : ifS (some (.ok false ρ)) a b = b.m ρ := rfl
theorem ifS_ok (c : Bool) (a b : MS K) (ρ : Env) : ifS (some (.ok c ρ)) a b = if c = true then a.m ρ else b.m ρ := rfl
theorem ifS_ex (e : Exn) (a b : MS K) (ρ : Env) : ifS (some (.ex e ρ)) a b = some (.ex e ρ) := rfl
theorem msIf_e (c : MT K) (a b : MS K) (ρ : Env) : (@msIf K c a b).m ρ = ifS (c.m ρ) a b := rfl
def asE (x : Option EO) (g : MG K) : Option SO := bindES x fun u ρ1 => (g.m u ρ1).map .nx
def nxO (x : Option Env) : Option SO := x.map .nx
theorem nxO_some (ρ : Env) : nxO (some ρ) = some (.nx ρ) := rfl
theorem asE_ok (u : U) (ρ : Env) (g : MG K) : asE (some (.ok u ρ)) g = nxO (g.m u ρ) := rfl
theorem asE_ex (e : Exn) (ρ : Env) (g : MG K) : asE (some (.ex e ρ)) g = some (.ex e ρ) := rfl
theorem msAsg_e (e : ME K) (g : MG K) (h : e.k = true) (ρ : Env) : (@msAsg K e g h).m ρ = asE (e.m ρ) g := rfl
def gcE (x : Option Env) (gs : MGs K) (us : List U) : Option Env := x.bind fun ρ1 => gs.m us ρ1
theorem gcE_some (ρ : Env) (gs : MGs K) (us : List U) : gcE (some ρ) gs us = gs.m us ρ := rfl
theorem mgCons_e (g : MG K) (gs : MGs K) (u : U) (us : List U) (ρ : Env) : (@mgCons K g gs).m (u :: us) ρ = gcE (g.m u ρ) gs us := rfl
theorem mgNil_e (ρ : Env) : (@mgNil K).m [] ρ = some ρ := rfl
theorem mgTup_e (n : Nat) (gs : MGs K) (us : List U) (ρ : Env) (h : us.length = n) : (@mgTup K n gs).m (.tup us) ρ = gs.m us ρ := if_pos h
theorem mgName_e (i : Nat) (u : U) (ρ : Env) : (@mgName K i).m u ρ = some (ρ.set i (.val u)) := rfl
def cvE (x : Option EO) (b : MC K) : Option CA := bindEC x fun u ρ1 => consC (.inl u) (b.m ρ1)
theorem cvE_ok (u : U) (ρ : Env) (b : MC K) : cvE (some (.ok u ρ)) b = consC (.inl u) (b.m ρ) := rfl
theorem cvE_ex (e : Exn) (ρ : Env) (b : MC K) : cvE (some (.ex e ρ)) b = some (.ex e ρ) := rfl
theorem consC_ok (i : U ⊕ Nat) (is : List (U ⊕ Nat)) (ρ : Env) : consC i (some (.ok is ρ)) = some (.ok (i :: is) ρ) := rfl
theorem mcVal_e (a : ME K) (b : MC K) (h : (a.k || b.p) = true) (ρ : Env) : (@mcVal K a b h).m ρ = cvE (a.m ρ) b := rfl
theorem thenS_nx (ρ : Env) (f : Env → Option SO) : thenS (some (.nx ρ)) f = f ρ := rfl
theorem thenS_bk (ρ : Env) (f : Env → Option SO) : thenS (some (.bk ρ)) f = some (.bk ρ) := rfl
theorem thenS_ct (ρ : Env) (f : Env → Option SO) : thenS (some (.ct ρ)) f = some (.ct ρ) := rfl
theorem thenS_rt (r : RV) (ρ : Env) (f : Env → Option SO) : thenS (some (.rt r ρ)) f = some (.rt r ρ) := rfl
theorem thenS_ex (e : Exn) (ρ : Env) (f : Env → Option SO) : thenS (some (.ex e ρ)) f = some (.ex e ρ) := rfl
theorem bindES_ok (u : U) (ρ : Env) (f : U → Env → Option SO) : bindES (some (.ok u ρ)) f = f u ρ := rfl
theorem bindES_ex (e : Exn) (ρ : Env) (f : U → Env → Option SO) : bindES (some (.ex e ρ)) f = some (.ex e ρ) := rfl
theorem bindAS_ok (u : List U) (ρ : Env) (f : List U → Env → Option SO) : bindAS (some (.ok u ρ)) f = f u ρ := rfl
theorem bindAS_ex (e : Exn) (ρ : Env) (f : List U → Env → Option SO) : bindAS (some (.ex e ρ)) f = some (.ex e ρ) := rfl
def fin_ (as : List Slot) (x : Option SO) : Option CO := match x with
  | some (.nx ρ) => (cellAt as ρ).map fun c => .val .non c
  | some (.rt (.val u) ρ) => (cellAt as ρ).map fun c => .val u c
  | some (.rt (.cel us) ρ) => (cellAt as ρ).map fun c => .cel us c
  | some (.rt (.dcl us) ρ) => (cellAt as ρ).map fun c => .dcl us c
  | some (.ex e ρ) => (cellAt as ρ).map fun c => .ex e c
  | _ => none
theorem mfOf_e (N : Nat) (b : MS K) (as : List Slot) : mfOf N b.m as = fin_ as (b.m (as.map unown ++ List.replicate (N - as.length) .non)) := rfl
def noX (x : Option CO) : Option CO := match x with
  | some (.ex _ _) => none
  | o => o
theorem mfOf0_e (N : Nat) (b : MS K) (as : List Slot) : mfOf0 N b.m as = noX (fin_ as (b.m (as.map unown ++ List.replicate (N - as.length) .non))) := rfl
theorem noX_val (u : U) (c : Option (List U)) : noX (some (.val u c)) = some (.val u c) := rfl
theorem noX_cel (u : List U) (c : Option (List U)) : noX (some (.cel u c)) = some (.cel u c) := rfl
def coM (x : Option (Option (List U))) (f : Option (List U) → CO) : Option CO := x.map f
theorem coM_some (c : Option (List U)) (f : Option (List U) → CO) : coM (some c) f = some (f c) := rfl
theorem fin_val (as : List Slot) (u : U) (ρ : Env) : fin_ as (some (.rt (.val u) ρ)) = coM (cellAt as ρ) (.val u) := rfl
theorem fin_cel (as : List Slot) (u : List U) (ρ : Env) : fin_ as (some (.rt (.cel u) ρ)) = coM (cellAt as ρ) (.cel u) := rfl
theorem fin_nx (as : List Slot) (ρ : Env) : fin_ as (some (.nx ρ)) = coM (cellAt as ρ) (.val .non) := rfl
theorem fin_ex (as : List Slot) (e : Exn) (ρ : Env) : fin_ as (some (.ex e ρ)) = coM (cellAt as ρ) (.ex e) := rfl
end
end Sg
set_option Elab.async false
set_option linter.all false
set_option maxRecDepth 100000
set_option maxHeartbeats 4000000
namespace Sg
open PySem L2
variable {K : PySem.W.Frag}
theorem oAdd_i (i j : Int) : (oAdd (K := K)).f (.int i) (.int j) = some (.int (i + j)) := rfl
theorem oSub_i (i j : Int) : (oSub (K := K)).f (.int i) (.int j) = some (.int (i - j)) := rfl
theorem oMul_l (i j : Int) (h1 : -18446744073709551616 < i) (h2 : i < 18446744073709551616) : (oMul (K := K)).f (.int i) (.int j) = some (.int (i * j)) := if_pos (.inl (.inl ⟨by omega, by omega⟩))
theorem oMul_r (i j : Int) (h1 : -18446744073709551616 < j) (h2 : j < 18446744073709551616) : (oMul (K := K)).f (.int i) (.int j) = some (.int (i * j)) := if_pos (.inl (.inr ⟨by omega, by omega⟩))
theorem oMod_i (i j : Int) (h : 0 < j) : (oMod (K := K)).f (.int i) (.int j) = some (.int (i % j)) := by
  show (if j ≠ 0 then some (U.int (i.fmod j)) else none) = _
  rw [if_pos (by omega), Int.fmod_eq_emod_of_nonneg _ (by omega)]
theorem oDiv_i (i j : Int) (h : 0 < j) (h2 : j < 1000000000000000000000000000000000000000000000000000000000000000000000000) : (oDiv (K := K)).f (.int i) (.int j) = some (.int (i / j)) := by
  show (if j ≠ 0 ∧ j.natAbs < 1073741824 then some (U.int (i.fdiv j)) else if 0 < j ∧ j.natAbs.log2 < 9000 then some (U.int (i / j)) else none) = _
  rw [Int.fdiv_eq_ediv_of_nonneg _ (by omega)]
  split
  · rfl
  · have h3 : j.natAbs < 2 ^ 9000 := by
      have : j.natAbs < 1000000000000000000000000000000000000000000000000000000000000000000000000 := by omega
      refine Nat.lt_of_lt_of_le this (by decide +kernel)
    rw [if_pos ⟨h, (Nat.log2_lt (by omega)).mpr h3⟩]
theorem oPow_i (i j : Int) (h1 : -18446744073709551616 < i) (h2 : i < 18446744073709551616) (h3 : 0 ≤ j) (h4 : j ≤ 1000000) : (oPow (K := K)).f (.int i) (.int j) = some (.int (i ^ j.toNat)) := if_pos ⟨h3, h4, by omega⟩
theorem oLt_i (i j : Int) : (oLt (K := K)).f (.int i) (.int j) = some (.bl (decide (i < j))) := rfl
theorem oLe_i (i j : Int) : (oLe (K := K)).f (.int i) (.int j) = some (.bl (decide (i ≤ j))) := rfl
theorem oGt_i (i j : Int) : (oGt (K := K)).f (.int i) (.int j) = some (.bl (decide (j < i))) := rfl
theorem oGe_i (i j : Int) : (oGe (K := K)).f (.int i) (.int j) = some (.bl (decide (j ≤ i))) := rfl
theorem oIx_l (us : List U) (i : Int) : (oIx (K := K)).f (.lst us) (.int i) = atI us i := rfl
theorem oIx_f (us : List U) (i : Int) : (oIx (K := K)).f (.frl us) (.int i) = atI us i := rfl
theorem oIx_t (us : List U) (i : Int) : (oIx (K := K)).f (.tup us) (.int i) = atI us i := rfl
theorem at1_0 (a : U) : atI [a] 0 = some a := rfl
theorem at2_0 (a b : U) : atI [a, b] 0 = some a := rfl
theorem at2_1 (a b : U) : atI [a, b] 1 = some b := rfl
theorem at3_0 (a b c : U) : atI [a, b, c] 0 = some a := rfl
theorem at3_1 (a b c : U) : atI [a, b, c] 1 = some b := rfl
theorem at3_2 (a b c : U) : atI [a, b, c] 2 = some c := rfl
theorem at4_0 (a b c d : U) : atI [a, b, c, d] 0 = some a := rfl
theorem at4_1 (a b c d : U) : atI [a, b, c, d] 1 = some b := rfl
theorem at4_2 (a b c d : U) : atI [a, b, c, d] 2 = some c := rfl
theorem at4_3 (a b c d : U) : atI [a, b, c, d] 3 = some d := rfl
theorem ix3_0 : ixN 3 0 = some 0 := rfl
theorem ix3_1 : ixN 3 1 = some 1 := rfl
theorem ix3_2 : ixN 3 2 = some 2 := rfl
theorem oIsN_non : (oIsN (K := K)).f .non .non = some (.bl true) := rfl
theorem oNotN_non : (oNotN (K := K)).f .non .non = some (.bl false) := rfl
theorem oNotN_lst (us : List U) : (oNotN (K := K)).f (.lst us) .non = some (.bl true) := rfl
theorem oIsN_lst (us : List U) : (oIsN (K := K)).f (.lst us) .non = some (.bl false) := rfl
theorem oMax2_i (i j : Int) : (oMax2 (K := K)).f [.int i, .int j] = some (.int (if j > i then j else i)) := rfl
theorem oMin2_i (i j : Int) : (oMin2 (K := K)).f [.int i, .int j] = some (.int (if j < i then j else i)) := rfl
theorem oAbs_i (i : Int) : (oAbs (K := K)).f [.int i] = some (.int (if i < 0 then -i else i)) := rfl
theorem oLen_l (us : List U) : (oLen (K := K)).f [.lst us] = some (.int us.length) := rfl
theorem oLen_f (us : List U) : (oLen (K := K)).f [.frl us] = some (.int us.length) := rfl
theorem oLen_t (us : List U) : (oLen (K := K)).f [.tup us] = some (.int us.length) := rfl
theorem oNeg_i (i : Int) : (oNeg (K := K)).f (.int i) = some (.int (-i)) := rfl
theorem truU_i (i : Int) : truU (.int i) = some (i != 0) := rfl
theorem truU_l (us : List U) : truU (.lst us) = some (!us.isEmpty) := rfl
theorem truU_b (b : Bool) : truU (.bl b) = some b := rfl
theorem truU_n : truU .non = some false := rfl
theorem lstU_l (us : List U) : lstU (.lst us) = some us := rfl
theorem lstU_f (us : List U) : lstU (.frl us) = some us := rfl
theorem oAppend_u (us : List U) (u : U) (h : us.length < 16777216) : (oAppend (K := K)).f us [u] = some (.non, us ++ [u]) := if_pos h
theorem lstF_0 (ρ : Env) : lstF (some (.ok [] ρ)) = some (.ok [] ρ) := rfl
theorem tupF_0 (ρ : Env) : tupF [] ρ = some (.ok (.tup []) ρ) := rfl
theorem lstF_1 (a : U) (ρ : Env) : lstF (some (.ok [a] ρ)) = some (.ok [a] ρ) := rfl
theorem tupF_1 (a : U) (ρ : Env) : tupF [a] ρ = some (.ok (.tup [a]) ρ) := rfl
theorem lstF_2 (a b : U) (ρ : Env) : lstF (some (.ok [a, b] ρ)) = some (.ok [a, b] ρ) := rfl
theorem tupF_2 (a b : U) (ρ : Env) : tupF [a, b] ρ = some (.ok (.tup [a, b]) ρ) := rfl
theorem lstF_3 (a b c : U) (ρ : Env) : lstF (some (.ok [a, b, c] ρ)) = some (.ok [a, b, c] ρ) := rfl
theorem tupF_3 (a b c : U) (ρ : Env) : tupF [a, b, c] ρ = some (.ok (.tup [a, b, c]) ρ) := rfl
theorem lstF_4 (a b c d : U) (ρ : Env) : lstF (some (.ok [a, b, c, d] ρ)) = some (.ok [a, b, c, d] ρ) := rfl
theorem tupF_4 (a b c d : U) (ρ : Env) : tupF [a, b, c, d] ρ = some (.ok (.tup [a, b, c, d]) ρ) := rfl
theorem lstF_5 (a b c d e : U) (ρ : Env) : lstF (some (.ok [a, b, c, d, e] ρ)) = some (.ok [a, b, c, d, e] ρ) := rfl
theorem tupF_5 (a b c d e : U) (ρ : Env) : tupF [a, b, c, d, e] ρ = some (.ok (.tup [a, b, c, d, e]) ρ) := rfl
theorem lstF_6 (a b c d e f : U) (ρ : Env) : lstF (some (.ok [a, b, c, d, e, f] ρ)) = some (.ok [a, b, c, d, e, f] ρ) := rfl
theorem tupF_6 (a b c d e f : U) (ρ : Env) : tupF [a, b, c, d, e, f] ρ = some (.ok (.tup [a, b, c, d, e, f]) ρ) := rfl
theorem isi_NoneType_bool : isiB "NoneType" "bool" = some false := by decide
theorem isi_NoneType_int : isiB "NoneType" "int" = some false := by decide
theorem isi_NoneType_str : isiB "NoneType" "str" = some false := by decide
theorem isi_NoneType_list : isiB "NoneType" "list" = some false := by decide
theorem isi_NoneType_tuple : isiB "NoneType" "tuple" = some false := by decide
theorem isi_NoneType_dict : isiB "NoneType" "dict" = some false := by decide
theorem isi_bool_bool : isiB "bool" "bool" = some true := by decide
theorem isi_bool_int : isiB "bool" "int" = some true := by decide
theorem isi_bool_str : isiB "bool" "str" = some false := by decide
theorem isi_bool_list : isiB "bool" "list" = some false := by decide
theorem isi_bool_tuple : isiB "bool" "tuple" = some false := by decide
theorem isi_bool_dict : isiB "bool" "dict" = some false := by decide
theorem isi_int_bool : isiB "int" "bool" = some false := by decide
theorem isi_int_int : isiB "int" "int" = some true := by decide
theorem isi_int_str : isiB "int" "str" = some false := by decide
theorem isi_int_list : isiB "int" "list" = some false := by decide
theorem isi_int_tuple : isiB "int" "tuple" = some false := by decide
theorem isi_int_dict : isiB "int" "dict" = some false := by decide
theorem isi_str_bool : isiB "str" "bool" = some false := by decide
theorem isi_str_int : isiB "str" "int" = some false := by decide
theorem isi_str_str : isiB "str" "str" = some true := by decide
theorem isi_str_list : isiB "str" "list" = some false := by decide
theorem isi_str_tuple : isiB "str" "tuple" = some false := by decide
theorem isi_str_dict : isiB "str" "dict" = some false := by decide
theorem isi_list_bool : isiB "list" "bool" = some false := by decide
theorem isi_list_int : isiB "list" "int" = some false := by decide
theorem isi_list_str : isiB "list" "str" = some false := by decide
theorem isi_list_list : isiB "list" "list" = some true := by decide
theorem isi_list_tuple : isiB "list" "tuple" = some false := by decide
theorem isi_list_dict : isiB "list" "dict" = some false := by decide
theorem isi_tuple_bool : isiB "tuple" "bool" = some false := by decide
theorem isi_tuple_int : isiB "tuple" "int" = some false := by decide
theorem isi_tuple_str : isiB "tuple" "str" = some false := by decide
theorem isi_tuple_list : isiB "tuple" "list" = some false := by decide
theorem isi_tuple_tuple : isiB "tuple" "tuple" = some true := by decide
theorem isi_tuple_dict : isiB "tuple" "dict" = some false := by decide
theorem isi_dict_bool : isiB "dict" "bool" = some false := by decide
theorem isi_dict_int : isiB "dict" "int" = some false := by decide
theorem isi_dict_str : isiB "dict" "str" = some false := by decide
theorem isi_dict_list : isiB "dict" "list" = some false := by decide
theorem isi_dict_tuple : isiB "dict" "tuple" = some false := by decide
theorem isi_dict_dict : isiB "dict" "dict" = some true := by decide
theorem tyU_n : tyU .non = some "NoneType" := rfl
theorem tyU_b (b : Bool) : tyU (.bl b) = some "bool" := rfl
theorem tyU_i (b : Int) : tyU (.int b) = some "int" := rfl
theorem tyU_s (b : Str) : tyU (.str b) = some "str" := rfl
theorem tyU_l (b : List U) : tyU (.lst b) = some "list" := rfl
theorem tyU_t (b : List U) : tyU (.tup b) = some "tuple" := rfl
theorem rngOk_i (i j : Int) (h1 : -4611686018427387904 ≤ i) (h2 : i < 4611686018427387904) (h3 : -4611686018427387904 ≤ j) (h4 : j < 4611686018427387904) : rngOk i j = true := decide_eq_true ⟨by omega, by omega, by omega, by omega⟩
end Sg
set_option Elab.async false
set_option linter.all false
set_option maxRecDepth 100000
set_option maxHeartbeats 4000000
namespace Sg
open PySem L2
variable {K : PySem.W.Frag}
theorem loopM_inv {g : U → Env → Option Env} {b : Env → Option SO} {kl : List Nat} (I : List U → Env → Prop)
    (step : ∀ u us ρ, I (u :: us) ρ → ∃ ρ1 ρ2, g u ρ = some ρ1 ∧ (b ρ1 = some (.nx ρ2) ∨ b ρ1 = some (.ct ρ2)) ∧ I us (kills ρ2 kl)) :
    ∀ us ρ, I us ρ → ∃ ρ', loopM g b kl us ρ = some (.nx ρ') ∧ I [] ρ'
  | [], ρ, h => ⟨ρ, rfl, h⟩
  | u :: us, ρ, h => by
    obtain ⟨ρ1, ρ2, e1, e2, h2⟩ := step u us ρ h
    obtain ⟨ρ', e3, h3⟩ := loopM_inv I step us _ h2
    refine ⟨ρ', ?_, h3⟩
    unfold loopM
    rcases e2 with e2 | e2 <;> simp only [e1, e2, e3]
theorem lcM_inv {g : U → Env → Option Env} {tt : Env → Option TOu} {e : Env → Option EO} {vs : List Nat} (I : List U → List U → Env → Prop)
    (step : ∀ u us acc ρ, I (u :: us) acc ρ → ∃ ρ1, g u ρ = some ρ1 ∧ ((∃ ρ2, tt ρ1 = some (.ok false ρ2) ∧ I us acc (kills ρ2 vs)) ∨
      ∃ ρ2 w ρ3, tt ρ1 = some (.ok true ρ2) ∧ e ρ2 = some (.ok w ρ3) ∧ acc.length < 16777216 ∧ I us (acc ++ [w]) (kills ρ3 vs))) :
    ∀ us acc ρ, I us acc ρ → ∃ acc' ρ', lcM g tt e vs us acc ρ = some (.ok acc' ρ') ∧ I [] acc' ρ'
  | [], acc, ρ, h => ⟨acc, ρ, rfl, h⟩
  | u :: us, acc, ρ, h => by
    obtain ⟨ρ1, e1, h1⟩ := step u us acc ρ h
    rcases h1 with ⟨ρ2, e2, h2⟩ | ⟨ρ2, w, ρ3, e2, e3, hl, h2⟩
    · obtain ⟨acc', ρ', e4, h4⟩ := lcM_inv I step us _ _ h2
      exact ⟨acc', ρ', by unfold lcM; simp only [e1, e2, e4], h4⟩
    · obtain ⟨acc', ρ', e4, h4⟩ := lcM_inv I step us _ _ h2
      exact ⟨acc', ρ', by unfold lcM; simp only [e1, e2, e3, e4, hl, if_true], h4⟩
theorem lcM_all {α : Type} {g : U → Env → Option Env} {tt : Env → Option TOu} {e : Env → Option EO} {vs : List Nat} {ρ : Env} (r : α → U) (f : α → U) (xs : List α) (hl : xs.length ≤ 16777216)
    (h : ∀ x ∈ xs, ∃ ρ1 ρ2 ρ3, g (r x) ρ = some ρ1 ∧ tt ρ1 = some (.ok true ρ2) ∧ e ρ2 = some (.ok (f x) ρ3) ∧ kills ρ3 vs = ρ) :
    lcM g tt e vs (xs.map r) [] ρ = some (.ok (xs.map f) ρ) := by
  have : ∀ (xs : List α) acc, acc.length + xs.length ≤ 16777216 → (∀ x ∈ xs, ∃ ρ1 ρ2 ρ3, g (r x) ρ = some ρ1 ∧ tt ρ1 = some (.ok true ρ2) ∧ e ρ2 = some (.ok (f x) ρ3) ∧ kills ρ3 vs = ρ) →
      lcM g tt e vs (xs.map r) acc ρ = some (.ok (acc ++ xs.map f) ρ) := by
    intro xs
    induction xs with
    | nil => intro acc _ _; simp [lcM]
    | cons x xs ih =>
      intro acc hl h
      obtain ⟨ρ1, ρ2, ρ3, e1, e2, e3, hk⟩ := h x List.mem_cons_self
      rw [List.length_cons] at hl
      have i2 := ih (acc ++ [f x]) (by rw [List.length_append, List.length_singleton]; omega) fun v hv => h v (List.mem_cons_of_mem _ hv)
      have hl2 : acc.length < 16777216 := by omega
      rw [List.map_cons, List.map_cons]
      unfold lcM
      simp only [e1, e2, e3, hk, i2, hl2, if_true, List.append_assoc, List.singleton_append]
  have z := this xs [] (by simpa using hl) h
  simpa using z
theorem zipU_map {α β : Type} (r : α → U) (s : β → U) : ∀ (xs : List α) (ys : List β), zipU (xs.map r) (ys.map s) = (xs.zip ys).map fun p => .tup [r p.1, s p.2]
  | [], _ => rfl
  | _ :: _, [] => rfl
  | x :: xs, y :: ys => by
    show U.tup [r x, s y] :: zipU (xs.map r) (ys.map s) = _
    rw [zipU_map r s xs ys]
    rfl
theorem intsU_map : ∀ is : List Int, intsU (is.map U.int) = some is
  | [] => rfl
  | i :: is => by
    show (intsU (is.map U.int)).map (fun js => i :: js) = _
    rw [intsU_map is]
    rfl
theorem blsU_map : ∀ is : List Bool, blsU (is.map U.bl) = some is
  | [] => rfl
  | i :: is => by
    show (blsU (is.map U.bl)).map (fun js => i :: js) = _
    rw [blsU_map is]
    rfl
theorem oAll_l (bs : List Bool) : (oAll (K := K)).f [.lst (bs.map U.bl)] = some (.bl (bs.all id)) := by
  show (blsU (bs.map U.bl)).map _ = _
  rw [blsU_map]
  rfl
theorem rangeU_map (lo : Int) (n : Nat) : rangeU lo n = (List.range n).map fun i => U.int (lo + (i : Nat)) := rfl
theorem atI_get' {us : List U} {i : Int} {u : U} (h0 : 0 ≤ i) (h : us[i.toNat]? = some u) : atI us i = some u := by
  have e : i = ((i.toNat : Nat) : Int) := (Int.toNat_of_nonneg h0).symm
  rw [e]
  exact atI_nat h
theorem atI_map {α : Type} (r : α → U) {xs : List α} {i : Int} (h0 : 0 ≤ i) (h1 : i < xs.length) : ∃ x ∈ xs, xs[i.toNat]? = some x ∧ atI (xs.map r) i = some (r x) := by
  have hl : i.toNat < xs.length := by omega
  refine ⟨xs[i.toNat], List.getElem_mem hl, List.getElem?_eq_getElem hl, atI_get' h0 ?_⟩
  rw [List.getElem?_map, List.getElem?_eq_getElem hl]
  rfl
theorem cutU_from (us : List U) (i : Int) (h : 0 ≤ i) : cutU us (some i) none = us.drop i.toNat := by
  have e : i = ((i.toNat : Nat) : Int) := (Int.toNat_of_nonneg h).symm
  unfold cutU
  rw [e, HT.sIx_nat, HT.sIx_none, Int.toNat_natCast]
  by_cases c : i.toNat ≤ us.length
  · rw [Nat.min_eq_left c, List.take_of_length_le (by rw [List.length_drop]; exact Nat.le_refl _)]
  · rw [Nat.min_eq_right (by omega), List.drop_of_length_le (Nat.le_refl _), List.drop_of_length_le (by omega)]
    simp
theorem cutU_1 (us : List U) : cutU us (some 1) none = us.drop 1 := cutU_from us 1 (by decide)
theorem cutU_m1 (us : List U) : cutU us none (some (-1)) = us.dropLast := by
  unfold cutU
  rw [HT.sIx_none]
  show (us.drop 0).take ((-1 + (us.length : Int)).toNat - 0) = _
  rw [List.drop_zero, List.dropLast_eq_take]
  congr 1
  omega
theorem drop_map {α : Type} (r : α → U) (xs : List α) (n : Nat) : (xs.map r).drop n = (xs.drop n).map r := (List.map_drop).symm
theorem reverse_map {α : Type} (r : α → U) (xs : List α) : (xs.map r).reverse = xs.reverse.map r := (List.map_reverse).symm
theorem length_map' {α : Type} (r : α → U) (xs : List α) : ((xs.map r).length : Int) = (xs.length : Int) := by rw [List.length_map]
theorem dropLast_map {α : Type} (r : α → U) (xs : List α) : (xs.map r).dropLast = xs.dropLast.map r := (List.map_dropLast).symm
end Sg
set_option Elab.async false
set_option linter.all false
set_option maxRecDepth 100000
set_option maxHeartbeats 4000000
namespace Sg
open PySem L2
variable {K : PySem.W.Frag}
structure EqT {α : Type} [DecidableEq α] (r : α → U) (k : Nat) where
  d : α → PyData
  p : ∀ x, pd (r x) = some (d x)
  c : ∀ x, (d x).canLay0 = true
  t : ∀ x, (d x).depth ≤ k
  q : ∀ x y, PyData.eqv (d x) (d y) = decide (x = y)
section
variable {α β γ : Type} [DecidableEq α] [DecidableEq β] [DecidableEq γ] {r : α → U} {s : β → U} {o : γ → U} {k k' k2 : Nat}
def eqInt : EqT U.int 0 where
  d := .int
  p _ := rfl
  c _ := by simp [PyData.canLay0]
  t _ := by simp [PyData.depth]
  q x y := by simp only [PyData.eqv]; by_cases h : x = y <;> simp [h]
def eqBl : EqT U.bl 0 where
  d := .bool
  p _ := rfl
  c _ := by simp [PyData.canLay0]
  t _ := by simp [PyData.depth]
  q x y := by simp only [PyData.eqv]; cases x <;> cases y <;> decide
theorem pdL_map (e : EqT r k) : ∀ xs : List α, pdL (xs.map r) = some (xs.map e.d)
  | [] => rfl
  | x :: xs => by
    show (pd (r x)).bind _ = _
    rw [e.p, Option.bind_some, pdL_map e xs]
    rfl
theorem canAll_map (e : EqT r k) : ∀ xs : List α, PyData.canLayAll0 (xs.map e.d) = true
  | [] => rfl
  | x :: xs => by rw [List.map_cons, PyData.canLayAll0, e.c, canAll_map e xs]; rfl
theorem depthAll_map (e : EqT r k) : ∀ xs : List α, PyData.depthAll (xs.map e.d) ≤ k
  | [] => by rw [List.map_nil, PyData.depthAll]; omega
  | x :: xs => by
    rw [List.map_cons, PyData.depthAll]
    have := e.t x
    have := depthAll_map e xs
    omega
theorem eqvAll_map (e : EqT r k) : ∀ xs ys : List α, PyData.eqvAll (xs.map e.d) (ys.map e.d) = decide (xs = ys)
  | [], [] => by simp [PyData.eqvAll]
  | [], y :: ys => by simp [PyData.eqvAll]
  | x :: xs, [] => by simp [PyData.eqvAll]
  | x :: xs, y :: ys => by
    rw [List.map_cons, List.map_cons, PyData.eqvAll, e.q, eqvAll_map e xs ys]
    by_cases h1 : x = y <;> by_cases h2 : xs = ys <;> simp [h1, h2]
def eqLst (e : EqT r k) : EqT (fun xs : List α => U.lst (xs.map r)) (k + 1) where
  d xs := .list (xs.map e.d)
  p xs := by show (pdL (xs.map r)).map _ = _; rw [pdL_map e]; rfl
  c xs := by rw [PyData.canLay0]; exact canAll_map e xs
  t xs := by rw [PyData.depth]; have := depthAll_map e xs; omega
  q xs ys := by rw [PyData.eqv]; exact eqvAll_map e xs ys
def eqTup2 (e : EqT r k) (f : EqT s k') (h1 : k ≤ k2) (h2 : k' ≤ k2) : EqT (fun p : α × β => U.tup [r p.1, s p.2]) (k2 + 1) where
  d p := .tuple [e.d p.1, f.d p.2]
  p x := by show (pdL [r x.1, s x.2]).map _ = _; simp only [pdL, e.p, f.p, Option.bind_some, Option.map_some]
  c x := by rw [PyData.canLay0]; simp only [PyData.canLayAll0, e.c, f.c, Bool.and_self]
  t x := by rw [PyData.depth]; simp only [PyData.depthAll]; have := e.t x.1; have := f.t x.2; omega
  q x y := by
    obtain ⟨x1, x2⟩ := x
    obtain ⟨y1, y2⟩ := y
    rw [PyData.eqv]
    simp only [PyData.eqvAll, e.q, f.q, Bool.and_true]
    by_cases h1 : x1 = y1 <;> by_cases h2 : x2 = y2 <;> simp [h1, h2]
theorem EqT.shaped (e : EqT r k) (hk : k ≤ 64) (x : α) : SeqAt.shaped (e.d x) = true := by
  unfold SeqAt.shaped
  rw [e.c, Bool.true_and]
  exact decide_eq_true (Nat.le_trans (e.t x) hk)
theorem EqT.eq (e : EqT r k) (hk : k ≤ 64) (x y : α) : eqU (r x) (r y) = some (decide (x = y)) := by
  unfold eqU
  rw [e.p, e.p, Option.bind_some, Option.bind_some, if_pos ⟨e.shaped hk x, e.shaped hk y⟩, e.q]
end
theorem oEq_u (u v : U) (b : Bool) (h : eqU u v = some b) : (oEq (K := K)).f u v = some (.bl b) := by
  show (eqU u v).map _ = _
  rw [h]; rfl
theorem oNe_u (u v : U) (b : Bool) (h : eqU u v = some b) : (oNe (K := K)).f u v = some (.bl (!b)) := by
  show (eqU u v).map _ = _
  rw [h]; rfl
theorem oEq_i (i j : Int) : (oEq (K := K)).f (.int i) (.int j) = some (.bl (decide (i = j))) := oEq_u _ _ _ (eqInt.eq (by decide) i j)
theorem oNe_i (i j : Int) : (oNe (K := K)).f (.int i) (.int j) = some (.bl (!decide (i = j))) := oNe_u _ _ _ (eqInt.eq (by decide) i j)
theorem oEq_b (i j : Bool) : (oEq (K := K)).f (.bl i) (.bl j) = some (.bl (decide (i = j))) := oEq_u _ _ _ (eqBl.eq (by decide) i j)
theorem oNe_b (i j : Bool) : (oNe (K := K)).f (.bl i) (.bl j) = some (.bl (!decide (i = j))) := oNe_u _ _ _ (eqBl.eq (by decide) i j)
theorem oEq_nn : (oEq (K := K)).f .non .non = some (.bl true) := rfl
theorem oNe_nn : (oNe (K := K)).f .non .non = some (.bl false) := rfl
abbrev pU (p : Int × Int) : U := .tup [.int p.1, .int p.2]
def eqP : EqT pU 1 := eqTup2 eqInt eqInt (Nat.le_refl _) (Nat.le_refl _)
theorem oEq_pp (xs ys : List (Int × Int)) : (oEq (K := K)).f (.lst (xs.map pU)) (.lst (ys.map pU)) = some (.bl (decide (xs = ys))) := oEq_u _ _ _ ((eqLst eqP).eq (by decide) xs ys)
theorem oNe_pp (xs ys : List (Int × Int)) : (oNe (K := K)).f (.lst (xs.map pU)) (.lst (ys.map pU)) = some (.bl (!decide (xs = ys))) := oNe_u _ _ _ ((eqLst eqP).eq (by decide) xs ys)
theorem oEq_ii (xs ys : List Int) : (oEq (K := K)).f (.lst (xs.map U.int)) (.lst (ys.map U.int)) = some (.bl (decide (xs = ys))) := oEq_u _ _ _ ((eqLst eqInt).eq (by decide) xs ys)
theorem oNe_ii (xs ys : List Int) : (oNe (K := K)).f (.lst (xs.map U.int)) (.lst (ys.map U.int)) = some (.bl (!decide (xs = ys))) := oNe_u _ _ _ ((eqLst eqInt).eq (by decide) xs ys)
theorem oEq_s (a b : Str) (ha : (PyData.str a).canLay0 = true) (hb : (PyData.str b).canLay0 = true) : (oEq (K := K)).f (.str a) (.str b) = some (.bl (decide (a = b))) := by
  refine oEq_u _ _ _ ?_
  unfold eqU
  have h1 : SeqAt.shaped (PyData.str a) = true := by unfold SeqAt.shaped; rw [ha, Bool.true_and]; exact decide_eq_true (by rw [PyData.depth]; omega)
  have h2 : SeqAt.shaped (PyData.str b) = true := by unfold SeqAt.shaped; rw [hb, Bool.true_and]; exact decide_eq_true (by rw [PyData.depth]; omega)
  rw [show pd (.str a) = some (.str a) from rfl, show pd (.str b) = some (.str b) from rfl, Option.bind_some, Option.bind_some, if_pos ⟨h1, h2⟩, PyData.eqv]
  by_cases h : a = b <;> simp [h]
end Sg
set_option Elab.async false
set_option linter.all false
set_option maxRecDepth 100000
set_option maxHeartbeats 4000000
namespace Sg
open PySem L2
section
variable {X : Cx} {W : WX} {pos p2 p3 p4 : Pos} {e a b c : Expr} {es : List Expr} {A B C : ME X.K} {j : Nat} {x : Str} {k n : Nat} {mf : List Slot → Option CO} {L : MC X.K}
theorem dcallGX {h} (c : CalG X.prog X.w X.K X.mg X.base (L2.CX X.prog X.w) k x n mf) (hr : Room k X.A) (hgu : X.A.guards = some []) (tk : Takes X W) (ha : PA X (e :: es) (L.t W)) (hg : Gl X x := by rfl) (hdb : (x == ("__debug__" : Str)) = false := by decide)
    (he : starEach (e :: es) X.env = (false, eval e X.env) :: starEach es X.env := by rfl) (hpl : (backTo pos (starEach es X.env)).any (·.1) = false := by rfl) : PE X (.Call (.Name x p2) (e :: es) [] pos) ((mCall n mf L h).t W) := pcalGX c hr hgu tk ha hg hdb he hpl
theorem dcallGLX {h} (c : CalG X.prog X.w X.K X.mg X.base (L2.CX X.prog X.w) k x n mf) (hr : Room k X.A) (hgu : X.A.guards = some []) (tk : Takes X W) (ha : PA X (e :: es) (L.t W)) (hg : Gl X x := by rfl) (hdb : (x == ("__debug__" : Str)) = false := by decide)
    (he : starEach (e :: es) X.env = (false, eval e X.env) :: starEach es X.env := by rfl) (hpl : (backTo pos (starEach es X.env)).any (·.1) = false := by rfl) : PE X (.Call (.Name x p2) (e :: es) [] pos) ((mCallL n mf L h).t W) := pcalGX c hr hgu tk ha hg hdb he hpl
end
variable {K : PySem.W.Frag}
theorem mCallL_m (n : Nat) (mf : List Slot → Option CO) (a : MC K) (h) (ρ : Env) : (@mCallL K n mf a h).m ρ = lendM n mf (a.m ρ) := rfl
def lendR (ρ : Env) (x : Option CO) : Option EO := match x with
  | some (.val u _) => if (scV u).isSome then some (.ok u ρ) else none
  | some (.ex e _) => some (.ex e ρ)
  | _ => none
def lendA (mf : List Slot → Option CO) (ρ : Env) (x : Option (List Slot)) : Option EO := x.bind fun as => lendR ρ (mf as)
theorem lendM_ok (n : Nat) (mf : List Slot → Option CO) (is : List (U ⊕ Nat)) (ρ : Env) : lendM n mf (some (.ok is ρ)) = if is.length = n then lendA mf ρ (resolveL ρ is) else none := rfl
theorem lendM_ex (n : Nat) (mf : List Slot → Option CO) (e : Exn) (ρ : Env) : lendM n mf (some (.ex e ρ)) = some (.ex e ρ) := rfl
theorem lendA_some (mf : List Slot → Option CO) (ρ : Env) (as : List Slot) : lendA mf ρ (some as) = lendR ρ (mf as) := rfl
theorem lendR_b (ρ : Env) (b : Bool) (c : Option (List U)) : lendR ρ (some (.val (.bl b) c)) = some (.ok (.bl b) ρ) := rfl
theorem lendR_i (ρ : Env) (b : Int) (c : Option (List U)) : lendR ρ (some (.val (.int b) c)) = some (.ok (.int b) ρ) := rfl
theorem lendR_n (ρ : Env) (c : Option (List U)) : lendR ρ (some (.val .non c)) = some (.ok .non ρ) := rfl
theorem lendR_ex (ρ : Env) (e : Exn) (c : Option (List U)) : lendR ρ (some (.ex e c)) = some (.ex e ρ) := rfl
theorem resolveL_nil (ρ : Env) : resolveL ρ [] = some [] := rfl
theorem resolveL_v (ρ : Env) (u : U) (r : List (U ⊕ Nat)) : resolveL ρ (.inl u :: r) = (resolveL ρ r).map fun as => .val u :: as := rfl
def resC (x : Option Slot) (y : Option (List Slot)) : Option (List Slot) := match x with
  | some (.cel _ us) => y.map fun as => .val (.lst us) :: as
  | some (.celD _ us) => y.map fun as => .val (.dic us) :: as
  | _ => none
theorem resolveL_c (ρ : Env) (j : Nat) (r : List (U ⊕ Nat)) : resolveL ρ (.inr j :: r) = resC ρ[j]? (resolveL ρ r) := rfl
theorem resC_d (o : Bool) (us : List (Key × U)) (y : Option (List Slot)) : resC (some (.celD o us)) y = y.map fun as => .val (.dic us) :: as := rfl
theorem resC_c (o : Bool) (us : List U) (y : Option (List Slot)) : resC (some (.cel o us)) y = y.map fun as => .val (.lst us) :: as := rfl
end Sg
namespace Sg
open PySem L2
end Sg
set_option Elab.async false
set_option linter.all false
set_option maxRecDepth 100000
set_option maxHeartbeats 1000000
namespace Sg
open PySem L2
variable {K : PySem.W.Frag}
theorem oEqS_s (a b : Str) : (oEqS (K := K)).f (.str a) (.str b) = some (.bl (decide (a = b))) := rfl
theorem oNeS_s (a b : Str) : (oNeS (K := K)).f (.str a) (.str b) = some (.bl (!decide (a = b))) := rfl
theorem nat_log62 {n : Nat} (h : n < 100000000000000000000000000000000000000000000000000000000000000) : n.log2 < 210 := by
  by_cases z : n = 0
  · rw [z]; decide
  · exact (Nat.log2_lt z).mpr (Nat.lt_of_lt_of_le h (by decide +kernel))
theorem oMul_s (i j : Int) (h1 : -100000000000000000000000000000000000000000000000000000000000000 < i) (h2 : i < 100000000000000000000000000000000000000000000000000000000000000) (h3 : -100000000000000000000000000000000000000000000000000000000000000 < j) (h4 : j < 100000000000000000000000000000000000000000000000000000000000000) : (oMul (K := K)).f (.int i) (.int j) = some (.int (i * j)) := by
  refine if_pos (.inr ?_)
  have a : i.natAbs < 100000000000000000000000000000000000000000000000000000000000000 := by omega
  have b : j.natAbs < 100000000000000000000000000000000000000000000000000000000000000 := by omega
  have la := nat_log62 a
  have lb := nat_log62 b
  show (Builtin.Int.intBits i : Int) + (Builtin.Int.intBits j : Int) ≤ 134217728
  have bits : ∀ k : Int, k.natAbs.log2 < 210 → (Builtin.Int.intBits k : Int) ≤ 211 := fun k hk => by
    unfold Builtin.Int.intBits
    split <;> omega
  have := bits i la
  have := bits j lb
  omega
end Sg
set_option Elab.async false
set_option linter.all false
set_option maxRecDepth 100000
set_option maxHeartbeats 4000000
namespace Sg
open PySem L2 RZ
variable {K : PySem.W.Frag}
theorem oIsN_i (i : Int) : (oIsN (K := K)).f (.int i) .non = some (.bl false) := rfl
theorem oIsN_b (i : Bool) : (oIsN (K := K)).f (.bl i) .non = some (.bl false) := rfl
theorem oIsN_t (us : List U) : (oIsN (K := K)).f (.tup us) .non = some (.bl false) := rfl
end Sg
set_option Elab.async false
set_option linter.all false
set_option maxRecDepth 100000
set_option maxHeartbeats 4000000
namespace Sg
open PySem L2 PySem.Calls PySem.Spec PyProof.Rows
section
variable {M : Model} {A : Around} {E : Value → Shared → Prop} {s : Shared}
theorem sk_args {f : Value} {x : Sem Value} {pos : Pos} {kws : List (Option Str × Sem Value)} {Q : Args → Shared → Prop} (hall : kws.all (·.1.isSome) = true)
    (h : wpAny M A x (fun v s1 => wpAny M A (evalAll (kws.map (·.2))) (fun ks s2 => PySem.W.StarOf M A E v (fun vs s3 => Q ⟨vs, (kws.filterMap (·.1)).zip ks⟩ s3) s2) E s1) E s) :
    wpAny M A (evalArgs f true [(true, (do let v ← x; standAt pos; pure v))] kws) Q E s := by
  unfold evalArgs
  refine wpAny_bind (wpAny_bind (wpAny_mono h (fun v s1 h1 => wpAny_bind (wpAny_standAt (wpAny_pure (wpAny_bind (wpAny_pure ?_))))) fun _ _ z => z))
  refine wpAny_holding ?_
  simp only [hall, if_true]
  refine wpAny_bind (wpAny_mono h1 (fun ks s2 h2 => ?_) fun _ _ z => z)
  unfold PySem.W.StarOf at h2
  refine wpAny_bind (wpAny_bind (wpAny_mono h2 (fun b s3 h3 => ?_) fun _ _ z => z))
  obtain ⟨rfl, h3⟩ := h3
  simp only [Bool.false_eq_true, if_false]
  exact wpAny_holding (wpAny_mono h3 (fun vs s4 h4 => wpAny_pure h4) fun _ _ z => z)
end
section
variable {M : Model} {A : Around} {E : Value → Shared → Prop} {s : Shared} {K : PySem.W.Frag}
theorem sk_call {P : Heap → Prop} {f : Value} {first : List Value} {pos : Pos} {Q : Value → Shared → Prop} {args : List (Bool × Sem Value)} {kws : List (Option Str × Sem Value)} (hst : args.any (·.1) = true)
    (hk : ∀ h, P h → ∃ k, (k = Keeper.frame ∨ k = Keeper.machine ∨ k = Keeper.boundFrame) ∧ PySem.W.Looks M h (keeperOf f) k)
    (h : wpAny M A (evalArgs f true args kws) (fun a s₁ => P s₁.heap ∧ wpAny M A (call f (first ++ a.pos) a.kw) Q E s₁) E s) : wpAny M A (callWith pos f first args kws) Q E s := by
  unfold callWith
  refine wpAny_bind (wpAny_holding (wpAny_mono h (fun a s₁ h₁ => wpAny_bind (wpAny_standAt ?_)) fun _ _ x => x))
  obtain ⟨k, hk', L⟩ := hk _ h₁.1
  simp only [hst, Bool.true_or]
  refine wpAny_bind (L.here ?_)
  have tail : ∀ {t : Sem Value}, wpAny M A t Q E s₁ → wpAny M A (t >>= fun r => holding [r] point >>= fun _ => pure r) Q E s₁ :=
    fun ht => wpAny_bind (wpAny_mono ht (fun r s₂ hr => wpAny_bind (wpAny_holding (wpAny_point (wpAny_pure hr)))) fun _ _ x => x)
  have marked (mk : Value) : wpAny M A (callMarked mk f (first ++ a.pos) a.kw) Q E s₁ := by unfold callMarked; exact Calls.wpAny_keep h₁.2
  rcases hk' with rfl | rfl | rfl <;> dsimp only <;> first | exact tail (marked _) | exact tail (wpAny_operating h₁.2)
theorem callWith_SK {env : PySem.Env} {pos p : Pos} {f : Value} {first : List Value} {Q : Value → Shared → Prop} {h₀ : Heap} {e : Expr} {kws : List Keyword} (_X : K.In h₀) (hk : PySem.W.keepIn K f = true) (hall : (backToKw pos (keywordEach kws env)).all (·.1.isSome) = true)
    (h : wpAny M A (eval e env) (fun v s1 => wpAny M A (evalAll ((backToKw pos (keywordEach kws env)).map (·.2))) (fun ks s2 => PySem.W.StarOf M A E v (fun vs s3 => K.In s3.heap ∧ wpAny M A (call f (first ++ vs) (((backToKw pos (keywordEach kws env)).filterMap (·.1)).zip ks)) Q E s3) s2) E s1) E s)
    (he : starEach [.Starred e p] env = [(true, eval e env)] := by rfl) :
    wpAny M A (callWith pos f first (backTo pos (starEach [.Starred e p] env)) (backToKw pos (keywordEach kws env))) Q E s := by
  rw [he]
  exact sk_call rfl (PySem.W.keeps_K hk) (sk_args hall h)
end
def FnV (P : Program) (w : World) (K : PySem.W.Frag) (mg : Str → Option Value) (base : Heap) (CX : CXT) (k : Nat) (f : Addr) (kw : Str) (sp : V → V → List V → Hp → VK → XK → Prop) : Prop :=
  ∀ (A : Around) (outer : List PySem.Env) (s : Shared) (H : Hp) (a r : Value) (us : List Value) (va vr : V) (vs : List V) (Q : VK) (E : XK), Room k A → Env0 P w K mg base A outer s H → RelV va a → RelV vr r → Vals vs us → vs.length ≤ sizeLine → sp va vr vs H Q E →
    codeAny (model P w) A (.call (.ref f) ⟨a :: us, [(kw, r)]⟩) (CR CX outer P w H s Q E) s
def FnV0 (P : Program) (w : World) (K : PySem.W.Frag) (mg : Str → Option Value) (base : Heap) (CX : CXT) (k : Nat) (f : Addr) (d : V) (sp : V → V → List V → Hp → VK → XK → Prop) : Prop :=
  ∀ (A : Around) (outer : List PySem.Env) (s : Shared) (H : Hp) (a : Value) (us : List Value) (va : V) (vs : List V) (Q : VK) (E : XK), Room k A → Env0 P w K mg base A outer s H → RelV va a → Vals vs us → vs.length ≤ sizeLine → sp va d vs H Q E →
    codeAny (model P w) A (.call (.ref f) ⟨a :: us, []⟩) (CR CX outer P w H s Q E) s
def spT (sp : V → V → V → List V → Hp → VK → XK → Prop) : V → V → List V → Hp → VK → XK → Prop := fun va vr vs H Q E => ∀ p, H p = none → sp va vr (.ref p) vs (upd H p (.tup vs)) Q E
section
variable {CX : CXT} {P : Program} {w : World} {K : PySem.W.Frag} {mg : Str → Option Value} {base : Heap} {k : Nat} {f : Addr} {x qual p1 pv kw : Str} {st : Stmt} {fd : FuncData} {N : List Str} {sp : V → V → V → List V → Hp → VK → XK → Prop}
theorem fn_V (F : Fun K x qual st f fd) (S : FnScope N [p1, kw, pv] (defScope st)) (hCX : StX.CXUp CX)
    (h0 : ∀ (kV doc pm : Value) (an : Option Addr) (cdv ct a r : Value), bindArgs (PySem.W.fnOf x qual (defArgs st) (defBody st) (defScope st) .none kV doc pm an cdv ct) ⟨[a], [(kw, r)]⟩ = (newTuple [] >>= fun t => pure [(p1, a), (kw, r), (pv, t)]))
    (h1 : ∀ (kV doc pm : Value) (an : Option Addr) (cdv ct a r y : Value) (ys : List Value), bindArgs (PySem.W.fnOf x qual (defArgs st) (defBody st) (defScope st) .none kV doc pm an cdv ct) ⟨a :: y :: ys, [(kw, r)]⟩ = (newTuple (y :: ys) >>= fun t => pure [(p1, a), (kw, r), (pv, t)]))
    (hbody : ∀ (cdv : Value) (A : Around) (outer : List PySem.Env) (s : Shared) (H : Hp) (va vr vt : V) (vs : List V) (Q : VK) (E : XK), Room k (A.deeper (envOfC qual (defScope st) s.heap.objs.size f cdv)) → sp va vr vt vs H Q E →
      ∃ t, PSs (cxOf CX P w K mg base N qual (defScope st) f cdv A outer s H E) (defBody st) t ∧ t { nx := fun _ H' => Q .non H', rt := Q } (L2.start N [va, vr, vt]) H) :
    FnV P w K mg base CX (k + 1) f kw (spT sp) := by
  obtain ⟨oc, od, kV, doc, pm, an, cdv, ct, osl, rfl, lk, hcd⟩ := F.ex
  intro A outer s H a r us va vr vs Q E hr e0 ra rr rv hz hq
  have hn : H s.heap.objs.size = Option.none := e0.hok.fresh (Nat.le_refl _)
  have hl2 : us.length ≤ sizeLine := by rw [← rv.length]; exact hz
  have hb : bindArgs (PySem.W.fnOf x qual (defArgs st) (defBody st) (defScope st) .none kV doc pm an cdv ct) ⟨a :: us, [(kw, r)]⟩ = (newTuple us >>= fun t => pure [(p1, a), (kw, r), (pv, t)]) := by
    cases us with
    | nil => exact h0 kV doc pm an cdv ct a r
    | cons y ys => exact h1 kV doc pm an cdv ct a r y ys
  refine StX.run_bnd lk hcd S hr e0 (G := fun xs H2 => ∃ p, H p = Option.none ∧ xs = [va, vr, V.ref p] ∧ H2 = upd H p (.tup vs)) (fun A' Ex Q' h => ?_) fun s2 H2 xs ⟨p, hp, ex, eH⟩ hr' => ?_
  · rw [hb]
    refine wpAny_bind (wpAny_newTuple (wpAny_pure ?_) hl2)
    have new : ObjOk P w (upd H s.heap.objs.size (.tup vs)) (s.heap.push ({ cls := .type "tuple", data := .seq us.toArray } : Obj)) s.heap.objs.size (.tup vs) := ⟨hz, us, rv, ⟨_, Heap.get?_push_size _ rfl, rfl, _, rfl⟩⟩
    have un := StX.un_laid (fs := frs outer) (s := s) (o := ({ cls := .type "tuple", data := .seq us.toArray } : Obj)) (u := .tup vs) hn
    have z := h _ _ [va, vr, V.ref s.heap.objs.size] [a, r, Value.ref s.heap.objs.size] (StX.env0_laid e0 new) un rfl (fun e s' => hCX outer s H _ _ E e s' un (fun b o q => Heap.get?_push_of_some _ q) rfl) (.cons ra (.cons rr (.cons rfl .nil)))
      rfl ⟨_, hn, rfl, rfl⟩
    exact z
  · subst ex eH
    exact hbody cdv A outer s2 _ va vr (.ref p) vs Q E hr' (hq p hp)
end
end Sg
set_option Elab.async false
set_option linter.all false
set_option maxRecDepth 100000
set_option maxHeartbeats 4000000
namespace Sg
open PySem L2
variable {K : PySem.W.Frag}
inductive IN where
  | nx (fs : List (Str × U)) (ρ : Env)
  | ex (e : Exn) (ρ : Env)
inductive IR where
  | ok (fs : List (Str × U))
  | ex (e : Exn)
def putU (f : Str) (u : U) : List (Str × U) → List (Str × U)
  | [] => [(f, u)]
  | (g, x) :: r => if g = f then (g, u) :: r else (g, x) :: putU f u r
theorem RepF.put {B : Hp} {f : Str} {u : U} {v : V} (q : Rep K B u v) : ∀ {fs : List (Str × U)} {ws : List (Str × V)}, RepF K B fs ws → RepF K B (putU f u fs) (putF f v ws)
  | [], _, h => by cases h; exact ⟨v, [], rfl, q, rfl⟩
  | (g, x) :: r, _, h => by
    obtain ⟨w, ws, rfl, h1, h2⟩ := h
    unfold putU putF
    by_cases c : g = f
    · rw [if_pos c, if_pos c]; exact ⟨v, ws, rfl, q, h2⟩
    · rw [if_neg c, if_neg c]; exact ⟨w, _, rfl, h1, RepF.put q h2⟩
theorem RepF.length {B : Hp} : ∀ {fs : List (Str × U)} {ws : List (Str × V)}, RepF K B fs ws → ws.length = fs.length
  | [], _, h => by cases h; rfl
  | (g, x) :: r, _, h => by
    obtain ⟨w, ws, rfl, h1, h2⟩ := h
    simp [RepF.length h2]
def FinN (K : PySem.W.Frag) (F : Fc) (W : WX) (c : Str) (x dx : Addr) (D : Ends) (B : Hp) : IN → Prop
  | .nx fs ρ' => ∀ σ' B' H' ws, Ex B B' → Rel K (F.push x (.ins (He.ga K c) dx ws)) ρ' σ' B' H' → RepF K B' fs ws → D.nx σ' H'
  | .ex e ρ' => ∀ cls d σ' B' H' ws, Ex B B' → Rel K (F.push x (.ins (He.ga K c) dx ws)) ρ' σ' B' H' → XRel K F e cls d H' → W cls d σ' H'
theorem FinN.mono {F : Fc} {W : WX} {c : Str} {x dx : Addr} {D : Ends} {B B1 : Hp} {o : IN} (b : Ex B B1) (f : FinN K F W c x dx D B o) : FinN K F W c x dx D B1 o := by
  cases o with
  | nx fs ρ' => exact fun σ' B' H' ws x1 R r => f σ' B' H' ws (b.trans x1) R r
  | ex e ρ' => exact fun cls d σ' B' H' ws x1 R r => f cls d σ' B' H' ws (b.trans x1) R r
structure MN (K : PySem.W.Frag) where
  fl : List Str
  t : WX → TS
  m : Addr → Env → List (Str × U) → Option IN
  ok : ∀ (c : Str) (F : Fc) (W : WX) (ρ : Env) (σ : St) (B H : Hp) (D : Ends) (x dx : Addr) (fs : List (Str × U)) (ws : List (Str × V)) (o : IN), Cls K (He.ga K c) → (∀ f ∈ fl, NoAttr K (He.ga K c) f) → m x ρ fs = some o →
    Rel K (F.push x (.ins (He.ga K c) dx ws)) ρ σ B H → RepF K B fs ws → FinN K F W c x dx D B o → t W D σ H
def at0 (x : Addr) (ρ : Env) : Bool := match ρ[(0 : Nat)]? with
  | some (.val (.ref y)) => decide (y = x)
  | _ => false
theorem at0_ok {x : Addr} {ρ : Env} (h : at0 x ρ = true) : ρ[0]? = some (.val (.ref x)) := by
  unfold at0 at h
  split at h
  · rename_i y e; rw [of_decide_eq_true h] at e; exact e
  · cases h
def mnSeq (a b : MN K) : MN K where
  fl := a.fl ++ b.fl
  t := fun W => tSeq (a.t W) (b.t W)
  m := fun x ρ fs => match a.m x ρ fs with
    | some (.nx fs' ρ') => b.m x ρ' fs'
    | o => o
  ok := fun c F W ρ σ B H D x dx fs ws o hc hn q R r f => by
    have ha : ∀ f ∈ a.fl, NoAttr K (He.ga K c) f := fun f h => hn f (List.mem_append_left _ h)
    have hb : ∀ f ∈ b.fl, NoAttr K (He.ga K c) f := fun f h => hn f (List.mem_append_right _ h)
    split at q
    · rename_i fs' ρ' ea
      refine a.ok c F W ρ σ B H _ x dx fs ws _ hc ha ea R r fun σ1 B1 H1 ws1 x1 R1 r1 => ?_
      exact b.ok c F W ρ' σ1 B1 H1 D x dx fs' ws1 o hc hb q R1 r1 (f.mono x1)
    · rename_i hne
      refine a.ok c F W ρ σ B H _ x dx fs ws _ hc ha q R r ?_
      cases o with
      | nx fs' ρ' => exact absurd q (hne _ _)
      | ex e ρ' => exact f
def mnS (S : MS K) : MN K where
  fl := []
  t := S.t
  m := fun _ ρ fs => match S.m ρ with
    | some (.nx ρ') => some (.nx fs ρ')
    | some (.ex e ρ') => some (.ex e ρ')
    | _ => none
  ok := fun c F W ρ σ B H D x dx fs ws o hc hn q R r f => by
    split at q
    · rename_i ρ' es
      cases q
      exact S.ok _ W ρ σ B H D _ es R fun σ' B' H' x1 R1 => f σ' B' H' ws x1 R1 (RepF.mono x1 _ _ r)
    · rename_i e ρ' es
      cases q
      exact S.ok _ W ρ σ B H D _ es R fun cls d σ' B' H' x1 R1 xr => f cls d σ' B' H' ws x1 R1 (XRel.pop xr)
    · cases q
def mnF (f : Str) (e : ME K) (he : e.k = true := by exact id rfl) : MN K where
  fl := [f]
  t := fun W => sFld K (tVar 0) (e.t W) f
  m := fun x ρ fs => match e.m ρ with
    | none => none
    | some (.ex y ρ') => some (.ex y ρ')
    | some (.ok u ρ') => if at0 x ρ' = true ∧ fs.length < 1000 then some (.nx (putU f u fs) ρ') else none
  ok := fun c F W ρ σ B H D x dx fs ws o hc hn q R r fin => by
    show e.t W σ H _
    split at q
    · cases q
    · rename_i y ρ' es
      cases q
      exact e.ok _ W ρ σ B H _ _ es R fun cls d B1 H1 x1 R1 xr => fin cls d σ B1 H1 ws x1 R1 (XRel.pop xr)
    · rename_i u ρ' es
      refine e.ok _ W ρ σ B H _ _ es R fun v B1 H1 x1 p1 R1 r1 => ?_
      rw [he, if_pos rfl] at r1
      split at q
      · rename_i hh
        obtain ⟨h0, hl⟩ := hh
        cases q
        obtain ⟨v0, e0, r0⟩ := R1.sl 0 _ (at0_ok h0)
        obtain rfl : v0 = .ref x := r0
        exact ⟨.ref x, getD_some e0, x, He.ga K c, dx, ws, rfl, R1.getX.1, hc, hn f (List.mem_cons_self), by rw [r.length]; exact hl, fin σ B1 _ (putF f v ws) x1 R1.updX (RepF.put r1 (RepF.mono x1 _ _ r))⟩
      · cases q
def initM (N : MN K) (n : Nat) (x : Addr) (r : U) (us : List U) : Option IR := match N.m x ([.val (.ref x), .val r, .val (.tup us)] ++ List.replicate (n - 3) .non) [] with
  | some (.nx fs _) => some (.ok fs)
  | some (.ex e _) => some (.ex e)
  | none => none
def FinV (K : PySem.W.Frag) (B H0 : Hp) (c : Str) (x dx : Addr) (Q : VK) (E : XK) : IR → Prop
  | .ok fs => ∀ ws B' H', Go [] B H0 B' H' → H' x = some (.ins (He.ga K c) dx ws) → B' x = none → RepF K B' fs ws → Q .non H'
  | .ex e => ∀ cls d B' H', Go [] B H0 B' H' → XRelC K H0 e cls d H' → E cls d H'
def spN (K : PySem.W.Frag) (c : Str) (N : MN K) (n : Nat) : V → V → V → List V → Hp → VK → XK → Prop := fun va vr vt vs H Q E => ∃ (B H0 : Hp) (x dx p : Addr) (r : U) (us : List U) (o : IR),
  va = .ref x ∧ vt = .ref p ∧ H = upd (upd H0 x (.ins (He.ga K c) dx [])) p (.tup vs) ∧ H0 x = none ∧ H0 p = none ∧ p ≠ x ∧ Ex B H0 ∧ Rep K B r vr ∧ RepL K B us vs ∧ initM N n x r us = some o ∧ FinV K B H0 c x dx Q E o
theorem upd_swap {H : Hp} {a b : Addr} {o u : HO} (n : a ≠ b) : upd (upd H a o) b u = upd (upd H b u) a o := by
  funext c
  by_cases h1 : c = a
  · subst h1; rw [upd_ne n, upd_same, upd_same]
  · by_cases h2 : c = b
    · subst h2; rw [upd_same, upd_ne h1, upd_same]
    · rw [upd_ne h2, upd_ne h1, upd_ne h1, upd_ne h2]
theorem XRelC.upd {H0 : Hp} {p : Addr} {o : HO} {e : Exn} {cls : Value} {d : Option Addr} {H' : Hp} (x : XRelC K (upd H0 p o) e cls d H') : XRelC K H0 e cls d H' := by
  obtain ⟨h1, h2⟩ := x
  refine ⟨h1, ?_⟩
  cases q : e.arg with
  | none => rw [q] at h2; exact h2
  | some pq =>
    rw [q] at h2
    obtain ⟨dd, z, h3, h4, h5, h6⟩ := h2
    refine ⟨dd, z, h3, h4, h5, ?_⟩
    by_cases c : dd = p
    · rw [c, upd_same] at h6; cases h6
    · rw [upd_ne c] at h6; exact h6
theorem init_fin {N : List Str} {c : Str} {b : MN K} {va vr vt : V} {vs : List V} {H : Hp} {Q : VK} {E : XK} (hN : 3 ≤ N.length) (hc : Cls K (He.ga K c)) (hn : ∀ f ∈ b.fl, NoAttr K (He.ga K c) f) (h : spN K c b N.length va vr vt vs H Q E) :
    b.t (fun cls d _ H' => E cls d H') { nx := fun _ H' => Q .non H', rt := Q } (L2.start N [va, vr, vt]) H := by
  obtain ⟨B, H0, x, dx, p, r, us, o, rfl, rfl, rfl, hx, hp, px, xb, rr, ru, em, f⟩ := h
  have g1 := Go.newB (o := .tup vs) xb hp
  have hx1 : upd H0 p (.tup vs) x = none := by rw [upd_ne (Ne.symm px)]; exact hx
  have R0 := start_rel (K := K) (as := [.val (.ref x), .val r, .val (.tup us)]) (vs := [.ref x, vr, .ref p]) (N := N) g1.bh
    ⟨.ref x, _, rfl, rfl, vr, _, rfl, Rep.mono g1.bb _ _ rr, .ref p, _, rfl, ⟨p, vs, rfl, .inl (.inl upd_same), RepL.mono g1.bb _ _ ru⟩, rfl⟩ (Nat.zero_le 1) (by exact hN)
  have R1 := R0.addX (o := .ins (He.ga K c) dx []) hx1
  rw [upd_swap (Ne.symm px)]
  unfold initM at em
  have rg : ∀ {ρ' : Env} {σ' : St} {B' H' : Hp} {ws : List (Str × V)}, Rel K (Fc.push ⟨upd B p (.tup vs), upd H0 p (.tup vs), [], [], L2.start N [.ref x, vr, .ref p], []⟩ x (.ins (He.ga K c) dx ws)) ρ' σ' B' H' → Go [] B H0 B' H' := fun R => g1.trans (Rel.go (F := ⟨upd B p (.tup vs), upd H0 p (.tup vs), [], [], L2.start N [.ref x, vr, .ref p], []⟩) rfl rfl R.popX)
  split at em
  · rename_i fs ρ' e1
    cases em
    exact b.ok c ⟨upd B p (.tup vs), upd H0 p (.tup vs), [], [], L2.start N [.ref x, vr, .ref p], []⟩ _ _ _ _ _ _ x dx [] [] _ hc hn e1 R1 rfl fun σ' B' H' ws x1 R r => f ws B' H' (rg R) R.getX.1 R.getX.2.1 r
  · rename_i e ρ' e1
    cases em
    exact b.ok c ⟨upd B p (.tup vs), upd H0 p (.tup vs), [], [], L2.start N [.ref x, vr, .ref p], []⟩ _ _ _ _ _ _ x dx [] [] _ hc hn e1 R1 rfl fun cls d σ' B' H' ws x1 R xr => f cls d B' H' (rg R) (XRelC.upd (XRel.down xr))
  · cases em
section
open PyProof.Rows
variable {P : Program} {w : World} {mg : Str → Option Value} {base : Heap} {k : Nat} {f : Addr} {x qual p1 pv kw c : Str} {st : Stmt} {fd : FuncData} {N : List Str}
theorem fn_init (F : Fun K x qual st f fd) (S : FnScope N [p1, kw, pv] (defScope st)) (b : MN K) (hN : 3 ≤ N.length) (hc : Cls K (He.ga K c)) (hn : ∀ f ∈ b.fl, NoAttr K (He.ga K c) f)
    (h0 : ∀ (kV doc pm : Value) (an : Option Addr) (cdv ct a r : Value), bindArgs (PySem.W.fnOf x qual (defArgs st) (defBody st) (defScope st) .none kV doc pm an cdv ct) ⟨[a], [(kw, r)]⟩ = (newTuple [] >>= fun t => pure [(p1, a), (kw, r), (pv, t)]))
    (h1 : ∀ (kV doc pm : Value) (an : Option Addr) (cdv ct a r y : Value) (ys : List Value), bindArgs (PySem.W.fnOf x qual (defArgs st) (defBody st) (defScope st) .none kV doc pm an cdv ct) ⟨a :: y :: ys, [(kw, r)]⟩ = (newTuple (y :: ys) >>= fun t => pure [(p1, a), (kw, r), (pv, t)]))
    (d : ∀ (cdv : Value) (A : Around) (outer : List PySem.Env) (s : Shared) (H : Hp) (E : XK), Room k (A.deeper (envOfC qual (defScope st) s.heap.objs.size f cdv)) → ∃ t, PSs (cxOf (L2.CX P w) P w K mg base N qual (defScope st) f cdv A outer s H E) (defBody st) t ∧ t = b.t fun cls d _ H => E cls d H) :
    FnV P w K mg base (L2.CX P w) (k + 1) f kw (spT (spN K c b N.length)) :=
  fn_V F S StX.cxUp h0 h1 fun cdv A outer s H va vr vt vs Q E hr h => by
    obtain ⟨t, ht, e⟩ := d cdv A outer s H E hr
    exact ⟨t, ht, by rw [e]; exact init_fin hN hc hn h⟩
end
theorem FnV.mono {P : Program} {w : World} {mg : Str → Option Value} {base : Heap} {CX : CXT} {k j : Nat} {f : Addr} {kw : Str} {sp : V → V → List V → Hp → VK → XK → Prop} (F : FnV P w K mg base CX j f kw sp) (l : j ≤ k) : FnV P w K mg base CX k f kw sp :=
  fun A outer s H a r us va vr vs Q E hr => F A outer s H a r us va vr vs Q E (hr.mono l)
noncomputable def allX (g : Addr → Option IR) : Option IR := open Classical in if ∀ x y, g x = g y then g 0 else none
theorem allX_some {g : Addr → Option IR} {o : IR} (h : allX g = some o) (x : Addr) : g x = some o := by
  unfold allX at h
  split at h
  · rename_i hh; rw [hh x 0]; exact h
  · cases h
theorem allX_const {c : Option IR} : allX (fun _ => c) = c := by
  unfold allX
  rw [if_pos fun _ _ => rfl]
def tMakeS (K : PySem.W.Frag) (c : Str) (sp : V → V → List V → Hp → VK → XK → Prop) (E : St → XK) (te tr : TE) : TE := fun σ H Q => te σ H fun y H1 => tr σ H1 fun z H2 => ∃ a xs, y = .ref a ∧ (SqT K H2 a xs ∨ SqL K H2 a xs) ∧
  ∀ x dx, H2 x = none → H2 dx = none → dx ≠ x → sp (.ref x) z xs (upd (upd H2 dx (.own x)) x (.ins (He.ga K c) dx [])) (fun v H3 => v = .non ∧ Q (.ref x) H3) (E σ)
def tMakeL (K : PySem.W.Frag) (i : Nat) (c : Str) (t : TE) : TE := fun σ H Q => σ[i]? = some (some (.ref (He.ga K c))) ∧ t σ H Q
structure CalI (P : Program) (w : World) (K : PySem.W.Frag) (mg : Str → Option Value) (base : Heap) (k : Nat) (c kw : Str) (N : MN K) (n : Nat) : Prop where
  mg_ : mg c = some (.ref (He.ga K c))
  ok : ∃ f, Mk K (He.ga K c) f ∧ FnV P w K mg base (L2.CX P w) k f kw (spT (spN K c N n))
section
open PyProof.Rows
variable {X : Cx} {W : WX} {k n i : Nat} {x c kw : Str} {N : MN X.K} {e e2 : Expr} {te tr : TE} {p pos sp_ kp : Pos}
theorem run_makeV {C f : Addr} {sp : V → V → List V → Hp → VK → XK → Prop} {pins : List (Addr × Obj)} {σ : L2.St} {H : Hp} {s : Shared} {Q : VK} {E : XK} {us : List Value} {vs : List V} {r : Value} {vr : V} (M : Mk X.K C f) (F : FnV X.prog X.w X.K X.mg X.base (L2.CX X.prog X.w) k f kw sp) (hr : Room (k + 1) X.A) (hx : PassesAt (L2.CX X.prog X.w) X σ E)
    (I : Inv X pins σ H s) (rv : Vals vs us) (hz : vs.length ≤ sizeLine) (rr : RelV vr r)
    (h : ∀ x dx, H x = none → H dx = none → dx ≠ x → sp (.ref x) vr vs (upd (upd H dx (.own x)) x (.ins C dx [])) (fun v H2 => v = .non ∧ Q (.ref x) H2) E) :
    wpAny (model X.prog X.w) X.A (call (.ref C) us [(kw, r)]) (EP X pins σ Q) X.xe s := by
  have hq := h (s.heap.objs.size + 1) s.heap.objs.size (I.hok.fresh (Nat.le_succ _)) (I.hok.fresh (Nat.le_refl _)) (Nat.ne_of_lt (Nat.lt_succ_self _))
  have I2 := Inv.made (C := C) I
  refine wpAny_call (make_map (f := f) I.kIn M.makes M.init (beq_iff_eq.mp M.fn) (codeAny_mono (F _ X.stack _ _ (Value.ref (s.heap.objs.size + 1)) r us (V.ref (s.heap.objs.size + 1)) vr vs _ E (hr.make C us [(kw, r)]) (I2.env0.make C us [(kw, r)]) rfl rr rv hz hq) fun r1 s' hq' => ?_))
  cases r1 with
  | error e => exact hx pins _ _ e s' I2 hq'
  | ok fl =>
    cases fl with
    | ret u =>
      obtain ⟨v, H', I3, rv, ev, q3⟩ := I2.after hq'
      subst ev
      exact ⟨rv, ⟨V.ref (s.heap.objs.size + 1), H', I3, rfl, q3⟩⟩
    | next => exact False.elim hq'
    | brk => exact False.elim hq'
    | cont => exact False.elim hq'
theorem star_len {a : Addr} {xs : List V} {pins : List (Addr × Obj)} {σ : L2.St} {H : Hp} {s : Shared} (I : Inv X pins σ H s) (h : SqT X.K H a xs ∨ SqL X.K H a xs) : xs.length ≤ sizeLine := by
  rcases h with h | h
  · obtain ⟨_, _, _, z⟩ := I.tuple h; exact z
  · obtain ⟨_, _, _, z⟩ := I.list h; exact z
theorem run_makeS {pins : List (Addr × Obj)} {σ : L2.St} {H : Hp} {s : Shared} {Q : VK} (c1 : CalI X.prog X.w X.K X.mg X.base k c kw N n) (hr : Room (k + 1) X.A) (tk : Takes X W) (he : PE X e te) (hk : PE X e2 tr) (I : Inv X pins σ H s) (h : tMakeS X.K c (spT (spN X.K c N n)) (WE W) te tr σ H Q)
    (hall : (backToKw pos (keywordEach [⟨some kw, e2, kp⟩] X.env)).all (·.1.isSome) = true) (hks : (backToKw pos (keywordEach [⟨some kw, e2, kp⟩] X.env)).filterMap (·.1) = [kw]) (hst : starEach [.Starred e sp_] X.env = [(true, eval e X.env)]) :
    wpAny (model X.prog X.w) X.A (callWith pos (.ref (He.ga X.K c)) [] (backTo pos (starEach [.Starred e sp_] X.env)) (backToKw pos (keywordEach [⟨some kw, e2, kp⟩] X.env))) (EP X pins σ Q) X.xe s := by
  obtain ⟨f, M, F⟩ := c1.ok
  refine callWith_SK (h₀ := X.base) I.ok.mod.kin M.kp hall (thn (he.run pins s σ H _ I h) fun v s1 ⟨y, H1, I1, ry, q⟩ => ?_) hst
  have hkw : PK X [⟨some kw, e2, kp⟩] (tCons tr tNil) := pk_cons hk pk_nil
  refine thn (hkw.run pos pins s1 σ H1 (fun zs H2 => match zs with
    | [z] => ∃ a xs, y = .ref a ∧ (SqT X.K H2 a xs ∨ SqL X.K H2 a xs) ∧ ∀ x dx, H2 x = none → H2 dx = none → dx ≠ x → spT (spN X.K c N n) (.ref x) z xs (upd (upd H2 dx (.own x)) x (.ins (He.ga X.K c) dx [])) (fun v H3 => v = .non ∧ Q (.ref x) H3) (WE W σ)
    | _ => False) I1 q) fun ws s2 ⟨zs, H2, I2, rz, q1⟩ => ?_
  cases rz with
  | nil => exact q1.elim
  | cons r1 rz2 =>
    cases rz2 with
    | cons _ _ => exact q1.elim
    | nil =>
      obtain ⟨a, xs, ey, hxs, q2⟩ := q1
      subst ey
      obtain rfl : v = Value.ref a := ry
      refine StX.star_any I2 hxs fun us s3 I3 rv => ⟨I3.kIn, ?_⟩
      rw [hks]
      exact run_makeV M F hr (passAt tk σ) I3 rv (star_len I3 hxs) r1 q2
end
end Sg
set_option Elab.async false
set_option linter.all false
set_option maxRecDepth 100000
set_option maxHeartbeats 4000000
namespace Sg
open PySem L2
variable {K : PySem.W.Frag}
noncomputable def mMakeS (c : Str) (n : Nat) (N : MN K) (a b : ME K) (ha : a.k = true := by exact id rfl) (hb : b.k = true := by exact id rfl) : ME K where
  t := fun W => tMakeS K c (spT (spN K c N n)) (WE W) (a.t W) (b.t W)
  m := fun ρ => bindE (a.m ρ) fun u ρ1 => bindE (b.m ρ1) fun r ρ2 => match seqU u with
    | some us => match allX fun x => initM N n x r us with
      | some (.ok fs) => some (.ok (.ins c fs) ρ2)
      | some (.ex e) => some (.ex e ρ2)
      | none => none
    | none => none
  p := false
  k := true
  ok := fun F W ρ σ B H Q out e R f => by
    rcases bindE_some e with ⟨u, ρ1, e1, e⟩ | ⟨y, ρ1, e1, rfl⟩
    · refine a.ok F W ρ σ B H _ _ e1 R fun v1 B1 H1 x1 p1 R1 r1 => ?_
      rw [ha, if_pos rfl] at r1
      rcases bindE_some e with ⟨r, ρ2, e2, e⟩ | ⟨y, ρ2, e2, rfl⟩
      · refine b.ok F W ρ1 σ B1 H1 _ _ e2 R1 fun v2 B2 H2 x2 p2 R2 r2 => ?_
        rw [hb, if_pos rfl] at r2
        split at e
        · rename_i us hu
          obtain ⟨ad, vs, rfl, h1, h2⟩ := seqU_ok (Rep.mono x2 _ _ r1) hu
          refine ⟨ad, vs, rfl, h1.symm.imp (Ex.t R2.ex) (Ex.l R2.ex), fun x dx hx hd ne p hp => ?_⟩
          have R3 := R2.grow (Go.newC (o := .own x) R2.ex hd)
          have hx0 : upd H2 dx (.own x) x = none := by rw [upd_ne (Ne.symm ne)]; exact hx
          have px : p ≠ x := fun c => by rw [c, upd_same] at hp; cases hp
          have hp0 : upd H2 dx (.own x) p = none := by rw [upd_ne px] at hp; exact hp
          split at e
          · rename_i fs hm
            cases e
            refine ⟨B2, upd H2 dx (.own x), x, dx, p, r, us, .ok fs, rfl, rfl, rfl, hx0, hp0, px, R3.ex, r2, h2, allX_some hm x, fun ws B' H' g hH hB rf => ?_⟩
            have R4 := (R3.grow g).know hH hB (R3.fresh0 hx0) (fun j s es => by rw [R3.ow_eq g es]; exact R3.notC hx0 j s es) (fun u hu => by have := (R3.xx x u hu).1; rw [hx0] at this; cases this)
            exact ⟨rfl, f _ _ _ ((x1.trans x2).trans (g.bb.trans (Ex.new hB))) (fun z => nomatch z) R4 ⟨x, dx, ws, rfl, upd_same, RepF.mono (Ex.new hB) _ _ rf⟩⟩
          · rename_i y hm
            cases e
            exact ⟨B2, upd H2 dx (.own x), x, dx, p, r, us, .ex y, rfl, rfl, rfl, hx0, hp0, px, R3.ex, r2, h2, allX_some hm x, fun cls d B' H' g xr => f cls d B' H' ((x1.trans x2).trans g.bb) (R3.grow g) (XRel.up R3 xr)⟩
          · cases e
        · cases e
      · exact b.ok F W ρ1 σ B1 H1 _ _ e2 R1 fun cls d B2 H2 x2 R2 xr => f cls d B2 H2 (x1.trans x2) R2 xr
    · exact a.ok F W ρ σ B H _ _ e1 R fun cls d B1 H1 x1 R1 xr => f cls d B1 H1 x1 R1 xr
noncomputable def mMakeL (i : Nat) (c : Str) (n : Nat) (N : MN K) (a b : ME K) (ha : a.k = true := by exact id rfl) (hb : b.k = true := by exact id rfl) : ME K where
  t := fun W => tMakeL K i c ((mMakeS c n N a b ha hb).t W)
  m := fun ρ => match ρ[i]? with
    | some (.val (.ref q)) => if q = He.ga K c then (mMakeS c n N a b ha hb).m ρ else none
    | _ => none
  p := false
  k := true
  ok := fun F W ρ σ B H Q out e R f => by
    split at e
    · rename_i q hq
      split at e
      · rename_i hc
        subst hc
        obtain ⟨v, hv, r⟩ := R.sl i _ hq
        obtain rfl : v = .ref (He.ga K c) := r
        exact ⟨getD_some hv, (mMakeS c n N a b ha hb).ok F W ρ σ B H Q out e R f⟩
      · cases e
    · cases e
section
open PyProof.Rows
variable {X : Cx} {W : WX} {k n i : Nat} {x c kw : Str} {N : MN X.K} {e e2 : Expr} {A B : ME X.K} {p pos sp_ kp : Pos}
theorem dMkS {h1 h2} (c1 : CalI X.prog X.w X.K X.mg X.base k c kw N n) (hr : Room (k + 1) X.A) (tk : Takes X W) (he : PE X e (A.t W)) (hk : PE X e2 (B.t W)) (hg : Gl X c := by rfl) (hdb : (c == ("__debug__" : Str)) = false := by decide)
    (hall : (backToKw pos (keywordEach [⟨some kw, e2, kp⟩] X.env)).all (·.1.isSome) = true := by rfl) (hks : (backToKw pos (keywordEach [⟨some kw, e2, kp⟩] X.env)).filterMap (·.1) = [kw] := by rfl) (hst : starEach [.Starred e sp_] X.env = [(true, eval e X.env)] := by rfl) :
    PE X (.Call (.Name c p) [.Starred e sp_] [⟨some kw, e2, kp⟩] pos) ((mMakeS c n N A B h1 h2).t W) :=
  ⟨fun pins s σ H Q I h => wpAny_Call_Name_kw (ld_glob I hg c1.mg_ (run_makeS c1 hr tk he hk I h hall hks hst) hdb)⟩
theorem dMkL {h1 h2} (c1 : CalI X.prog X.w X.K X.mg X.base k c kw N n) (hr : Room (k + 1) X.A) (tk : Takes X W) (he : PE X e (A.t W)) (hk : PE X e2 (B.t W)) (hN : X.N[i]? = some x := by rfl) (hv : Vis X.env.scope x := by first | exact Or.inl rfl | exact Or.inr (Or.inl rfl) | exact Or.inr (Or.inr rfl)) (hd : (x == ("__debug__" : Str)) = false := by decide)
    (hcd : (x == ("__classdict__" : Str)) = false := by decide)
    (hall : (backToKw pos (keywordEach [⟨some kw, e2, kp⟩] X.env)).all (·.1.isSome) = true := by rfl) (hks : (backToKw pos (keywordEach [⟨some kw, e2, kp⟩] X.env)).filterMap (·.1) = [kw] := by rfl) (hst : starEach [.Starred e sp_] X.env = [(true, eval e X.env)] := by rfl) :
    PE X (.Call (.Name x p) [.Starred e sp_] [⟨some kw, e2, kp⟩] pos) ((mMakeL i c n N A B h1 h2).t W) := by
  refine ⟨fun pins s σ H Q I h => ?_⟩
  have P : PE X (.Name x p) (tVar i) := pe_var hN hv hd hcd
  refine wpAny_Call_Name_kw (thn (P.run pins s σ H (fun v H1 => v = .ref (He.ga X.K c) ∧ (mMakeS c n N A B h1 h2).t W σ H1 Q) I ⟨_, h.1, rfl, h.2⟩) fun u s1 ⟨v, H1, I1, rv, ev, q⟩ => ?_)
  subst ev
  obtain rfl : u = Value.ref (He.ga X.K c) := rv
  exact run_makeS c1 hr tk he hk I1 q hall hks hst
end
section
variable {X : Cx} {W : WX} {st : Stmt} {sts : List Stmt} {a b : MN X.K} {S : MS X.K} {A : ME X.K} {o value : Expr} {f y : Str} {pos pos' p : Pos}
theorem nseq (h1 : PS X st (a.t W)) (h2 : PSs X sts (b.t W)) : PSs X (st :: sts) ((mnSeq a b).t W) := show PSs X (st :: sts) (tSeq (a.t W) (b.t W)) from pss_cons h1 h2
theorem none1 (h1 : PS X st (a.t W)) : PSs X [st] (a.t W) := pss_one h1
theorem nS (h : PS X st (S.t W)) : PS X st ((mnS S).t W) := h
theorem nF {h} (hv : PE X value (A.t W)) (hN : X.N[0]? = some y := by rfl) (hvis : Vis X.env.scope y := by first | exact Or.inl rfl | exact Or.inr (Or.inl rfl) | exact Or.inr (Or.inr rfl)) (hd : (y == ("__debug__" : Str)) = false := by decide)
    (hcd : (y == ("__classdict__" : Str)) = false := by decide) (hs : swapsWith value (some (.Attribute (.Name y p) f pos')) pos.line X.env = pure false := by rfl) :
    PS X (.Assign [.Attribute (.Name y p) f pos'] value pos) ((mnF f A h).t W) := ps_fld (pe_var hN hvis hd hcd) hv hs
end
theorem na_nil {P : Str → Prop} : ∀ f ∈ ([] : List Str), P f := fun f h => by cases h
theorem na_cons {P : Str → Prop} {a : Str} {l : List Str} (h1 : P a) (h2 : ∀ f ∈ l, P f) : ∀ f ∈ a :: l, P f := fun f h => by
  rcases List.mem_cons.mp h with rfl | h
  · exact h1
  · exact h2 f h
theorem RepF.look {B : Hp} {m : Str} {u : U} : ∀ {fs : List (Str × U)} {ws : List (Str × V)}, RepF K B fs ws → fs.lookup m = some u → ∃ v, ws.lookup m = some v ∧ Rep K B u v
  | [], _, h, e => by cases e
  | (k, x) :: us, _, h, e => by
    obtain ⟨v, r, rfl, h1, h2⟩ := h
    rw [List.lookup_cons] at e ⊢
    cases c : m == k with
    | true => rw [c] at e; cases e; exact ⟨v, rfl, h1⟩
    | false => rw [c] at e; exact RepF.look h2 e
def FldT (K : PySem.W.Frag) (f : Str) (cs : List Str) : Prop := ∀ c ∈ cs, Cls K (He.ga K c) ∧ NoAttr K (He.ga K c) f
def tFldT (K : PySem.W.Frag) (f : Str) (cs : List Str) (ta : TE) : TE := fun σ H Q => ta σ H fun x H1 => ∃ a c dx fs v, x = .ref a ∧ H1 a = some (.ins (He.ga K c) dx fs) ∧ c ∈ cs ∧ fs.lookup f = some v ∧ Q v H1
def mFld (f : Str) (cs : List Str) (a : ME K) : ME K where
  t := fun W => tFldT K f cs (a.t W)
  m := fun ρ => bindE (a.m ρ) fun u ρ1 => match u with
    | .ins c fs => if c ∈ cs then (fs.lookup f).map fun w => .ok w ρ1 else none
    | _ => none
  p := a.p
  k := a.k
  ok := fun F W ρ σ B H Q out e R f => by
    rcases bindE_some e with ⟨u, ρ1, e1, e⟩ | ⟨y, ρ1, e1, rfl⟩
    · refine a.ok F W ρ σ B H _ _ e1 R fun v1 B1 H1 x1 p1 R1 r1 => ?_
      cases u with
      | ins c fs =>
        dsimp only at e
        split at e
        · rename_i hc
          obtain ⟨w, hw, rfl⟩ := Option.map_eq_some_iff.mp e
          obtain ⟨ad, dx, ws, rfl, hb, hf⟩ := r1
          obtain ⟨v, hv, rv⟩ := RepF.look hf hw
          have hb' : H1 ad = some (.ins (He.ga K c) dx ws) := by
            cases ck : a.k with
            | true => rw [ck, if_pos rfl] at hb; exact R1.ex _ _ hb
            | false => rw [ck] at hb; exact hb
          exact ⟨ad, c, dx, ws, v, rfl, hb', hc, hv, f v B1 H1 x1 p1 R1 rv⟩
        · cases e
      | _ => cases e
    · exact a.ok F W ρ σ B H _ _ e1 R fun cls d B1 H1 x1 R1 xr => f cls d B1 H1 x1 R1 xr
theorem dfld {X : Cx} {W : WX} {f : Str} {cs : List Str} {A : ME X.K} {e : Expr} {pos : Pos} (he : PE X e (A.t W)) (hT : FldT X.K f cs) (hb : attributeBase e f X.env (eval e X.env) = eval e X.env := by rfl) : PE X (.Attribute e f pos) ((mFld f cs A).t W) := by
  refine ⟨fun pins s σ H Q I h => ?_⟩
  refine attr_of hb (thn (he.run pins s σ H _ I h) fun u s1 ⟨x, H1, I1, rx, a, c, dx, fs, v, ex, ea, hc, l, q⟩ => ?_)
  subst ex
  obtain rfl : u = Value.ref a := rx
  exact getattr_ok I1 ea (hT c hc).1 (hT c hc).2 l fun u' s2 I2 ru => ⟨v, H1, I2, ru, q⟩
structure CalP (P : Program) (w : World) (K : PySem.W.Frag) (mg : Str → Option Value) (base : Heap) (k : Nat) (c f : Str) (mf : List Slot → Option CO) : Prop where
  cls : Cls K (He.ga K c)
  ok : ∃ p g fd ps, PropOf K (He.ga K c) f p g ∧ FnOk P w K mg base CX0 k g fd ps (spM K 1 mf) ∧ Binds K fd ps []
theorem CalP.mono {P : Program} {w : World} {mg : Str → Option Value} {base : Heap} {j k : Nat} {c f : Str} {mf : List Slot → Option CO} (h : CalP P w K mg base j c f mf) (l : j ≤ k) : CalP P w K mg base k c f mf := by
  obtain ⟨a, p, g, fd, ps, b, d, e⟩ := h
  exact ⟨a, p, g, fd, ps, b, d.mono l, e⟩
def CalPT (P : Program) (w : World) (K : PySem.W.Frag) (mg : Str → Option Value) (base : Heap) (k : Nat) (f : Str) (tab : MTab) : Prop := ∀ c mf, tab.lookup c = some mf → CalP P w K mg base k c f mf
section
variable {P : Program} {w : World} {mg : Str → Option Value} {base : Heap} {k : Nat} {c f : Str} {mf : List Slot → Option CO} {tab : MTab}
theorem calP_nil : CalPT P w K mg base k f [] := fun c mf h => by cases h
theorem calP_cons (h1 : CalP P w K mg base k c f mf) (h2 : CalPT P w K mg base k f tab) : CalPT P w K mg base k f ((c, mf) :: tab) := fun c' mf' h => by
  rw [List.lookup_cons] at h
  cases z : c' == c with
  | true => rw [z] at h; cases h; rw [beq_iff_eq.mp z]; exact h1
  | false => rw [z] at h; exact h2 c' mf' h
end
def tPropT (K : PySem.W.Frag) (tab : MTab) (E : St → XK) (ta : TE) : TE := fun σ H Q => ta σ H fun x H1 => ∃ a c dx fs mf, x = .ref a ∧ H1 a = some (.ins (He.ga K c) dx fs) ∧ tab.lookup c = some mf ∧ spM K 1 mf [x] H1 Q (E σ)
def mProp (tab : MTab) (a : ME K) (ha : a.k = true := by exact id rfl) : ME K where
  t := fun W => tPropT K tab (WE W) (a.t W)
  m := fun ρ => bindE (a.m ρ) fun u ρ1 => match u with
    | .ins c fs => match tab.lookup c with
      | some mf => callM mf (some (.ok [.inl (.ins c fs)] ρ1))
      | none => none
    | _ => none
  p := false
  k := true
  ok := fun F W ρ σ B H Q out e R f => by
    rcases bindE_some e with ⟨u, ρ1, e1, e⟩ | ⟨x, ρ1, e1, rfl⟩
    · refine a.ok F W ρ σ B H _ _ e1 R fun v1 B1 H1 x1 p1 R1 r1 => ?_
      rw [ha, if_pos rfl] at r1
      cases u with
      | ins c fs =>
        dsimp only at e
        split at e
        · rename_i mf h2
          obtain ⟨ad, dx, ws, rfl, hb, hf⟩ := r1
          exact ⟨ad, c, dx, ws, mf, rfl, R1.ex _ _ hb, h2, call_fin (H := H) (ρ := ρ) (is := [.inl (.ins c fs)]) x1 R1 ⟨_, [], rfl, ⟨ad, dx, ws, rfl, hb, hf⟩, rfl⟩ rfl e f⟩
        · cases e
      | _ => cases e
    · exact a.ok F W ρ σ B H _ _ e1 R fun cls d B1 H1 x1 R1 xr => f cls d B1 H1 x1 R1 xr
theorem dprop {X : Cx} {W : WX} {f : Str} {k : Nat} {tab : MTab} {A : ME X.K} {e : Expr} {pos : Pos} {h} (he : PE X e (A.t W)) (c : CalPT X.prog X.w X.K X.mg X.base k f tab) (hr : Room (k + 1) X.A) (hab : attributeBase e f X.env (eval e X.env) = eval e X.env := by rfl) :
    PE X (.Attribute e f pos) ((mProp tab A h).t W) := by
  refine ⟨fun pins s σ H Q I h => ?_⟩
  refine attr_of hab (thn (he.run pins s σ H _ I h) fun u s1 ⟨x, H1, I1, rx, a, c', dx, fs, mf, ex, ea, hl, q⟩ => ?_)
  subst ex
  obtain rfl : u = Value.ref a := rx
  obtain ⟨hc, p, g, fd, ps, hp, F, hb⟩ := c _ _ hl
  exact getprop_ok I1 ea hc hp F hr hb (dvs := []) (ds := []) .nil (E := WE W σ) (fun _ _ _ _ _ _ _ z => z.elim) q
theorem dCls {X : Cx} {W : WX} {c : Str} {pos : Pos} {h} (q : X.mg c = some (.ref (He.ga X.K c))) (hg : Gl X c := by rfl) (hd : (c == ("__debug__" : Str)) = false := by decide) : PE X (.Name c pos) ((mC (K := X.K) (.ref (He.ga X.K c)) (.ref (He.ga X.K c)) h).t W) := pe_glob hg q rfl hd
end Sg
set_option Elab.async false
set_option linter.all false
set_option maxRecDepth 100000
set_option maxHeartbeats 4000000
namespace Sg
open PySem L2
variable {K : PySem.W.Frag}
def loopW (c : Env → Option TOu) (s : Env → Option SO) : Nat → Env → Option SO
  | 0, _ => none
  | n + 1, ρ => match c ρ with
    | none => none
    | some (.ex e ρ1) => some (.ex e ρ1)
    | some (.ok false ρ1) => some (.nx ρ1)
    | some (.ok true ρ1) => match s ρ1 with
      | some (.nx ρ2) => loopW c s n ρ2
      | some (.ct ρ2) => loopW c s n ρ2
      | some (.bk ρ2) => some (.nx ρ2)
      | o => o
def msWhile (n : Nat) (c : MT K) (S : MS K) : MS K where
  t := fun W => tWhile (c.t W) (S.t W)
  m := loopW c.m S.m n
  ok := fun F W ρ σ B H D o e R f => by
    refine ⟨fun m σ' H' => ∃ ρ' B', Ex B B' ∧ Rel K F ρ' σ' B' H' ∧ loopW c.m S.m m ρ' = some o, ⟨n, ρ, B, Ex.refl, R, e⟩, fun m σ1 H1 ⟨ρ1, B1, x1, R1, e1⟩ => ?_⟩
    cases m with
    | zero => cases e1
    | succ m =>
      have f1 := f.mono x1
      unfold loopW at e1
      split at e1
      · cases e1
      · rename_i y ρ2 ec
        cases e1
        exact c.ok F W ρ1 σ1 B1 H1 _ _ ec R1 fun cls d B2 H2 x2 R2 xr => f1 cls d σ1 B2 H2 x2 R2 xr
      · rename_i ρ2 ec
        cases e1
        refine c.ok F W ρ1 σ1 B1 H1 _ _ ec R1 fun B2 H2 x2 p2 R2 => ?_
        rw [if_neg (by decide)]
        exact f1 σ1 B2 H2 x2 R2
      · rename_i ρ2 ec
        refine c.ok F W ρ1 σ1 B1 H1 _ _ ec R1 fun B2 H2 x2 p2 R2 => ?_
        rw [if_pos rfl]
        refine ⟨fun σ' H' => ∃ ρ' B', Ex B B' ∧ Rel K F ρ' σ' B' H' ∧ loopW c.m S.m m ρ' = some o, fun σ' H' h => ⟨m, Nat.lt_succ_self m, h⟩, ?_⟩
        split at e1
        · rename_i ρ3 es
          exact S.ok F W ρ2 σ1 B2 H2 _ _ es R2 fun σ3 B3 H3 x3 R3 => ⟨ρ3, B3, (x1.trans x2).trans x3, R3, e1⟩
        · rename_i ρ3 es
          exact S.ok F W ρ2 σ1 B2 H2 _ _ es R2 fun σ3 B3 H3 x3 R3 => ⟨ρ3, B3, (x1.trans x2).trans x3, R3, e1⟩
        · rename_i ρ3 es
          cases e1
          exact S.ok F W ρ2 σ1 B2 H2 _ _ es R2 fun σ3 B3 H3 x3 R3 => f1 σ3 B3 H3 (x2.trans x3) R3
        · rename_i h1 h2 h3
          have f2 := f1.mono x2
          refine S.ok F W ρ2 σ1 B2 H2 _ _ e1 R2 ?_
          cases o with
          | nx ρ3 => exact absurd e1 (h1 _)
          | ct ρ3 => exact absurd e1 (h2 _)
          | bk ρ3 => exact absurd e1 (h3 _)
          | rt r ρ3 => cases r <;> exact f2
          | ex y ρ3 => exact f2
theorem swhile {X : Cx} {W : WX} {c : Expr} {body : List Stmt} {n : Nat} {T : MT X.K} {S : MS X.K} {pos : Pos} (hp : PassesOwn (model X.prog X.w) X.A X.env X.xe) (hc : PT X c (T.t W)) (hb : PSs X body (S.t W)) : PS X (.While c body [] pos) ((msWhile n T S).t W) := ps_while hp hc hb
def pm {α : Type} (ix : List Nat) (xs : List α) : List α := ix.filterMap fun i => xs[i]?
theorem ItemsOk.get {B : Hp} {σ : St} : ∀ {is : List (U ⊕ Nat)} {vs : List V}, ItemsOk K B σ is vs → ∀ i : Nat, (is[i]? = none ∧ vs[i]? = none) ∨ ∃ a v, is[i]? = some a ∧ vs[i]? = some v ∧ ItemsOk K B σ [a] [v]
  | [], _, h, i => by cases h; exact .inl ⟨by simp, by simp⟩
  | .inl u :: r, _, h, i => by
    obtain ⟨v, vr, rfl, h1, h2⟩ := h
    cases i with
    | zero => exact .inr ⟨.inl u, v, rfl, rfl, v, [], rfl, h1, rfl⟩
    | succ i => simpa using ItemsOk.get h2 i
  | .inr j :: r, _, h, i => by
    obtain ⟨v, vr, rfl, h1, h2⟩ := h
    cases i with
    | zero => exact .inr ⟨.inr j, v, rfl, rfl, v, [], rfl, h1, rfl⟩
    | succ i => simpa using ItemsOk.get h2 i
theorem ItemsOk.cons {B : Hp} {σ : St} {a : U ⊕ Nat} {v : V} {is : List (U ⊕ Nat)} {vs : List V} (h1 : ItemsOk K B σ [a] [v]) (h2 : ItemsOk K B σ is vs) : ItemsOk K B σ (a :: is) (v :: vs) := by
  cases a with
  | inl u =>
    obtain ⟨v', vr, e, h1, _⟩ := h1
    cases e
    exact ⟨v, vs, rfl, h1, h2⟩
  | inr j =>
    obtain ⟨v', vr, e, h1, _⟩ := h1
    cases e
    exact ⟨v, vs, rfl, h1, h2⟩
theorem ItemsOk.pm {B : Hp} {σ : St} {is : List (U ⊕ Nat)} {vs : List V} (h : ItemsOk K B σ is vs) : ∀ ix : List Nat, ItemsOk K B σ (Sg.pm ix is) (Sg.pm ix vs)
  | [] => rfl
  | i :: ix => by
    unfold Sg.pm
    rcases h.get i with ⟨h1, h2⟩ | ⟨a, v, h1, h2, h3⟩
    · rw [List.filterMap_cons_none h1, List.filterMap_cons_none h2]
      exact ItemsOk.pm h ix
    · rw [List.filterMap_cons_some h1, List.filterMap_cons_some h2]
      exact ItemsOk.cons h3 (ItemsOk.pm h ix)
theorem vals_at {vs : List V} {us : List Value} (r : Vals vs us) (i : Nat) : (vs[i]? = none ∧ us[i]? = none) ∨ ∃ v u, vs[i]? = some v ∧ us[i]? = some u ∧ RelV v u := by
  induction r generalizing i with
  | nil => exact .inl ⟨by simp, by simp⟩
  | cons r1 r2 ih =>
    cases i with
    | zero => exact .inr ⟨_, _, rfl, rfl, r1⟩
    | succ i => simpa using ih i
theorem vals_pm {vs : List V} {us : List Value} (r : Vals vs us) : ∀ ix : List Nat, Vals (pm ix vs) (pm ix us)
  | [] => .nil
  | i :: ix => by
    unfold pm
    rcases vals_at r i with ⟨h1, h2⟩ | ⟨v, u, h1, h2, h3⟩
    · rw [List.filterMap_cons_none h1, List.filterMap_cons_none h2]
      exact vals_pm r ix
    · rw [List.filterMap_cons_some h1, List.filterMap_cons_some h2]
      exact .cons h3 (vals_pm r ix)
structure CalK (P : Program) (w : World) (K : PySem.W.Frag) (mg : Str → Option Value) (base : Heap) (CX : CXT) (k : Nat) (x : Str) (n : Nat) (mf : List Slot → Option CO) (ks : List Str) (ix : List Nat) : Prop where
  mg_ : mg x = some (.ref (He.ga K x))
  kp : PySem.W.keepIn K (.ref (He.ga K x)) = true
  ok : ∃ fd ps, FnOk P w K mg base CX k (He.ga K x) fd ps (spM K n mf) ∧ ∀ (s : Shared) (ws : List Value), ws.length = ks.length → BindsTo s fd ⟨[], ks.zip ws⟩ (ps.zip (pm ix ws))
def tCallP (sp : Sp) (ix : List Nat) (E : St → XK) (t : TA) : TE := fun σ H Q => t σ H fun vs H1 => vs.length = ix.length ∧ sp (pm ix vs) H1 Q (E σ)
theorem ItemsOk.len {B : Hp} {σ : St} : ∀ {is : List (U ⊕ Nat)} {vs : List V}, ItemsOk K B σ is vs → vs.length = is.length
  | [], _, h => by cases h; rfl
  | .inl u :: r, _, h => by
    obtain ⟨v, vr, rfl, h1, h2⟩ := h
    simp [ItemsOk.len h2]
  | .inr j :: r, _, h => by
    obtain ⟨v, vr, rfl, h1, h2⟩ := h
    simp [ItemsOk.len h2]
def mCallK (n : Nat) (ix : List Nat) (mf : List Slot → Option CO) (b : MC K) (hk : b.k = true := by exact id rfl) : ME K where
  t := fun W => tCallP (spM K n mf) ix (WE W) (b.t W)
  m := fun ρ => (b.m ρ).bind fun o => match o with
    | .ok is ρ2 => if is.length = ix.length ∧ (pm ix is).length = n then callM mf (some (.ok (pm ix is) ρ2)) else none
    | .ex e ρ2 => some (.ex e ρ2)
  p := false
  k := true
  ok := fun F W ρ σ B H Q out e R f => by
    obtain ⟨o, e2, e⟩ := Option.bind_eq_some_iff.mp e
    cases o with
    | ex x ρ2 => cases e; exact b.ok F W ρ σ B H _ _ e2 R fun cls d B2 H2 x2 R2 xr => f cls d B2 H2 x2 R2 xr
    | ok is ρ2 =>
      refine b.ok F W ρ σ B H _ _ e2 R fun vs B2 H2 x2 p2 R2 r2 => ?_
      rw [hk, if_pos rfl] at r2
      dsimp only at e
      split at e
      · rename_i hn
        exact ⟨r2.len.trans hn.1, call_fin (H := H) (ρ := ρ) (is := pm ix is) x2 R2 (r2.pm ix) hn.2 e f⟩
      · cases e
section
open PyProof.Rows
variable {X : Cx} {W : WX} {k n : Nat} {x : Str} {mf : List Slot → Option CO} {ks : List Str} {ix : List Nat} {L : MC X.K} {A : ME X.K} {e : Expr} {kws : List Keyword} {p pos kpos : Pos} {nm : Option Str} {CX : CXT}
theorem knil : PK X [] ((mcNil (K := X.K)).t W) := pk_nil
theorem kval {h} (ha : PE X e (A.t W)) (hr : PK X kws (L.t W)) : PK X (⟨nm, e, kpos⟩ :: kws) ((mcVal A L h).t W) := pk_cons ha hr
theorem pcalK {E : L2.St → XK} {t : TA} (c : CalK X.prog X.w X.K X.mg X.base CX k x n mf ks ix) (hl : ix.length = ks.length) (hr : Room k X.A) (hx : ∀ σ, PassesAt CX X σ (E σ)) (ha : PK X kws t) (hg : Gl X x) (hdb : (x == ("__debug__" : Str)) = false)
    (hall : (backToKw pos (keywordEach kws X.env)).all (·.1.isSome) = true) (hks : (backToKw pos (keywordEach kws X.env)).filterMap (·.1) = ks)
    (hpl : ((backTo pos (starEach [] X.env)).any (·.1) || (backToKw pos (keywordEach kws X.env)).any (·.1.isNone)) = false) :
    PE X (.Call (.Name x p) [] kws pos) (tCallP (spM X.K n mf) ix E t) := by
  obtain ⟨fd, ps, F, hb⟩ := c.ok
  refine ⟨fun pins s σ H Q I h => ?_⟩
  refine wpAny_Call_Name_kw (ld_glob I hg c.mg_ ?_ hdb)
  refine PySem.W.callWith_KW0 (h₀ := X.base) I.ok.mod.kin c.kp hall ?_ hpl
  refine thn (ha.run pos pins s σ H _ I h) fun ws s2 ⟨zs, H2, I2, rz, l1, q2⟩ => ⟨I2.kIn, ?_⟩
  rw [hks]
  refine wpAny_call (codeAny_mono (F.run X.A X.stack s2 H2 ⟨[], ks.zip ws⟩ (pm ix ws) (pm ix zs) Q (E σ) hr I2.env0 (hb s2 ws (rz.length.symm.trans (l1.trans hl))) (vals_pm rz ix) q2) fun r s' hq => ?_)
  cases r with
  | error e => exact hx σ pins H2 s2 e s' I2 hq
  | ok fl =>
    cases fl with
    | ret u => exact I2.after hq
    | next => exact False.elim hq
    | brk => exact False.elim hq
    | cont => exact False.elim hq
theorem dcallK0 {h} (c : CalK X.prog X.w X.K X.mg X.base CX0 k x n mf ks ix) (hr : Room k X.A) (ha : PK X kws (L.t W)) (hl : ix.length = ks.length := by rfl) (hg : Gl X x := by rfl) (hdb : (x == ("__debug__" : Str)) = false := by decide)
    (hall : (backToKw pos (keywordEach kws X.env)).all (·.1.isSome) = true := by rfl) (hks : (backToKw pos (keywordEach kws X.env)).filterMap (·.1) = ks := by rfl)
    (hpl : ((backTo pos (starEach [] X.env)).any (·.1) || (backToKw pos (keywordEach kws X.env)).any (·.1.isNone)) = false := by rfl) :
    PE X (.Call (.Name x p) [] kws pos) ((mCallK n ix mf L h).t W) := pcalK c hl hr (fun _ _ _ _ _ _ _ h => h.elim) ha hg hdb hall hks hpl
theorem dcallKX {h} (c : CalK X.prog X.w X.K X.mg X.base (L2.CX X.prog X.w) k x n mf ks ix) (hr : Room k X.A) (tk : Takes X W) (ha : PK X kws (L.t W)) (hl : ix.length = ks.length := by rfl) (hg : Gl X x := by rfl) (hdb : (x == ("__debug__" : Str)) = false := by decide)
    (hall : (backToKw pos (keywordEach kws X.env)).all (·.1.isSome) = true := by rfl) (hks : (backToKw pos (keywordEach kws X.env)).filterMap (·.1) = ks := by rfl)
    (hpl : ((backTo pos (starEach [] X.env)).any (·.1) || (backToKw pos (keywordEach kws X.env)).any (·.1.isNone)) = false := by rfl) :
    PE X (.Call (.Name x p) [] kws pos) ((mCallK n ix mf L h).t W) := pcalK c hl hr (fun σ => passAt tk σ) ha hg hdb hall hks hpl
end
end Sg
set_option Elab.async false
set_option linter.all false
set_option maxRecDepth 100000
set_option maxHeartbeats 4000000
namespace Sg
open PySem L2
open He (ga ma ba eqO eqO_ok)
variable {K : PySem.W.Frag}
def mkB (K : PySem.W.Frag) (c b : Str) : Bool := PySem.W.makesIn K (ga K c) && (eqO (PySem.W.findIn K (.ref (ga K c)) "__init__") (some (some (.ref (ma K (ga K b) "__init__")))) && (PySem.W.isFn K (.ref (ma K (ga K b) "__init__")) && PySem.W.keepIn K (.ref (ga K c))))
theorem mk_ok {c b : Str} (h : mkB K c b = true) : Mk K (ga K c) (ma K (ga K b) "__init__") := by
  obtain ⟨h1, h⟩ := ba h
  obtain ⟨h2, h⟩ := ba h
  obtain ⟨h3, h4⟩ := ba h
  exact ⟨h1, eqO_ok h2, h3, h4⟩
def noatB (K : PySem.W.Frag) (c f : Str) : Bool := eqO (PySem.W.findIn K (.ref (ga K c)) f) (some none)
theorem noat_ok {c f : Str} (h : noatB K c f = true) : NoAttr K (ga K c) f := eqO_ok h
def propB (K : PySem.W.Frag) (c f b : Str) : Bool := eqO (PySem.W.findIn K (.ref (ga K c)) f) (some (some (.ref (ma K (ga K b) f)))) && (eqO (PySem.W.specialIn K (.ref (ma K (ga K b) f)) "__get__") (some (some (.builtin "property.__get__"))) &&
  (decide (PySem.W.takesIn K (.ref (ma K (ga K b) f)) = some true) && (match PySem.W.recIn K (ma K (ga K b) f) "property" with
    | some (.ref _ :: _) => true
    | _ => false)))
theorem prop_ok {c f b : Str} (h : propB K c f b = true) : PropOf K (ga K c) f (ma K (ga K b) f) (pmg K (ma K (ga K b) f)) := by
  obtain ⟨h1, h⟩ := ba h
  obtain ⟨h2, h⟩ := ba h
  obtain ⟨h3, h4⟩ := ba h
  refine ⟨eqO_ok h1, eqO_ok h2, of_decide_eq_true h3, ?_⟩
  unfold pmg
  split at h4
  · rename_i g r e
    rw [e]
    exact ⟨r, rfl⟩
  · cases h4
def conIB (K : PySem.W.Frag) (c f : Str) (i : Int) : Bool := match PySem.W.findCls K (.ref (ga K c)) (.type "type") f with
  | some (.val (.int j _)) => decide (j = i)
  | _ => false
theorem conI_ok {c f : Str} {i : Int} (r : creadB K c = true) (h : conIB K c f i = true) : ConC K c f (.int i) := by
  unfold conIB at h
  split at h
  · rename_i j t e
    rw [of_decide_eq_true h] at e
    exact ⟨.type "type", .int i, .int i t, cread_ok r, ⟨e, ⟨t, rfl⟩⟩, fun B => rfl⟩
  · cases h
theorem calP_of {P : Program} {w : World} {mg : Str → Option Value} {base : Heap} {k : Nat} {c f : Str} {mf : List Slot → Option CO} {p g : Addr} (h1 : Cls K (ga K c)) (h2 : PropOf K (ga K c) f p g)
    (h3 : ∃ fd ps, FnOk P w K mg base CX0 k g fd ps (spM K 1 mf) ∧ Binds K fd ps []) : CalP P w K mg base k c f mf := by
  obtain ⟨fd, ps, a, b⟩ := h3
  exact ⟨h1, p, g, fd, ps, h2, a, b⟩
def CPowX (i j : Int) : Prop := 0 ≤ j ∧ j ≤ 1000 ∧ i.natAbs < 2 ^ 400
theorem op_powX {X : Cx} : OpR X (binaryOp .Pow) (rI CPowX fun i j => .int (i ^ j.toNat)) := opI fun i j _ _ _ _ _ hc q => PyProof.Rows.pow_int hc.1 (by
  have hb := PyProof.Rows.intBits_le hc.2.2
  have h1 : (Builtin.Int.intBits i : Int) * j ≤ 400 * j := Int.mul_le_mul_of_nonneg_right (by omega) hc.1
  have := hc.2.1
  omega) q
def oPowX : Op2 K where
  r := rI CPowX fun i j => .int (i ^ j.toNat)
  f := fI fun i j => if 0 ≤ j ∧ j ≤ 1000 ∧ i.natAbs < 2 ^ 400 then some (.int (i ^ j.toNat)) else none
  ok := fun H x y u v w ru rv e => by
    obtain ⟨i, j, rfl, rfl, e2⟩ := fI_some e
    split at e2
    · rename_i h
      cases e2; cases ru; cases rv
      exact ⟨_, rfl, fun Q q => ⟨_, _, rfl, rfl, h, q⟩⟩
    · cases e2
theorem rPowX {X : Cx} : OpR X (binaryOp .Pow) (oPowX (K := X.K)).r := op_powX
end Sg
set_option Elab.async false
set_option linter.all false
set_option maxRecDepth 100000
set_option maxHeartbeats 4000000
namespace Sg
open PySem L2
variable {K : PySem.W.Frag}
theorem oPowX_i (i j : Int) (h1 : -2582249878086908589655919172003011874329705792829223512830659356540647622016841194629645353280137831435903171972747493376 < i) (h2 : i < 2582249878086908589655919172003011874329705792829223512830659356540647622016841194629645353280137831435903171972747493376) (h3 : 0 ≤ j) (h4 : j ≤ 1000) :
    (oPowX (K := K)).f (.int i) (.int j) = some (.int (i ^ j.toNat)) := if_pos ⟨h3, h4, by omega⟩
theorem mMakeS_m (c : Str) (n : Nat) (N : MN K) (a b : ME K) (ha hb) (ρ : Env) : (@mMakeS K c n N a b ha hb).m ρ = (bindE (a.m ρ) fun u ρ1 => bindE (b.m ρ1) fun r ρ2 => match seqU u with
    | some us => match allX fun x => initM N n x r us with
      | some (.ok fs) => some (.ok (.ins c fs) ρ2)
      | some (.ex e) => some (.ex e ρ2)
      | none => none
    | none => none) := rfl
theorem mMakeL_m (i : Nat) (c : Str) (n : Nat) (N : MN K) (a b : ME K) (ha hb) (ρ : Env) : (@mMakeL K i c n N a b ha hb).m ρ = (match ρ[i]? with
    | some (.val (.ref q)) => if q = He.ga K c then (mMakeS c n N a b ha hb).m ρ else none
    | _ => none) := rfl
theorem mFld_m (f : Str) (cs : List Str) (a : ME K) (ρ : Env) : (mFld f cs a).m ρ = (bindE (a.m ρ) fun u ρ1 => match u with
    | .ins c fs => if c ∈ cs then (fs.lookup f).map fun w => .ok w ρ1 else none
    | _ => none) := rfl
theorem mProp_m (tab : MTab) (a : ME K) (ha) (ρ : Env) : (@mProp K tab a ha).m ρ = (bindE (a.m ρ) fun u ρ1 => match u with
    | .ins c fs => match tab.lookup c with
      | some mf => callM mf (some (.ok [.inl (.ins c fs)] ρ1))
      | none => none
    | _ => none) := rfl
theorem mnSeq_m (a b : MN K) (x : Addr) (ρ : Env) (fs : List (Str × U)) : (mnSeq a b).m x ρ fs = (match a.m x ρ fs with
    | some (.nx fs' ρ') => b.m x ρ' fs'
    | o => o) := rfl
theorem mnS_m (S : MS K) (x : Addr) (ρ : Env) (fs : List (Str × U)) : (mnS S).m x ρ fs = (match S.m ρ with
    | some (.nx ρ') => some (.nx fs ρ')
    | some (.ex e ρ') => some (.ex e ρ')
    | _ => none) := rfl
theorem mnF_m (f : Str) (e : ME K) (he) (x : Addr) (ρ : Env) (fs : List (Str × U)) : (@mnF K f e he).m x ρ fs = (match e.m ρ with
    | none => none
    | some (.ex y ρ') => some (.ex y ρ')
    | some (.ok u ρ') => if at0 x ρ' = true ∧ fs.length < 1000 then some (.nx (putU f u fs) ρ') else none) := rfl
theorem at0_e (x : Addr) (ρ : Env) : at0 x (.val (.ref x) :: ρ) = true := by simp [at0]
theorem initM_e (N : MN K) (n : Nat) (x : Addr) (r : U) (us : List U) : initM N n x r us = (match N.m x ([.val (.ref x), .val r, .val (.tup us)] ++ List.replicate (n - 3) .non) [] with
  | some (.nx fs _) => some (.ok fs)
  | some (.ex e _) => some (.ex e)
  | none => none) := rfl
theorem seqU_l (us : List U) : seqU (.lst us) = some us := rfl
theorem seqU_f (us : List U) : seqU (.frl us) = some us := rfl
theorem seqU_t (us : List U) : seqU (.tup us) = some us := rfl
theorem msWhile_m (n : Nat) (c : MT K) (S : MS K) (ρ : Env) : (msWhile n c S).m ρ = loopW c.m S.m n ρ := rfl
theorem mCallK_m (n : Nat) (ix : List Nat) (mf : List Slot → Option CO) (b : MC K) (hk) (ρ : Env) : (@mCallK K n ix mf b hk).m ρ = ((b.m ρ).bind fun o => match o with
    | .ok is ρ2 => if is.length = ix.length ∧ (pm ix is).length = n then callM mf (some (.ok (pm ix is) ρ2)) else none
    | .ex e ρ2 => some (.ex e ρ2)) := rfl
theorem pm_nil {α : Type} (xs : List α) : pm [] xs = [] := rfl
theorem pm_cons {α : Type} (i : Nat) (ix : List Nat) (xs : List α) : pm (i :: ix) xs = (match xs[i]? with
    | some a => a :: pm ix xs
    | none => pm ix xs) := by
  unfold pm
  cases h : xs[i]? with
  | none => rw [List.filterMap_cons_none h]
  | some a => rw [List.filterMap_cons_some h]
theorem loopW_s (c : Env → Option TOu) (s : Env → Option SO) (n : Nat) (ρ : Env) : loopW c s (n + 1) ρ = (match c ρ with
    | none => none
    | some (.ex e ρ1) => some (.ex e ρ1)
    | some (.ok false ρ1) => some (.nx ρ1)
    | some (.ok true ρ1) => match s ρ1 with
      | some (.nx ρ2) => loopW c s n ρ2
      | some (.ct ρ2) => loopW c s n ρ2
      | some (.bk ρ2) => some (.nx ρ2)
      | o => o) := rfl
theorem put_0 (f : Str) (u : U) : putU f u [] = [(f, u)] := rfl
end Sg
set_option Elab.async false
set_option linter.all false
set_option maxRecDepth 100000
set_option maxHeartbeats 4000000
namespace Sg
open PySem L2
end Sg
set_option Elab.async false
set_option linter.all false
set_option maxRecDepth 100000
set_option maxHeartbeats 4000000
namespace Sg
open PySem L2
variable {K : PySem.W.Frag}
def Rx (B B' : Hp) : Prop := ∀ a o, B a = some o → B' a = some o ∨ ∃ ws, Rd B a (.dK ws) ∧ Rd B' a (.dK ws)
theorem rdFn {B : Hp} {a : Addr} {o : HO} {ws : List (Key × V)} (h : Rd B a (.dK ws)) (e : B a = some o) : o = .dK ws ∨ ∃ q, o = .frz q (.dK ws) := by
  rcases h with h | ⟨q, h⟩
  · rw [e] at h; cases h; exact .inl rfl
  · rw [e] at h; cases h; exact .inr ⟨q, rfl⟩
theorem Rx.rdL {B B' : Hp} (e : Rx B B') {a : Addr} {xs : List V} (h : Rd B a (.lst xs)) : Rd B' a (.lst xs) := by
  rcases h with h | ⟨q, h⟩
  · rcases e a _ h with z | ⟨ws, z, _⟩
    · exact .inl z
    · rcases rdFn z h with y | ⟨_, y⟩ <;> cases y
  · rcases e a _ h with z | ⟨ws, z, _⟩
    · exact .inr ⟨q, z⟩
    · rcases rdFn z h with y | ⟨_, y⟩ <;> cases y
theorem Rx.rdT {B B' : Hp} (e : Rx B B') {a : Addr} {xs : List V} (h : Rd B a (.tup xs)) : Rd B' a (.tup xs) := by
  rcases h with h | ⟨q, h⟩
  · rcases e a _ h with z | ⟨ws, z, _⟩
    · exact .inl z
    · rcases rdFn z h with y | ⟨_, y⟩ <;> cases y
  · rcases e a _ h with z | ⟨ws, z, _⟩
    · exact .inr ⟨q, z⟩
    · rcases rdFn z h with y | ⟨_, y⟩ <;> cases y
theorem Rx.rdD {B B' : Hp} (e : Rx B B') {a : Addr} {ws : List (Key × V)} (h : Rd B a (.dK ws)) : Rd B' a (.dK ws) := by
  rcases h with h | ⟨q, h⟩
  · rcases e a _ h with z | ⟨vs, z, y⟩
    · exact .inl z
    · rcases rdFn z h with x | ⟨_, x⟩
      · cases x; exact y
      · cases x
  · rcases e a _ h with z | ⟨vs, z, y⟩
    · exact .inr ⟨q, z⟩
    · rcases rdFn z h with x | ⟨_, x⟩
      · cases x
      · cases x; exact y
theorem Rx.rdN {B B' : Hp} (e : Rx B B') {a b : Addr} {es : Array DictEntry} {ep : Nat} (h : Rd B a (NdO b es ep)) : Rd B' a (NdO b es ep) := by
  rcases h with h | ⟨q, h⟩
  · rcases e a _ h with z | ⟨ws, z, _⟩
    · exact .inl z
    · rcases rdFn z h with y | ⟨_, y⟩ <;> cases y
  · rcases e a _ h with z | ⟨ws, z, _⟩
    · exact .inr ⟨q, z⟩
    · rcases rdFn z h with y | ⟨_, y⟩ <;> cases y
theorem Rx.nd {K : PySem.W.Frag} {B B' : Hp} (e : Rx B B') {a : Addr} {ws : List (KT × V)} (h : ND K B a ws) : ND K B' a ws := by
  obtain ⟨z, y, xs, es, ep, e0, e1, nt, r⟩ := h
  exact ⟨z, y, xs, es, ep, e.rdN e0, e1, nt.up fun _ _ q => q.imp e.rdT id, r⟩
mutual
theorem Rep.rx {B B' : Hp} (e : Rx B B') : ∀ (u : U) (v : V), Rep K B u v → Rep K B' u v
  | .non, _, h => h
  | .bl _, _, h => h
  | .int _, _, h => h
  | .str _, _, h => h
  | .ref _, _, h => h
  | .lst us, _, h => by
    obtain ⟨a, vs, h1, h2, h3⟩ := h
    rcases e a _ h2 with z | ⟨ws, z, _⟩
    · exact ⟨a, vs, h1, z, RepL.rx e us vs h3⟩
    · rcases rdFn z h2 with y | ⟨_, y⟩ <;> cases y
  | .frl us, _, h => by
    obtain ⟨a, vs, h1, h2, h3⟩ := h
    exact ⟨a, vs, h1, h2.imp e.rdL id, RepL.rx e us vs h3⟩
  | .tup us, _, h => by
    obtain ⟨a, vs, h1, h2, h3⟩ := h
    exact ⟨a, vs, h1, h2.imp e.rdT id, RepL.rx e us vs h3⟩
  | .dic kvs, _, h => by
    obtain ⟨a, vs, h1, h2, h3⟩ := h
    exact ⟨a, vs, h1, e.rdD h2, RepD.rx e kvs vs h3⟩
  | .ndc kvs, _, h => by
    obtain ⟨a, vs, h1, h2, h3⟩ := h
    exact ⟨a, vs, h1, e.nd h2, RepN.rx e kvs vs h3⟩
  | .ins c fs, _, h => by
    obtain ⟨a, dx, vs, h1, h2, h3⟩ := h
    rcases e a _ h2 with z | ⟨ws, z, _⟩
    · exact ⟨a, dx, vs, h1, z, RepF.rx e fs vs h3⟩
    · rcases rdFn z h2 with y | ⟨_, y⟩ <;> cases y
  | .exc c, _, h => by
    obtain ⟨a, h1, h2⟩ := h
    rcases e a _ h2 with z | ⟨ws, z, _⟩
    · exact ⟨a, h1, z⟩
    · rcases rdFn z h2 with y | ⟨_, y⟩ <;> cases y
  | .exf c f z0, _, h => by
    obtain ⟨a, d, z1, h1, h2, h4, h3⟩ := h
    rcases e a _ h2 with z | ⟨ws, z, _⟩
    · rcases e d _ h3 with z2 | ⟨ws, z2, _⟩
      · exact ⟨a, d, z1, h1, z, h4, z2⟩
      · rcases rdFn z2 h3 with y | ⟨_, y⟩ <;> cases y
    · rcases rdFn z h2 with y | ⟨_, y⟩ <;> cases y
theorem RepL.rx {B B' : Hp} (e : Rx B B') : ∀ (us : List U) (vs : List V), RepL K B us vs → RepL K B' us vs
  | [], _, h => h
  | u :: us, _, h => by
    obtain ⟨v, r, h1, h2, h3⟩ := h
    exact ⟨v, r, h1, Rep.rx e u v h2, RepL.rx e us r h3⟩
theorem RepN.rx {B B' : Hp} (e : Rx B B') : ∀ (us : List (KT × U)) (vs : List (KT × V)), RepN K B us vs → RepN K B' us vs
  | [], _, h => h
  | (k, u) :: us, _, h => by
    obtain ⟨v, r, h1, h2, h3⟩ := h
    exact ⟨v, r, h1, Rep.rx e u v h2, RepN.rx e us r h3⟩
theorem RepD.rx {B B' : Hp} (e : Rx B B') : ∀ (us : List (Key × U)) (vs : List (Key × V)), RepD K B us vs → RepD K B' us vs
  | [], _, h => h
  | (k, u) :: us, _, h => by
    obtain ⟨v, r, h1, h2, h3⟩ := h
    exact ⟨v, r, h1, Rep.rx e u v h2, RepD.rx e us r h3⟩
theorem RepF.rx {B B' : Hp} (e : Rx B B') : ∀ (us : List (Str × U)) (vs : List (Str × V)), RepF K B us vs → RepF K B' us vs
  | [], _, h => h
  | (k, u) :: us, _, h => by
    obtain ⟨v, r, h1, h2, h3⟩ := h
    exact ⟨v, r, h1, Rep.rx e u v h2, RepF.rx e us r h3⟩
end
end Sg
set_option Elab.async false
set_option linter.all false
set_option maxRecDepth 100000
set_option maxHeartbeats 4000000
namespace Sg
open PySem L2
variable {K : PySem.W.Frag}
theorem RepD.get {B : Hp} : ∀ {kvs : List (Key × U)} {ws : List (Key × V)}, RepD K B kvs ws → ∀ (i : Nat), (kvs[i]? = none ∧ ws[i]? = none) ∨ ∃ k u v, kvs[i]? = some (k, u) ∧ ws[i]? = some (k, v) ∧ Rep K B u v
  | [], _, h, i => by cases h; exact .inl ⟨by simp, by simp⟩
  | (k, u) :: r, _, h, i => by
    obtain ⟨v, vr, rfl, h1, h2⟩ := h
    cases i with
    | zero => exact .inr ⟨k, u, v, rfl, rfl, h1⟩
    | succ i => simpa using RepD.get h2 i
theorem RepD.length {B : Hp} : ∀ {kvs : List (Key × U)} {ws : List (Key × V)}, RepD K B kvs ws → ws.length = kvs.length
  | [], _, h => by cases h; rfl
  | (k, u) :: r, _, h => by
    obtain ⟨v, vr, rfl, h1, h2⟩ := h
    simp [RepD.length h2]
theorem RepD.keys {B : Hp} : ∀ {kvs : List (Key × U)} {ws : List (Key × V)}, RepD K B kvs ws → ws.map (·.1) = kvs.map (·.1)
  | [], _, h => by cases h; rfl
  | (k, u) :: r, _, h => by
    obtain ⟨v, vr, rfl, h1, h2⟩ := h
    simp [RepD.keys h2]
end Sg
set_option Elab.async false
set_option linter.all false
set_option maxRecDepth 100000
set_option maxHeartbeats 4000000
namespace Sg
open PySem L2
variable {K : PySem.W.Frag}
def putD (kvs : List (Key × U)) (k : Key) (u : U) : List (Key × U) := if (kvs.any fun kv => decide (kv.1 = k)) = true then kvs.map (fun kv => if kv.1 = k then (kv.1, u) else kv) else kvs ++ [(k, u)]
theorem RepD.any {B : Hp} (k : Key) : ∀ {kvs : List (Key × U)} {ws : List (Key × V)}, RepD K B kvs ws → (ws.any fun kv => decide (kv.1 = k)) = (kvs.any fun kv => decide (kv.1 = k))
  | [], _, h => by cases h; rfl
  | (j, u) :: r, _, h => by
    obtain ⟨v, vr, rfl, h1, h2⟩ := h
    rw [List.any_cons, List.any_cons, RepD.any k h2]
theorem RepD.repl {B : Hp} (k : Key) {u : U} {v : V} (q : Rep K B u v) : ∀ {kvs : List (Key × U)} {ws : List (Key × V)}, RepD K B kvs ws → RepD K B (kvs.map fun kv => if kv.1 = k then (kv.1, u) else kv) (ws.map fun kv => if kv.1 = k then (kv.1, v) else kv)
  | [], _, h => by cases h; rfl
  | (j, x) :: r, _, h => by
    obtain ⟨y, vr, rfl, h1, h2⟩ := h
    rw [List.map_cons, List.map_cons]
    by_cases c : j = k
    · rw [if_pos c, if_pos c]; exact ⟨v, _, rfl, q, RepD.repl k q h2⟩
    · rw [if_neg c, if_neg c]; exact ⟨y, _, rfl, h1, RepD.repl k q h2⟩
theorem RepD.snoc {B : Hp} (k : Key) {u : U} {v : V} (q : Rep K B u v) : ∀ {kvs : List (Key × U)} {ws : List (Key × V)}, RepD K B kvs ws → RepD K B (kvs ++ [(k, u)]) (ws ++ [(k, v)])
  | [], _, h => by cases h; exact ⟨v, [], rfl, q, rfl⟩
  | (j, x) :: r, _, h => by
    obtain ⟨y, vr, rfl, h1, h2⟩ := h
    exact ⟨y, _, rfl, h1, RepD.snoc k q h2⟩
theorem RepD.put {B : Hp} (k : Key) {u : U} {v : V} (q : Rep K B u v) {kvs : List (Key × U)} {ws : List (Key × V)} (h : RepD K B kvs ws) : RepD K B (putD kvs k u) (putK ws k v) := by
  unfold putD putK
  rw [RepD.any k h]
  split
  · exact RepD.repl k q h
  · exact RepD.snoc k q h
end Sg
set_option Elab.async false
set_option linter.all false
set_option maxRecDepth 100000
set_option maxHeartbeats 4000000
namespace Sg
open PySem L2 PySem.Spec PyProof.Rows
end Sg
set_option Elab.async false
set_option linter.all false
set_option maxRecDepth 100000
set_option maxHeartbeats 4000000
namespace Sg
open PySem L2
end Sg
set_option Elab.async false
set_option linter.all false
set_option maxRecDepth 100000
set_option maxHeartbeats 4000000
namespace Sg
open PySem L2
end Sg
set_option Elab.async false
set_option linter.all false
set_option maxRecDepth 100000
set_option maxHeartbeats 4000000
namespace Sg
open PySem L2
end Sg
set_option Elab.async false
set_option linter.all false
set_option maxRecDepth 100000
set_option maxHeartbeats 4000000
namespace Sg
open PySem L2
end Sg
set_option Elab.async false
set_option linter.all false
set_option maxRecDepth 100000
set_option maxHeartbeats 4000000
namespace Sg
open PySem PySem.Spec PyProof.Rows L2
end Sg
set_option Elab.async false
set_option linter.all false
set_option maxRecDepth 100000
set_option maxHeartbeats 4000000
namespace Sg
open PySem L2
end Sg
set_option Elab.async false
set_option linter.all false
set_option maxRecDepth 100000
set_option maxHeartbeats 4000000
namespace Sg
open PySem L2
variable {K : PySem.W.Frag}
mutual
inductive DpN (K : PySem.W.Frag) (H : Hp) : V → PyData → Prop
  | non : DpN K H .non .none
  | bl (b : Bool) : DpN K H (.bl b) (.bool b)
  | int (i : Int) : DpN K H (.int i) (.int i)
  | str (x : Str) : DpN K H (.str x) (.str x)
  | tup {a : Addr} {xs : List V} {ds : List PyData} : SqT K H a xs → DpNA K H xs ds → DpN K H (.ref a) (.tuple ds)
inductive DpNA (K : PySem.W.Frag) (H : Hp) : List V → List PyData → Prop
  | nil : DpNA K H [] []
  | cons {v : V} {vs : List V} {d : PyData} {ds : List PyData} : DpN K H v d → DpNA K H vs ds → DpNA K H (v :: vs) (d :: ds)
end
section
variable {X : Cx} {pins : List (Addr × Obj)} {σ : St} {H : Hp} {s : Shared}
mutual
theorem DpN.reads (I : Inv X pins σ H s) : ∀ (d : PyData) (v : V) (u : Value), DpN X.K H v d → RelV v u → Reads s.heap u d []
  | .none, _, _, h, r => by
    cases h
    cases r
    exact Reads.none
  | .bool b, _, _, h, r => by
    cases h
    cases r
    exact Reads.bool b
  | .int i, _, _, h, r => by
    cases h
    obtain ⟨t, rfl⟩ := r
    exact Reads.int i t
  | .str x, _, _, h, r => by
    cases h
    obtain ⟨t, rfl⟩ := r
    exact Reads.str x t
  | .list ds, _, _, h, r => by cases h
  | .tuple ds, _, _, h, r => by
    cases h with
    | tup hs ha =>
      cases r
      obtain ⟨its, rv, ⟨o, ho, hc, n, hd⟩, _⟩ := I.tuple hs
      have hr := DpN.readsAll I ds _ its ha rv
      exact Reads.tuple ho hc hd hr
  | .dict _, _, _, h, _ => by cases h
theorem DpN.readsAll (I : Inv X pins σ H s) : ∀ (ds : List PyData) (vs : List V) (us : List Value), DpNA X.K H vs ds → Vals vs us → ReadsAll s.heap us ds []
  | [], _, _, h, r => by
    cases h
    cases r
    exact ReadsAll.nil
  | d :: ds, _, _, h, r => by
    cases h with
    | cons h1 h2 =>
      cases r with
      | cons r1 r2 =>
        have q1 := DpN.reads I d _ _ h1 r1
        have q2 := DpN.readsAll I ds _ _ h2 r2
        exact ReadsAll.cons (as := []) (bs := []) q1 q2
end
end
theorem mgTup_2 (gs : MGs K) (a b : U) (ρ : Env) : (@mgTup K 2 gs).m (.tup [a, b]) ρ = gs.m [a, b] ρ := rfl
theorem mgTup_3 (gs : MGs K) (a b c : U) (ρ : Env) : (@mgTup K 3 gs).m (.tup [a, b, c]) ρ = gs.m [a, b, c] ρ := rfl
theorem mgTup_4 (gs : MGs K) (a b c d : U) (ρ : Env) : (@mgTup K 4 gs).m (.tup [a, b, c, d]) ρ = gs.m [a, b, c, d] ρ := rfl
theorem scV_b (b : Bool) : scV (.bl b) = some (.bl b) := rfl
theorem scV_i (b : Int) : scV (.int b) = some (.int b) := rfl
theorem scV_s (b : Str) : scV (.str b) = some (.str b) := rfl
theorem scV_n : scV .non = some .non := rfl
theorem tyU_d (kvs : List (Key × U)) : tyU (.dic kvs) = some "dict" := rfl
end Sg
set_option Elab.async false
set_option linter.all false
set_option maxRecDepth 100000
set_option maxHeartbeats 4000000
namespace Sg
open PySem L2
variable {K : PySem.W.Frag}
def RepOk (u : U) (b d : Nat) : Prop := ∃ x, pdG u = some x ∧ x.showable = true ∧ x.leavesShort 128 = true ∧ x.bulk ≤ b ∧ x.depth ≤ d
def RepOkL (us : List U) (b d : Nat) : Prop := ∃ xs, pdGL us = some xs ∧ PyData.showableAll xs = true ∧ PyData.leavesShortAll 128 xs = true ∧ PyData.bulkAll xs ≤ b ∧ PyData.depthAll xs ≤ d
abbrev Big (i : Int) : Prop := -10000000000000000000000000000000000000000000000000000000000000000000000000000000000000000000000000000 < i ∧ i < 10000000000000000000000000000000000000000000000000000000000000000000000000000000000000000000000000000
theorem big_nat {i : Int} (h : Big i) : i.natAbs < 10 ^ 100 := by
  obtain ⟨a, b⟩ := h
  have e : (10 ^ 100 : Nat) = 10000000000000000000000000000000000000000000000000000000000000000000000000000000000000000000000000000 := by decide +kernel
  rw [e]
  omega
theorem big_log {i : Int} (h : Big i) : i.natAbs.log2 < 1920 := by
  have h1 := big_nat h
  by_cases z : i.natAbs = 0
  · rw [z]; decide
  · exact (Nat.log2_lt z).mpr (Nat.lt_of_lt_of_le h1 (by decide +kernel))
theorem big_len {i : Int} (h : Big i) : (PyData.shown (.int i)).length ≤ 128 := by
  have := int_text_length_le10 (k := 100) (by decide) (big_nat h)
  show (Str.ofString (toString i)).length ≤ 128
  rw [ofString_length]
  omega
theorem RepOk.mono {u : U} {b d b' d' : Nat} (h : RepOk u b d) (hb : b ≤ b') (hd : d ≤ d') : RepOk u b' d' := by
  obtain ⟨x, h1, h2, h4, h5, h6⟩ := h
  exact ⟨x, h1, h2, h4, by omega, by omega⟩
theorem repOk_int (i : Int) (h : Big i) : RepOk (.int i) 0 0 := ⟨.int i, rfl, by simp only [PyData.showable, big_log h, decide_true], by simp only [PyData.leavesShort, big_len h, decide_true], Nat.le_refl _, Nat.le_refl _⟩
theorem repOk_str (x : Str) (n : Nat) (h : (PyData.str x).leavesShort 128 = true) (hn : x.cps.size ≤ n) : RepOk (.str x) n 0 := ⟨.str x, rfl, rfl, h, hn, Nat.le_refl _⟩
theorem repOkL_all {b d : Nat} : ∀ us : List U, (∀ u ∈ us, RepOk u b d) → RepOkL us (us.length * (b + 1)) d
  | [], _ => ⟨[], rfl, rfl, rfl, Nat.zero_le _, Nat.zero_le _⟩
  | u :: us, h => by
    obtain ⟨x, h1, h2, h4, h5, h6⟩ := h u List.mem_cons_self
    obtain ⟨xs, g1, g2, g4, g5, g6⟩ := repOkL_all us fun v hv => h v (List.mem_cons_of_mem _ hv)
    refine ⟨x :: xs, by rw [pdGL, h1, Option.bind_some, g1]; rfl, by simp only [PyData.showableAll, h2, g2, Bool.and_self], by simp only [PyData.leavesShortAll, h4, g4, Bool.and_self], ?_, ?_⟩
    · simp only [PyData.bulkAll, List.length_cons, Nat.add_mul, Nat.one_mul]; omega
    · simp only [PyData.depthAll]; omega
theorem RepOkL.lst {us : List U} {b d : Nat} (h : RepOkL us b d) : RepOk (.lst us) b (d + 1) := by
  obtain ⟨xs, g1, g2, g4, g5, g6⟩ := h
  exact ⟨.list xs, by rw [pdG, g1]; rfl, by simpa only [PyData.showable] using g2, by simpa only [PyData.leavesShort] using g4, by simpa only [PyData.bulk] using g5, by simp only [PyData.depth]; omega⟩
theorem RepOkL.tup {us : List U} {b d : Nat} (h : RepOkL us b d) : RepOk (.tup us) b (d + 1) := by
  obtain ⟨xs, g1, g2, g4, g5, g6⟩ := h
  exact ⟨.tuple xs, by rw [pdG, g1]; rfl, by simpa only [PyData.showable] using g2, by simpa only [PyData.leavesShort] using g4, by simpa only [PyData.bulk] using g5, by simp only [PyData.depth]; omega⟩
theorem repOk_lst {us : List U} {b d : Nat} (h : ∀ u ∈ us, RepOk u b d) : RepOk (.lst us) (us.length * (b + 1)) (d + 1) := (repOkL_all us h).lst
theorem repOk_tup {us : List U} {b d : Nat} (h : ∀ u ∈ us, RepOk u b d) : RepOk (.tup us) (us.length * (b + 1)) (d + 1) := (repOkL_all us h).tup
theorem repr_of {u : U} {b d : Nat} (h : RepOk u b d) (hi : isRef u = true) (hb : b ≤ 120000) (hd : d ≤ 60) : ∃ s, (oRepr (K := K)).f [u] = some (.str s) := by
  obtain ⟨x, h1, h2, h4, h5, h6⟩ := h
  have hz := PyData.shown_le_bulk 128 (by decide) x h4
  refine ⟨x.shown, ?_⟩
  show (reprU u).map U.str = _
  unfold reprU
  rw [h1, Option.bind_some, if_pos, Option.map_some]
  refine ⟨h2, by omega, ?_⟩
  omega
end Sg
set_option Elab.async false
set_option linter.all false
set_option maxRecDepth 100000
set_option maxHeartbeats 4000000
namespace Sg
open PySem L2
variable {K : PySem.W.Frag}
def oStrI : OpC K where
  r := fun xs H Q => ∃ i : Int, xs = [.int i] ∧ i.natAbs.log2 < 1920 ∧ Q (.str (toString i)) H
  f := fun us => match us with
    | [.int i] => if i.natAbs.log2 < 1920 then some (.str (toString i)) else none
    | _ => none
  ok := fun H xs us w r e => by
    split at e
    · rename_i i
      obtain ⟨v, rfl, r1⟩ := repL1 r
      split at e
      · rename_i hl
        cases e; cases r1
        exact ⟨_, rfl, fun Q q => ⟨i, rfl, hl, q⟩⟩
      · cases e
    · cases e
theorem rStrI {X : Cx} : CallR X (.type "str") (oStrI (K := X.K)).r := call_str_int
end Sg
set_option Elab.async false
set_option linter.all false
set_option maxRecDepth 100000
set_option maxHeartbeats 4000000
namespace Sg
open PySem L2
section
open PyProof.Rows
end
end Sg
set_option Elab.async false
set_option linter.all false
set_option maxRecDepth 100000
set_option maxHeartbeats 4000000
namespace Sg
open PySem L2
variable {K : PySem.W.Frag}
theorem oStrI_i (i : Int) (h : Big i) : (oStrI (K := K)).f [.int i] = some (.str (toString i)) := if_pos (big_log h)
end Sg
set_option Elab.async false
set_option linter.all false
set_option maxRecDepth 100000
set_option maxHeartbeats 4000000
namespace Sg
open PySem L2 PySem.Spec PyProof.Rows
end Sg
set_option Elab.async false
set_option linter.all false
set_option maxRecDepth 100000
set_option maxHeartbeats 4000000
namespace Sg
open PySem L2 PySem.Spec PyProof.Rows
variable {K : PySem.W.Frag}
inductive CsX where
  | own (y : Str) | bi (n : String)
def CsX.v (K : PySem.W.Frag) : CsX → V
  | .own y => .ref (He.ga K y)
  | .bi n => .ty n
def CsX.u (K : PySem.W.Frag) : CsX → Value
  | .own y => .ref (He.ga K y)
  | .bi n => .type n
theorem CsX.ok : ∀ c : CsX, ClsV (c.v K) (c.u K)
  | .own y => .own _
  | .bi n => .ty n
end Sg
set_option Elab.async false
set_option linter.all false
set_option maxRecDepth 100000
set_option maxHeartbeats 4000000
namespace Sg
open PySem L2 PyProof.Rows
variable {K : PySem.W.Frag}
structure CalMK (P : Program) (w : World) (K : PySem.W.Frag) (mg : Str → Option Value) (base : Heap) (CX : CXT) (k : Nat) (c m : Str) (n : Nat) (mf : List Slot → Option CO) (ks : List Str) (ix : List Nat) : Prop where
  cls : Cls K (He.ga K c)
  ok : ∃ f fd ps, Meth K (He.ga K c) m f ∧ FnOk P w K mg base CX k f fd ps (spM K n mf) ∧ ∀ (s : Shared) (self : Value) (ws : List Value), ws.length = ks.length → BindsTo s fd ⟨[self], ks.zip ws⟩ (ps.zip (self :: pm ix ws))
theorem CalMK.mono {P : Program} {w : World} {mg : Str → Option Value} {base : Heap} {CX : CXT} {j k : Nat} {c m : Str} {n : Nat} {mf : List Slot → Option CO} {ks : List Str} {ix : List Nat} (h : CalMK P w K mg base CX j c m n mf ks ix) (hjk : j ≤ k) : CalMK P w K mg base CX k c m n mf ks ix := by
  obtain ⟨h1, f, fd, ps, h2, h3, h4⟩ := h
  exact ⟨h1, f, fd, ps, h2, ⟨h3.len, fun A outer s H args us vs Q E hr => h3.run A outer s H args us vs Q E (hr.mono hjk)⟩, h4⟩
end Sg
set_option Elab.async false
set_option linter.all false
set_option maxRecDepth 100000
set_option maxHeartbeats 4000000
namespace Sg
open PySem L2
end Sg
set_option Elab.async false
set_option linter.all false
set_option maxRecDepth 100000
set_option maxHeartbeats 4000000
namespace Sg
open PySem L2
end Sg
set_option Elab.async false
set_option linter.all false
set_option maxRecDepth 100000
set_option maxHeartbeats 4000000
namespace Sg
open PySem L2
variable {K : PySem.W.Frag}
theorem repL_up {F : Fc} {ρ : Env} {σ : St} {B' H' : Hp} {k : Bool} {us : List U} {vs : List V} (R : Rel K F ρ σ B' H') (r : RepL K (if k = true then B' else H') us vs) : RepL K H' us vs := by
  cases k with
  | true => exact RepL.mono R.ex us vs r
  | false => exact r
def mLstL (a : MA K) : ME K where
  t := fun W => tLst (a.t W)
  m := fun ρ => bindAE (a.m ρ) fun us ρ1 => if us.length ≤ 16777216 then some (.ok (.lst us) ρ1) else none
  p := a.p
  k := false
  ok := fun F W ρ σ B H Q out e R f => by
    rcases bindAE_some e with ⟨us, ρ1, e1, e⟩ | ⟨y, ρ1, e1, rfl⟩
    · split at e
      · rename_i hl
        cases e
        refine a.ok F W ρ σ B H _ _ e1 R fun vs B1 H1 x1 p1 R1 r1 => ?_
        have r2 := repL_up R1 r1
        refine ⟨by rw [r2.length, PySem.sizeLine_eq]; exact hl, fun p hp => ?_⟩
        have g := Go.newC (o := .lst vs) R1.ex hp
        exact f (.ref p) B1 _ x1 (fun c => ⟨(p1 c).1.trans g.ex, (p1 c).2⟩) (R1.grow g) ⟨p, vs, rfl, upd_same, RepL.mono (Ex.new hp) _ _ r2⟩
      · cases e
    · exact a.ok F W ρ σ B H _ _ e1 R fun cls d B1 H1 x1 R1 xr => f cls d B1 H1 x1 R1 xr
section
variable {X : Cx} {W : WX} {k n : Nat} {x : Str} {mf : List Slot → Option CO} {L : MC X.K} {A : MA X.K} {e : Expr} {es : List Expr} {pos p : Pos}
theorem dlstL (ha : PA X es (A.t W)) : PE X (.List es pos) ((mLstL A).t W) := pe_lst ha
end
end Sg
set_option Elab.async false
set_option linter.all false
set_option maxRecDepth 100000
set_option maxHeartbeats 4000000
namespace Sg
open PySem L2
variable {K : PySem.W.Frag}
theorem bindEA_ok (u : U) (ρ : Env) (f : U → Env → Option AO) : bindEA (some (.ok u ρ)) f = f u ρ := rfl
theorem bindEA_ex (e : Exn) (ρ : Env) (f : U → Env → Option AO) : bindEA (some (.ex e ρ)) f = some (.ex e ρ) := rfl
theorem mLstL_m (a : MA K) (ρ : Env) : (mLstL a).m ρ = bindAE (a.m ρ) fun us ρ1 => if us.length ≤ 16777216 then some (.ok (.lst us) ρ1) else none := rfl
end Sg
set_option Elab.async false
set_option linter.all false
set_option maxRecDepth 100000
set_option maxHeartbeats 4000000
namespace Sg
open PySem L2
variable {K : PySem.W.Frag}
noncomputable def allS (g : Addr → Option SO) : Option SO := open Classical in if ∀ x y, g x = g y then g 0 else none
theorem allS_some {g : Addr → Option SO} {o : SO} (h : allS g = some o) (x : Addr) : g x = some o := by
  unfold allS at h
  split at h
  · rename_i hh; rw [hh x 0]; exact h
  · cases h
theorem allS_of {g : Addr → Option SO} {o : SO} (h : ∀ x, g x = some o) : allS g = some o := by
  unfold allS
  rw [if_pos (fun x y => by rw [h x, h y])]
  exact h 0
end Sg
set_option Elab.async false
set_option linter.all false
set_option maxRecDepth 100000
set_option maxHeartbeats 4000000
namespace Sg
open PySem L2
end Sg
set_option Elab.async false
set_option linter.all false
set_option maxRecDepth 100000
set_option maxHeartbeats 4000000
namespace Sg
open PySem L2
end Sg
set_option Elab.async false
set_option linter.all false
set_option maxRecDepth 100000
set_option maxHeartbeats 4000000
namespace Sg
open PySem L2 PySem.Calls PySem.Spec PyProof.Rows
section
variable {CX : CXT} {P : Program} {w : World} {K : PySem.W.Frag} {mg : Str → Option Value} {base : Heap} {k : Nat} {f : Addr} {x qual p1 pv kw : Str} {st : Stmt} {fd : FuncData} {N : List Str} {sp : V → V → V → List V → Hp → VK → XK → Prop} {d : V}
theorem FnV0.mono {sp : V → V → List V → Hp → VK → XK → Prop} {j : Nat} (F : FnV0 P w K mg base CX j f d sp) (l : j ≤ k) : FnV0 P w K mg base CX k f d sp :=
  fun A outer s H a us va vs Q E hr => F A outer s H a us va vs Q E (hr.mono l)
end
end Sg
set_option Elab.async false
set_option linter.all false
set_option maxRecDepth 100000
set_option maxHeartbeats 4000000
namespace Sg
open PySem L2
end Sg
set_option Elab.async false
set_option linter.all false
set_option maxRecDepth 100000
set_option maxHeartbeats 4000000
namespace Sg
open PySem L2
variable {K : PySem.W.Frag}
theorem Rel.put {F : Fc} {ρ : Env} {σ : St} {B H : Hp} {i : Nat} {s : Slot} (R : Rel K F ρ σ B H) (hc : s.isC = false) (ok : SlotOk K F B H s (σ.getD i none)) : Rel K F (ρ.set i s) σ B H :=
  R.setG rfl (fun _ _ => rfl) (fun _ => ok) (fun _ _ _ _ _ _ _ h => by rw [ow_no hc] at h; cases h) (fun _ _ _ h => by rw [ow_no hc] at h; cases h) fun l => by cases s <;> first | (cases l; done) | (cases hc; done)
theorem Rel.noC {F : Fc} {ρ ρ' : Env} {σ : St} {B H : Hp} (R : Rel K F ρ σ B H) (hl : ρ'.length = ρ.length) (h : ∀ (j : Nat) s, ρ'[j]? = some s → s.isC = false ∧ SlotOk K F B H s (σ.getD j none)) : Rel K F ρ' σ B H :=
  ⟨by rw [R.len, hl], R.ex, fun j s e => (h j s e).2, fun j l s t p ne e1 e2 h1 h2 => (by rw [ow_no (h j s e1).1] at h1; cases h1), R.bb, R.hh, R.th, R.nw, R.xx, fun a o ho j s e hm => (by rw [ow_no (h j s e).1] at hm; cases hm), R.xd, fun j s e l => (by
    have := (h j s e).1
    cases s <;> first | (cases l; done) | (cases this; done))⟩
def noneE (ρ : Env) : Env := ρ.map fun _ => .non
theorem Rel.noneE {F : Fc} {ρ : Env} {σ : St} {B H : Hp} (R : Rel K F ρ σ B H) : Rel K F (noneE ρ) σ B H := R.noC (by simp [Sg.noneE]) fun j s e => by
  unfold Sg.noneE at e
  rw [List.getElem?_map] at e
  cases c : ρ[j]? with
  | none => rw [c] at e; cases e
  | some t => rw [c] at e; cases e; exact ⟨rfl, trivial⟩
theorem rep_ref {B : Hp} {u : U} {v : V} (h : scV u = none) (r : Rep K B u v) : ∃ a, v = .ref a := by
  cases u with
  | lst us => obtain ⟨a, vs, rfl, _⟩ := r; exact ⟨a, rfl⟩
  | frl us => obtain ⟨a, vs, rfl, _⟩ := r; exact ⟨a, rfl⟩
  | tup us => obtain ⟨a, vs, rfl, _⟩ := r; exact ⟨a, rfl⟩
  | dic us => obtain ⟨a, vs, rfl, _⟩ := r; exact ⟨a, rfl⟩
  | ins c us => obtain ⟨a, dx, vs, rfl, _⟩ := r; exact ⟨a, rfl⟩
  | exc c => obtain ⟨a, rfl, _⟩ := r; exact ⟨a, rfl⟩
  | exf c f z => obtain ⟨a, d, _, rfl, _⟩ := r; exact ⟨a, rfl⟩
  | ndc us => obtain ⟨a, vs, rfl, _⟩ := r; exact ⟨a, rfl⟩
  | _ => cases h
def endR : SO → Option SO
  | .rt (.val w) ρ => if (scV w).isSome = true then some (.rt (.val w) (noneE ρ)) else none
  | _ => none
theorem endR_some {w : U} {ρ : Env} {o : SO} (h : endR (.rt (.val w) ρ) = some o) : o = .rt (.val w) (noneE ρ) := by
  have h' : (if (scV w).isSome = true then some (SO.rt (.val w) (noneE ρ)) else none) = some o := h
  by_cases c : (scV w).isSome = true
  · rw [if_pos c] at h'; exact (Option.some.inj h').symm
  · rw [if_neg c] at h'; cases h'
noncomputable def msName (i : Nat) (b : MS K) : MS K where
  t := b.t
  m := fun ρ => match ρ[i]? with
    | some (.val u) => match scV u with
      | some _ => b.m ρ
      | none => allS fun a => (b.m (ρ.set i (.nam a u))).bind endR
    | _ => b.m ρ
  ok := fun F W ρ σ B H D o e R f => by
    split at e
    · rename_i u hu
      split at e
      · exact b.ok F W ρ σ B H D o e R f
      · rename_i hs
        obtain ⟨v, hv, r⟩ := R.sl i _ hu
        obtain ⟨a, rfl⟩ := rep_ref hs r
        obtain ⟨o1, e1, e2⟩ := Option.bind_eq_some_iff.mp (allS_some e a)
        refine b.ok F W _ σ B H D o1 e1 (R.put (i := i) (s := .nam a u) rfl ⟨hv, r⟩) ?_
        cases o1 with
        | rt w ρ1 =>
          cases w with
          | val w =>
            obtain rfl := (endR_some e2).symm
            exact fun v σ' B' H' x R' rr => f v σ' B' H' x R'.noneE rr
          | cel us => cases e2
          | dcl us => cases e2
        | _ => cases e2
    · exact b.ok F W ρ σ B H D o e R f
def un (B B1 : Hp) : Hp := fun a => match B a with
  | some o => some o
  | none => B1 a
theorem un_l {B B1 : Hp} {a : Addr} {o : HO} (h : B a = some o) : un B B1 a = some o := by unfold un; rw [h]
theorem un_r {B B1 : Hp} {a : Addr} (h : B a = none) : un B B1 a = B1 a := by unfold un; rw [h]
def KeptP : Env → Env → Prop
  | [], [] => True
  | .non :: r, _ :: r' => KeptP r r'
  | s :: r, s' :: r' => s' = s ∧ KeptP r r'
  | _, _ => False
theorem KeptP.len : ∀ {ρ ρ' : Env}, KeptP ρ ρ' → ρ'.length = ρ.length
  | [], [], _ => rfl
  | [], _ :: _, h => by unfold KeptP at h; exact h.elim
  | s :: r, [], h => by cases s <;> exact h.elim
  | s :: r, s' :: r', h => by
    have : KeptP r r' := by
      cases s with
      | non => exact h
      | _ => exact h.2
    simp [this.len]
theorem KeptP.get : ∀ {ρ ρ' : Env} {j : Nat} {s : Slot}, KeptP ρ ρ' → ρ[j]? = some s → s ≠ .non → ρ'[j]? = some s
  | [], _, _, _, _, e, _ => by simp at e
  | s :: r, [], _, _, h, _, _ => by cases s <;> exact h.elim
  | s :: r, s' :: r', 0, t, h, e, n => by
    simp at e; subst e
    cases s with
    | non => exact absurd rfl n
    | _ => rw [h.1]; rfl
  | s :: r, s' :: r', j + 1, t, h, e, n => by
    have : KeptP r r' := by
      cases s with
      | non => exact h
      | _ => exact h.2
    simpa using this.get (j := j) (by simpa using e) n
section
variable {X : Cx} {W : WX} {e c : Expr} {E : ME X.K} {S R Z : MS X.K} {Ts : MT X.K} {st : Stmt} {b rest : List Stmt} {T C : Nat} {n : Int} {t tc : Str} {j : Nat} {p1 p2 p3 p4 p5 p6 p7 p8 p9 p10 p11 p12 : Pos} {hk}
theorem snam {i : Nat} {sts : List Stmt} (h : PSs X sts (S.t W)) : PSs X sts ((msName i S).t W) := h
end
theorem msName_v {i : Nat} {b : MS K} {ρ : Env} {u : U} {o : SO} {o1 : Addr → SO} (hi : ρ[i]? = some (.val u)) (hu : scV u = none) (h : ∀ a, b.m (ρ.set i (.nam a u)) = some (o1 a)) (h2 : ∀ a, endR (o1 a) = some o) : (msName i b).m ρ = some o := by
  show (match ρ[i]? with
    | some (.val u) => match scV u with
      | some _ => b.m ρ
      | none => allS fun a => (b.m (ρ.set i (.nam a u))).bind endR
    | _ => b.m ρ) = _
  rw [hi]
  dsimp only
  rw [hu]
  exact allS_of fun a => by rw [h a]; exact h2 a
theorem endR_s {w : U} {z : V} {ρ : Env} (h : scV w = some z) : endR (.rt (.val w) ρ) = some (.rt (.val w) (noneE ρ)) := by
  show (if (scV w).isSome = true then some (SO.rt (.val w) (noneE ρ)) else none) = _
  rw [h]; rfl
end Sg
set_option Elab.async false
set_option linter.all false
set_option maxRecDepth 100000
set_option maxHeartbeats 4000000
namespace Sg
open PySem L2
end Sg
set_option Elab.async false
set_option linter.all false
set_option maxRecDepth 100000
set_option maxHeartbeats 4000000
namespace Sg
open PySem L2
end Sg
set_option Elab.async false
set_option linter.all false
set_option maxRecDepth 100000
set_option maxHeartbeats 4000000
namespace Sg
open PySem L2
end Sg
set_option Elab.async false
set_option linter.all false
set_option maxRecDepth 100000
set_option maxHeartbeats 4000000
namespace Sg
open PySem L2
end Sg
set_option Elab.async false
set_option linter.all false
set_option maxRecDepth 100000
set_option maxHeartbeats 4000000
namespace Sg
open PySem L2 PySem.Spec PyProof.Rows
end Sg
set_option Elab.async false
set_option linter.all false
set_option maxRecDepth 100000
namespace Sg
open PySem L2 PySem.Spec PyProof.Rows
end Sg
set_option Elab.async false
set_option linter.all false
set_option maxRecDepth 100000
namespace Sg
open PySem L2 PySem.Spec PyProof.Rows
end Sg
namespace Sg
open PySem L2 PySem.Spec PyProof.Rows
end Sg
set_option Elab.async false
set_option linter.all false
set_option maxRecDepth 100000
set_option maxHeartbeats 4000000
namespace Sg
open PySem L2
end Sg
set_option Elab.async false
set_option linter.all false
set_option maxRecDepth 100000
set_option maxHeartbeats 4000000
namespace Sg
open PySem L2 PySem.Spec PyProof.Rows
end Sg
set_option Elab.async false
set_option linter.all false
set_option maxRecDepth 100000
set_option maxHeartbeats 4000000
namespace Sg
open PySem L2 PySem.Spec PyProof.Rows
end Sg
set_option Elab.async false
set_option linter.all false
set_option maxRecDepth 100000
set_option maxHeartbeats 4000000
namespace Sg
open PySem L2
end Sg
set_option Elab.async false
set_option linter.all false
set_option maxRecDepth 100000
set_option maxHeartbeats 4000000
namespace Sg
open PySem L2
end Sg
set_option Elab.async false
set_option linter.all false
set_option maxRecDepth 100000
set_option maxHeartbeats 4000000
namespace Sg
open PySem L2
end Sg
set_option Elab.async false
set_option linter.all false
set_option maxRecDepth 100000
set_option maxHeartbeats 4000000
namespace Sg
open PySem L2 PySem.Spec PyProof.Rows
variable {K : PySem.W.Frag}
section
variable {F : Fc} {B H : Hp} {p : Addr}
def NXd (H : Hp) (q : Addr) : Prop := ∀ fs, H q ≠ some (.xd fs)
theorem nxd_of {q : Addr} {o : HO} (h : H q = some o) (n : ∀ fs, o ≠ .xd fs) : NXd H q := fun fs e => by
  rw [h] at e
  exact n fs (Option.some.inj e)
theorem LsOk.nx : ∀ {uss : List (List U)} {ws : List V}, LsOk K B H uss ws → ∀ q ∈ ws.flatMap adV, NXd H q
  | [], _, h, q, hq => by cases h; cases hq
  | us :: uss, _, h, q, hq => by
    obtain ⟨z, vs, r, rfl, h1, h2, h3⟩ := h
    rcases List.mem_cons.mp (show q ∈ z :: r.flatMap adV from hq) with e | e
    · rw [e]; exact nxd_of h1 fun _ c => nomatch c
    · exact LsOk.nx h3 q e
theorem DsOk.nx : ∀ {uss : List (Key × List U)} {ws : List (Key × V)}, DsOk K B H uss ws → ∀ q ∈ ws.flatMap (fun kv => adV kv.2), NXd H q
  | [], _, h, q, hq => by cases h; cases hq
  | (k, us) :: uss, _, h, q, hq => by
    obtain ⟨z, vs, r, rfl, h1, h2, h3⟩ := h
    rcases List.mem_cons.mp (show q ∈ z :: r.flatMap (fun kv => adV kv.2) from hq) with e | e
    · rw [e]; exact nxd_of h1 fun _ c => nomatch c
    · exact DsOk.nx h3 q e
theorem FlOk.nx {fl : Fld} {x : V} (h : FlOk K B H fl x) : ∀ q ∈ inn1 H fl x, NXd H q := fun q hq => by
  cases fl with
  | v u => cases hq
  | l us => obtain ⟨z, ws, rfl, h1, h2⟩ := h; rw [List.mem_singleton.mp (show q ∈ [z] from hq)]; exact nxd_of h1 fun _ c => nomatch c
  | d us => obtain ⟨z, ws, rfl, h1, h2⟩ := h; rw [List.mem_singleton.mp (show q ∈ [z] from hq)]; exact nxd_of h1 fun _ c => nomatch c
  | ll uss =>
    obtain ⟨z, ws, rfl, h1, h2⟩ := h
    rw [inn1_ll h1] at hq
    rcases List.mem_cons.mp hq with e | e
    · rw [e]; exact nxd_of h1 fun _ c => nomatch c
    · exact h2.nx q e
  | dl uss =>
    obtain ⟨z, ws, rfl, h1, h2⟩ := h
    rw [inn1_dl h1] at hq
    rcases List.mem_cons.mp hq with e | e
    · rw [e]; exact nxd_of h1 fun _ c => nomatch c
    · exact h2.nx q e
  | dn us => obtain ⟨z, ws, rfl, h1, h2⟩ := h; rw [List.mem_singleton.mp (show q ∈ [z] from hq)]; obtain ⟨es, ep, e⟩ := h1.some; exact nxd_of e fun _ c => nomatch c
theorem FsOk.nx : ∀ {fs : List (Str × Fld)} {ws : List (Str × V)}, FsOk K B H fs ws → ∀ q ∈ inn H fs ws, NXd H q
  | [], _, h, q, hq => by cases h; cases hq
  | (k, f) :: fs, _, h, q, hq => by
    obtain ⟨x, r, rfl, h1, h2⟩ := h
    rcases List.mem_append.mp (show q ∈ inn1 H f x ++ inn H fs r from hq) with e | e
    · exact h1.nx q e
    · exact FsOk.nx h2 q e
theorem SlotOk.nx {s : Slot} {ov : Option V} (h : SlotOk K F B H s ov) (hp : p ∈ s.ow H ov) : NXd H p := by
  cases s with
  | cel own us =>
    obtain ⟨p', ws, e, h1, _⟩ := h
    rw [of_ow_cel hp] at e; cases e
    exact nxd_of h1 fun _ c => nomatch c
  | celD own us =>
    obtain ⟨p', ws, e, h1, _⟩ := h
    rw [of_ow_celD hp] at e; cases e
    exact nxd_of h1 fun _ c => nomatch c
  | obj own c fs =>
    obtain ⟨a, dx, ws, rfl, h1, h2, _⟩ := h
    have hp' : p ∈ a :: inn H fs ws := by
      have : p ∈ a :: inn H fs (insW (H a)) := hp
      rw [h1] at this; exact this
    rcases List.mem_cons.mp hp' with e | e
    · rw [e]; exact nxd_of h1 fun _ c => nomatch c
    · exact h2.nx p e
  | fld own fl =>
    obtain ⟨x, rfl, h2, _⟩ := h
    exact h2.nx p hp
  | non => cases hp
  | val u => cases hp
  | lck u => cases hp
  | nam a u => cases hp
end
end Sg
set_option Elab.async false
set_option linter.all false
set_option maxRecDepth 100000
set_option maxHeartbeats 2000000
namespace Sg
open PySem L2 PySem.Spec PyProof.Rows
end Sg
set_option Elab.async false
set_option linter.all false
set_option maxRecDepth 100000
set_option maxHeartbeats 1000000
namespace Sg
open PySem L2 PySem.Spec PyProof.Rows
variable {K : PySem.W.Frag}
def mcPm (ix : List Nat) (b : MC K) (hk : b.k = true := by exact id rfl) : MC K where
  t := fun W σ H Q => b.t W σ H fun vs H1 => vs.length = ix.length ∧ Q (pm ix vs) H1
  m := fun ρ => (b.m ρ).bind fun o => match o with
    | .ok is ρ2 => if is.length = ix.length then some (.ok (pm ix is) ρ2) else none
    | .ex e ρ2 => some (.ex e ρ2)
  p := false
  k := true
  ok := fun F W ρ σ B H Q out e R f => by
    obtain ⟨o, e2, e⟩ := Option.bind_eq_some_iff.mp e
    cases o with
    | ex x ρ2 => cases e; exact b.ok F W ρ σ B H _ _ e2 R fun cls d B2 H2 x2 R2 xr => f cls d B2 H2 x2 R2 xr
    | ok is ρ2 =>
      refine b.ok F W ρ σ B H _ _ e2 R fun vs B2 H2 x2 p2 R2 r2 => ?_
      rw [hk, if_pos rfl] at r2
      dsimp only at e
      split at e
      · rename_i hn
        cases e
        exact ⟨r2.len.trans hn, f (pm ix vs) B2 H2 x2 (fun z => nomatch z) R2 (r2.pm ix)⟩
      · cases e
theorem mcPm_m (ix : List Nat) (b : MC K) (h) (ρ : Env) : (@mcPm K ix b h).m ρ = (b.m ρ).bind fun o => match o with
    | .ok is ρ2 => if is.length = ix.length then some (.ok (pm ix is) ρ2) else none
    | .ex e ρ2 => some (.ex e ρ2) := rfl
def Slot.plain : Slot → Bool
  | .non => true
  | .val _ => true
  | .cel _ us => us.all fun u => (scV u).isSome
  | _ => false
section
variable {X : Cx} {W : WX} {pos p2 p3 p4 p5 : Pos} {a b c e : Expr} {es : List Expr} {A : ME X.K} {M Z : MF X.K} {T T1 T2 : MT X.K} {x : Str} {k n : Nat} {mf : List Slot → Option CO} {L : MC X.K}
variable {ks : List Str} {ix : List Nat} {kws : List Keyword}
theorem dcallKFX {h h'} (c : CalK X.prog X.w X.K X.mg X.base (L2.CX X.prog X.w) k x n mf ks ix) (hr : Room k X.A) (tk : Takes X W) (ha : PK X kws (L.t W)) (hl : ix.length = ks.length := by rfl) (hg : Gl X x := by rfl) (hdb : (x == ("__debug__" : Str)) = false := by decide)
    (hall : (backToKw pos (keywordEach kws X.env)).all (·.1.isSome) = true := by rfl) (hks : (backToKw pos (keywordEach kws X.env)).filterMap (·.1) = ks := by rfl)
    (hpl : ((backTo pos (starEach [] X.env)).any (·.1) || (backToKw pos (keywordEach kws X.env)).any (·.1.isNone)) = false := by rfl) :
    PE X (.Call (.Name x p2) [] kws pos) ((mCallF n mf (mcPm ix L h) h').t W) := pcalK c hl hr (fun σ => passAt tk σ) ha hg hdb hall hks hpl
end
end Sg
set_option Elab.async false
set_option linter.all false
set_option maxRecDepth 100000
set_option maxHeartbeats 4000000
namespace Sg
open PySem L2
variable {K : PySem.W.Frag}
def putFl (f : Str) (x : Fld) : List (Str × Fld) → List (Str × Fld)
  | [] => [(f, x)]
  | (g, y) :: r => if g = f then (g, x) :: r else (g, y) :: putFl f x r
theorem inn_cons (H : Hp) (k k' : Str) (fl : Fld) (x : V) (fs : List (Str × Fld)) (ws : List (Str × V)) : inn H ((k, fl) :: fs) ((k', x) :: ws) = inn1 H fl x ++ inn H fs ws := rfl
section
variable {F : Fc} {ρ : Env} {σ : St} {B H B' H' : Hp}
theorem FsOk.len : ∀ {fs : List (Str × Fld)} {ws : List (Str × V)}, FsOk K B H fs ws → ws.length = fs.length
  | [], _, h => by cases h; rfl
  | (k, f) :: fs, _, h => by
    obtain ⟨x, r, rfl, _, h2⟩ := h
    simp [FsOk.len h2]
theorem FsOk.look {f : Str} {fl : Fld} : ∀ {fs : List (Str × Fld)} {ws : List (Str × V)}, FsOk K B H fs ws → fs.lookup f = some fl → ∃ x, ws.lookup f = some x ∧ FlOk K B H fl x ∧ ∀ q ∈ inn1 H fl x, q ∈ inn H fs ws
  | [], _, h, e => by cases e
  | (k, y) :: fs, _, h, e => by
    obtain ⟨x, r, rfl, h1, h2⟩ := h
    rw [List.lookup_cons] at e ⊢
    rw [inn_cons]
    cases c : f == k with
    | true => rw [c] at e; cases e; exact ⟨x, rfl, h1, fun q hq => List.mem_append_left _ hq⟩
    | false =>
      rw [c] at e
      obtain ⟨z, z1, z2, z3⟩ := FsOk.look h2 e
      exact ⟨z, z1, z2, fun q hq => List.mem_append_right _ (z3 q hq)⟩
theorem FsOk.put {f : Str} {fl' : Fld} {x' : V} (hf : FlOk K B H fl' x') : ∀ {fs : List (Str × Fld)} {ws : List (Str × V)}, FsOk K B H fs ws → (inn H fs ws).Nodup → (inn1 H fl' x').Nodup → (∀ q ∈ inn1 H fl' x', q ∉ inn H fs ws) →
    FsOk K B H (putFl f fl' fs) (putF f x' ws) ∧ (inn H (putFl f fl' fs) (putF f x' ws)).Nodup ∧ ∀ q ∈ inn H (putFl f fl' fs) (putF f x' ws), q ∈ inn1 H fl' x' ∨ q ∈ inn H fs ws
  | [], _, h, nd, n1, hd => by
    cases h
    have e : inn H [(f, fl')] [(f, x')] = inn1 H fl' x' := by rw [inn_cons]; exact List.append_nil _
    exact ⟨⟨x', [], rfl, hf, rfl⟩, by show (inn H [(f, fl')] [(f, x')]).Nodup; rw [e]; exact n1, fun q hq => .inl (by have : q ∈ inn H [(f, fl')] [(f, x')] := hq; rw [e] at this; exact this)⟩
  | (k, y) :: fs, _, h, nd, n1, hd => by
    obtain ⟨x, r, rfl, h1, h2⟩ := h
    rw [inn_cons] at nd hd
    unfold putFl putF
    by_cases c : k = f
    · rw [if_pos c, if_pos c]
      refine ⟨⟨x', r, rfl, hf, h2⟩, ?_, fun q hq => ?_⟩
      · rw [inn_cons]
        exact List.nodup_append.mpr ⟨n1, (List.nodup_append.mp nd).2.1, fun a ha b hb e => hd a ha (List.mem_append_right _ (by rw [e]; exact hb))⟩
      · rw [inn_cons] at hq ⊢
        rcases List.mem_append.mp hq with z | z
        · exact .inl z
        · exact .inr (List.mem_append_right _ z)
    · rw [if_neg c, if_neg c]
      obtain ⟨z1, z2, z3⟩ := FsOk.put hf h2 (List.nodup_append.mp nd).2.1 n1 fun q hq hm => hd q hq (List.mem_append_right _ hm)
      refine ⟨⟨x, _, rfl, h1, z1⟩, ?_, fun q hq => ?_⟩
      · rw [inn_cons]
        refine List.nodup_append.mpr ⟨(List.nodup_append.mp nd).1, z2, fun a ha b hb e => ?_⟩
        rcases z3 b hb with w | w
        · exact hd b w (List.mem_append_left _ (by rw [← e]; exact ha))
        · exact (List.nodup_append.mp nd).2.2 a ha b w e
      · rw [inn_cons] at hq ⊢
        rcases List.mem_append.mp hq with z | z
        · exact .inr (List.mem_append_left _ z)
        · exact (z3 q z).imp id fun w => List.mem_append_right _ w
structure ObjAt (K : PySem.W.Frag) (F : Fc) (B H : Hp) (own : Bool) (c : Str) (fs : List (Str × Fld)) (o : Option V) (p dx : Addr) (ws : List (Str × V)) : Prop where
  e : o = some (.ref p)
  h : H p = some (.ins (He.ga K c) dx ws)
  f : FsOk K B H fs ws
  nd : (p :: inn H fs ws).Nodup
  al : ∀ q ∈ p :: inn H fs ws, B q = none ∧ (if own then F.H0 q = none else (q ∈ F.M ∧ q ∈ F.O) ∨ F.H0 q = none)
theorem Rel.obj (R : Rel K F ρ σ B H) {i : Nat} {own : Bool} {c : Str} {fs : List (Str × Fld)} (hi : ρ[i]? = some (.obj own c fs)) : ∃ p dx ws, ObjAt K F B H own c fs (σ.getD i none) p dx ws := by
  obtain ⟨p, dx, ws, e, h1, h2, h3, h4⟩ := R.sl i _ hi
  exact ⟨p, dx, ws, e, h1, h2, h3, h4⟩
theorem ObjAt.ow {own : Bool} {c : Str} {fs : List (Str × Fld)} {o : Option V} {p dx : Addr} {ws : List (Str × V)} (h : ObjAt K F B H own c fs o p dx ws) : (Slot.obj own c fs).ow H o = p :: inn H fs ws := by
  rw [h.e]; show p :: inn H fs (insW (H p)) = _; rw [h.h]; rfl
theorem ObjAt.own {own : Bool} {c : Str} {fs : List (Str × Fld)} {o : Option V} {p dx q : Addr} {ws : List (Str × V)} (h : ObjAt K F B H own c fs o p dx ws) (hq : q ∈ p :: inn H fs ws) : F.H0 q = none ∨ q ∈ F.M := by
  have := (h.al q hq).2
  cases own with
  | true => exact .inl this
  | false => exact (Or.symm this).imp id And.left
end
end Sg
set_option Elab.async false
set_option linter.all false
set_option maxRecDepth 100000
set_option maxHeartbeats 4000000
namespace Sg
open PySem L2
variable {K : PySem.W.Frag}
def fldU : Fld → U
  | .v u => u
  | .l us => .lst us
  | .d kvs => .dic kvs
  | .ll uss => .lst (uss.map U.lst)
  | .dl kvs => .dic (kvs.map fun p => (p.1, U.lst p.2))
  | .dn kvs => .ndc kvs
def fsU (fs : List (Str × Fld)) : List (Str × U) := fs.map fun p => (p.1, fldU p.2)
theorem LsOk.look {B H : Hp} (x : Ex B H) : ∀ {uss : List (List U)} {ws : List V}, LsOk K B H uss ws → RepL K H (uss.map U.lst) ws
  | [], _, h => h
  | us :: uss, _, h => by
    obtain ⟨q, vs, r, rfl, h1, h2, h3⟩ := h
    exact ⟨.ref q, r, rfl, ⟨q, vs, rfl, h1, RepL.mono x _ _ h2⟩, LsOk.look x h3⟩
theorem DsOk.look {B H : Hp} (x : Ex B H) : ∀ {uss : List (Key × List U)} {ws : List (Key × V)}, DsOk K B H uss ws → RepD K H (uss.map fun p => (p.1, U.lst p.2)) ws
  | [], _, h => h
  | (k, us) :: uss, _, h => by
    obtain ⟨q, vs, r, rfl, h1, h2, h3⟩ := h
    exact ⟨.ref q, r, rfl, ⟨q, vs, rfl, h1, RepL.mono x _ _ h2⟩, DsOk.look x h3⟩
theorem FlOk.look {B H : Hp} (x : Ex B H) {fl : Fld} {v : V} (h : FlOk K B H fl v) : Rep K H (fldU fl) v := by
  cases fl with
  | v u => exact Rep.mono x _ _ h
  | l us => obtain ⟨q, ws, rfl, h1, h2⟩ := h; exact ⟨q, ws, rfl, h1, RepL.mono x _ _ h2⟩
  | d us => obtain ⟨q, ws, rfl, h1, h2⟩ := h; exact ⟨q, ws, rfl, .inl h1, RepD.mono x _ _ h2⟩
  | ll us => obtain ⟨q, ws, rfl, h1, h2⟩ := h; exact ⟨q, ws, rfl, h1, h2.look x⟩
  | dl us => obtain ⟨q, ws, rfl, h1, h2⟩ := h; exact ⟨q, ws, rfl, .inl h1, h2.look x⟩
  | dn us => obtain ⟨q, ws, rfl, h1, h2⟩ := h; exact ⟨q, ws, rfl, ((h1.upG fun _ _ z => x.t z).m fun _ _ z => z).rd, RepN.mono x _ _ h2⟩
theorem FsOk.rep {B H : Hp} (x : Ex B H) : ∀ {fs : List (Str × Fld)} {ws : List (Str × V)}, FsOk K B H fs ws → RepF K H (fsU fs) ws
  | [], _, h => h
  | (k, f) :: fs, _, h => by
    obtain ⟨v, r, rfl, h1, h2⟩ := h
    exact ⟨v, r, rfl, h1.look x, FsOk.rep x h2⟩
theorem LsOk.frz {B B' H : Hp} (xb : Ex B B') : ∀ {uss : List (List U)} {ws : List V}, (∀ q ∈ ws.flatMap adV, B' q = H q) → LsOk K B H uss ws → RepL K B' (uss.map U.lst) ws
  | [], _, _, h => h
  | us :: uss, _, hq, h => by
    obtain ⟨q, vs, r, rfl, h1, h2, h3⟩ := h
    exact ⟨.ref q, r, rfl, ⟨q, vs, rfl, by rw [hq q List.mem_cons_self]; exact h1, RepL.mono xb _ _ h2⟩, LsOk.frz xb (fun z hz => hq z (List.mem_cons_of_mem _ hz)) h3⟩
theorem DsOk.frz {B B' H : Hp} (xb : Ex B B') : ∀ {uss : List (Key × List U)} {ws : List (Key × V)}, (∀ q ∈ ws.flatMap (fun kv => adV kv.2), B' q = H q) → DsOk K B H uss ws → RepD K B' (uss.map fun p => (p.1, U.lst p.2)) ws
  | [], _, _, h => h
  | (k, us) :: uss, _, hq, h => by
    obtain ⟨q, vs, r, rfl, h1, h2, h3⟩ := h
    exact ⟨.ref q, r, rfl, ⟨q, vs, rfl, by rw [hq q List.mem_cons_self]; exact h1, RepL.mono xb _ _ h2⟩, DsOk.frz xb (fun z hz => hq z (List.mem_cons_of_mem _ hz)) h3⟩
theorem FlOk.frz {B B' H : Hp} (xb : Ex B B') {fl : Fld} {x : V} (hq : ∀ q ∈ inn1 H fl x, B' q = H q) (h : FlOk K B H fl x) : Rep K B' (fldU fl) x := by
  cases fl with
  | v u => exact Rep.mono xb _ _ h
  | l us => obtain ⟨q, ws, rfl, h1, h2⟩ := h; exact ⟨q, ws, rfl, by rw [hq q List.mem_cons_self]; exact h1, RepL.mono xb _ _ h2⟩
  | d us => obtain ⟨q, ws, rfl, h1, h2⟩ := h; exact ⟨q, ws, rfl, .inl (by rw [hq q List.mem_cons_self]; exact h1), RepD.mono xb _ _ h2⟩
  | ll us =>
    obtain ⟨q, ws, rfl, h1, h2⟩ := h
    rw [inn1_ll h1] at hq
    exact ⟨q, ws, rfl, by rw [hq q List.mem_cons_self]; exact h1, h2.frz xb fun z hz => hq z (List.mem_cons_of_mem _ hz)⟩
  | dl us =>
    obtain ⟨q, ws, rfl, h1, h2⟩ := h
    rw [inn1_dl h1] at hq
    exact ⟨q, ws, rfl, .inl (by rw [hq q List.mem_cons_self]; exact h1), h2.frz xb fun z hz => hq z (List.mem_cons_of_mem _ hz)⟩
  | dn us => obtain ⟨q, ws, rfl, h1, h2⟩ := h; exact ⟨q, ws, rfl, (((h1.upG fun _ _ z => xb.t z).at (hq q List.mem_cons_self)).m fun _ _ z => z).rd, RepN.mono xb _ _ h2⟩
theorem FsOk.frz {B B' H : Hp} (xb : Ex B B') : ∀ {fs : List (Str × Fld)} {ws : List (Str × V)}, (∀ q ∈ inn H fs ws, B' q = H q) → FsOk K B H fs ws → RepF K B' (fsU fs) ws
  | [], _, _, h => h
  | (k, f) :: fs, _, hq, h => by
    obtain ⟨v, r, rfl, h1, h2⟩ := h
    exact ⟨v, r, rfl, h1.frz xb fun q hm => hq q (List.mem_append_left _ hm), FsOk.frz xb (fun q hm => hq q (List.mem_append_right _ hm)) h2⟩
end Sg
set_option Elab.async false
set_option linter.all false
set_option maxRecDepth 100000
set_option maxHeartbeats 4000000
namespace Sg
open PySem L2
variable {K : PySem.W.Frag}
inductive COG where
  | val (u : U) (cs : List Slot)
  | ex (e : Exn) (cs : List Slot)
def Slot.withFlag (b : Bool) : Slot → Slot
  | .cel _ us => .cel b us
  | .celD _ us => .celD b us
  | .obj _ c fs => .obj b c fs
  | .fld _ fl => .fld b fl
  | s => s
def Slot.kd : Slot → Nat
  | .obj _ _ _ => 1
  | .fld _ _ => 2
  | _ => 0
def unownG (s : Slot) : Slot := s.withFlag false
def owA (H : Hp) (as : List Slot) (vs : List V) : List Addr := (List.range as.length).flatMap fun i => match as[i]? with
  | some s => s.ow H vs[i]?
  | none => []
def owO (H : Hp) (as : List Slot) (vs : List V) : List Addr := (List.range as.length).flatMap fun i => match as[i]? with
  | some s => if s.kd = 1 then s.ow H vs[i]? else []
  | none => []
abbrev fcG (B H : Hp) (as : List Slot) (vs : List V) (S : St) (X : List (Addr × HO)) : Fc := ⟨B, H, owA H as vs, X, S, owO H as vs⟩
structure ArgsG (K : PySem.W.Frag) (B H : Hp) (as : List Slot) (vs : List V) : Prop where
  len : vs.length = as.length
  ok : ∀ (i : Nat) s, as[i]? = some s → SlotOk K (fcG B H as vs [] []) B H (unownG s) vs[i]?
  ds : ∀ (i j : Nat) s t p, i ≠ j → as[i]? = some s → as[j]? = some t → p ∈ s.ow H vs[i]? → p ∈ t.ow H vs[j]? → False
  one : ∀ (i j : Nat) s t, as[i]? = some s → as[j]? = some t → s.kd = t.kd → s.kd ≠ 0 → i = j
structure AfterG (K : PySem.W.Frag) (B H : Hp) (as : List Slot) (vs : List V) (B' H' : Hp) (cs : List Slot) : Prop where
  len : cs.length = as.length
  ok : ∀ (i : Nat) s c, as[i]? = some s → cs[i]? = some c → (s.isC = false ∧ c = .non) ∨ (s.isC = true ∧ c.lent = true ∧ c.kd = s.kd ∧ SlotOk K (fcG B H as vs [] []) B' H' c vs[i]?)
  ds : ∀ (i j : Nat) s t p, i ≠ j → cs[i]? = some s → cs[j]? = some t → p ∈ s.ow H' vs[i]? → p ∈ t.ow H' vs[j]? → False
def FinG (K : PySem.W.Frag) (B H : Hp) (as : List Slot) (vs : List V) (Q : VK) (E : XK) : COG → Prop
  | .val u cs => ∀ v B' H', Go (owA H as vs) B H B' H' → AfterG K B H as vs B' H' cs → Rep K B' u v → Q v H'
  | .ex e cs => ∀ cls d B' H', Go (owA H as vs) B H B' H' → AfterG K B H as vs B' H' cs → XRelC K H e cls d H' → E cls d H'
def spG (K : PySem.W.Frag) (n : Nat) (mf : List Slot → Option COG) : Sp := fun vs H Q E => ∃ (B : Hp) (as : List Slot) (o : COG), Ex B H ∧ as.length = n ∧ ArgsG K B H as vs ∧ mf as = some o ∧ FinG K B H as vs Q E o
end Sg
set_option Elab.async false
set_option linter.all false
set_option maxRecDepth 100000
set_option maxHeartbeats 4000000
namespace Sg
open PySem L2
variable {K : PySem.W.Frag}
abbrev MTabG := List (Str × (List Slot → Option COG))
structure CalMG (P : Program) (w : World) (K : PySem.W.Frag) (mg : Str → Option Value) (base : Heap) (k : Nat) (c m : Str) (n : Nat) (mf : List Slot → Option COG) : Prop where
  cls : Cls K (He.ga K c)
  ok : ∃ f, Meth K (He.ga K c) m f ∧ FnR P w K mg base (L2.CX P w) k f (spG K n mf)
section
variable {P : Program} {w : World} {mg : Str → Option Value} {base : Heap} {k n : Nat} {c m : Str} {mf : List Slot → Option COG} {tab : MTabG}
theorem FnR.mono {CX : CXT} {j : Nat} {f : Addr} {sp : Sp} (F : FnR P w K mg base CX j f sp) (l : j ≤ k) : FnR P w K mg base CX k f sp := fun A outer s H us vs Q E hr => F A outer s H us vs Q E (hr.mono l)
theorem CalMG.mono {j : Nat} (h : CalMG P w K mg base j c m n mf) (l : j ≤ k) : CalMG P w K mg base k c m n mf := by
  obtain ⟨a, f, b, d⟩ := h
  exact ⟨a, f, b, d.mono l⟩
end
theorem FsOk.none {B H : Hp} {m : Str} : ∀ {fs : List (Str × Fld)} {ws : List (Str × V)}, FsOk K B H fs ws → fs.lookup m = none → ws.lookup m = none
  | [], _, h, _ => by cases h; rfl
  | (k, u) :: us, _, h, e => by
    obtain ⟨v, r, rfl, _, h2⟩ := h
    rw [List.lookup_cons] at e ⊢
    cases c : m == k with
    | true => rw [c] at e; cases e
    | false => rw [c] at e; exact FsOk.none h2 e
structure NewO (K : PySem.W.Frag) (F : Fc) (ρ : Env) (σ : St) (B H : Hp) (c : Str) (fs : List (Str × Fld)) (p dx : Addr) (ws : List (Str × V)) : Prop where
  h : H p = some (.ins (He.ga K c) dx ws)
  f : FsOk K B H fs ws
  nd : (p :: inn H fs ws).Nodup
  al : ∀ q ∈ p :: inn H fs ws, B q = none ∧ F.H0 q = none
  nc : ∀ (j : Nat) s q, ρ[j]? = some s → q ∈ s.ow H (σ.getD j none) → q ∉ p :: inn H fs ws
  nx : ∀ q o, q ∈ p :: inn H fs ws → (q, o) ∉ F.X
theorem NewO.set {F : Fc} {ρ : Env} {σ : St} {B H : Hp} {c : Str} {fs : List (Str × Fld)} {p dx : Addr} {ws : List (Str × V)} (N : NewO K F ρ σ B H c fs p dx ws) (R : Rel K F ρ σ B H) (i : Nat) : Rel K F (ρ.set i (.obj true c fs)) (σ.set i (some (.ref p))) B H := by
  have how : (Slot.obj true c fs).ow H (some (.ref p)) = p :: inn H fs ws := by show p :: inn H fs (insW (H p)) = _; rw [N.h]; rfl
  refine R.setG (by simp) (fun j ne => getD_set_ne ne) (fun hi => ?_) (fun hi j s q ne e hq hq2 => ?_) (fun hi q o hq => ?_)
  · rw [getD_set hi, if_pos rfl]
    exact ⟨p, dx, ws, rfl, N.h, N.f, N.nd, N.al⟩
  · rw [getD_set hi, if_pos rfl, how] at hq2
    exact N.nc j s q e hq hq2
  · rw [getD_set hi, if_pos rfl, how] at hq
    exact N.nx q o hq
section
open PyProof.Rows
end
end Sg
set_option Elab.async false
set_option linter.all false
set_option maxRecDepth 100000
set_option maxHeartbeats 4000000
namespace Sg
open PySem L2
variable {K : PySem.W.Frag}
section
variable {B H : Hp}
theorem LsOk.len : ∀ {uss : List (List U)} {ws : List V}, LsOk K B H uss ws → ws.length = uss.length
  | [], _, h => by cases h; rfl
  | us :: uss, _, h => by
    obtain ⟨q, vs, r, rfl, _, _, h3⟩ := h
    simp [LsOk.len h3]
theorem LsOk.get : ∀ {uss : List (List U)} {ws : List V} {k : Nat} {us : List U}, LsOk K B H uss ws → uss[k]? = some us → ∃ q vs, ws[k]? = some (.ref q) ∧ H q = some (.lst vs) ∧ RepL K B us vs ∧ q ∈ ws.flatMap adV
  | [], _, _, _, _, e => by simp at e
  | us :: uss, _, 0, _, h, e => by
    obtain ⟨q, vs, r, rfl, h1, h2, h3⟩ := h
    cases e
    exact ⟨q, vs, rfl, h1, h2, List.mem_cons_self⟩
  | us :: uss, _, k + 1, _, h, e => by
    obtain ⟨q, vs, r, rfl, h1, h2, h3⟩ := h
    obtain ⟨z, zs, y1, y2, y3, y4⟩ := LsOk.get (k := k) h3 (by simpa using e)
    exact ⟨z, zs, by simpa using y1, y2, y3, List.mem_cons_of_mem _ y4⟩
end
section
open PyProof.Rows
end
end Sg
set_option Elab.async false
set_option linter.all false
set_option maxRecDepth 100000
set_option maxHeartbeats 4000000
namespace Sg
open PySem L2
end Sg
set_option Elab.async false
set_option linter.all false
set_option maxRecDepth 100000
set_option maxHeartbeats 1000000
namespace Sg
open PySem L2 PySem.Spec PyProof.Rows
end Sg
set_option Elab.async false
set_option linter.all false
set_option maxRecDepth 100000
set_option maxHeartbeats 4000000
namespace Sg
open PySem L2 PySem.Spec PyProof.Rows
end Sg
set_option Elab.async false
set_option linter.all false
set_option maxRecDepth 100000
set_option maxHeartbeats 1000000
namespace Sg
open PySem L2 PySem.Spec PyProof.Rows
end Sg
set_option Elab.async false
set_option linter.all false
set_option maxRecDepth 100000
set_option maxHeartbeats 1000000
namespace Sg
open PySem L2 PySem.Spec PyProof.Rows
end Sg
set_option Elab.async false
set_option linter.all false
set_option maxRecDepth 100000
set_option maxHeartbeats 4000000
namespace PySem.W
open PySem PySem.Spec PySem.Calls PyProof.Rows
end PySem.W
namespace Sg
open PySem L2 PySem.Spec PyProof.Rows
end Sg
set_option Elab.async false
set_option linter.all false
set_option maxRecDepth 100000
set_option maxHeartbeats 2000000
namespace Sg
open PySem L2 PySem.Spec PyProof.Rows
variable {K : PySem.W.Frag}
def oexB (K : PySem.W.Frag) (C : Addr) : Bool := match K.lookup C with
  | some ⟨.type "type", _, .cls cd, sl⟩ => (match cd.mro, sl.toList with
    | .ref C1 :: bm, [_, _, _, _, some (.builtin n), _] => C1 == C && (n == "ValueError.__new__" && (!cd.hasDel && (cd.hasDict && PySem.HandSPX.refsVE bm)))
    | _, _ => false)
  | _ => false
theorem oexB_cls {C : Addr} (q : oexB K C = true) : ∃ nm q N bs bm sn sub ab col dd k0 k1 k2 k3 k5, K.lookup C = some (excClassObj nm q C N bs bm true sn sub ab col dd k0 k1 k2 k3 k5 "ValueError.__new__") ∧ PySem.HandSPX.refsVE bm = true := by
  unfold oexB at q
  split at q
  · rename_i dd cd sl ho
    split at q
    · rename_i C1 bm k0 k1 k2 k3 n k5 hm hs
      simp only [Bool.and_eq_true, beq_iff_eq, Bool.not_eq_true'] at q
      obtain ⟨rfl, rfl, hdel, hdct, hr⟩ := q
      obtain ⟨nm, bs, mro, ns, qn, hd, sn, sub, ab, col, del⟩ := cd
      dsimp only at hm hdel hdct
      subst hm hdel hdct
      have hsl : sl = #[k0, k1, k2, k3, some (.builtin "ValueError.__new__"), k5] := by
        obtain ⟨l⟩ := sl
        simp only at hs
        rw [hs]
      subst hsl
      exact ⟨nm, qn, ns, bs, bm, sn, sub, ab, col, dd, k0, k1, k2, k3, k5, ho, hr⟩
    · cases q
  · cases q
structure XfK (K : PySem.W.Frag) (c f : Str) (fI : Addr) : Prop where
  T : OexC K (He.ga K c)
  iC : PySem.W.findIn K (.ref (He.ga K c)) "__init__" = some (some (.ref fI))
  tI : PySem.W.typeIn K (.ref fI) = some (.type "function")
  no : PySem.W.findIn K (.ref (He.ga K c)) f = some none
open He (ga ma ba eqO eqO_ok) in
def xfkB (K : PySem.W.Frag) (c f : Str) (fI : Addr) : Bool := oexB K (ga K c) && (eqO (PySem.W.findIn K (.ref (ga K c)) "__setattr__") (some (some (.builtin "object.__setattr__"))) && (decide (PySem.W.subIn K (.ref (ga K c)) (.type "BaseException") = some true) && (decide (PySem.W.typeIn K (.ref (ga K c)) = some (.type "type")) &&
  (PySem.W.keepIn K (.ref (ga K c)) && (eqO (PySem.W.findIn K (.ref (ga K c)) "__init__") (some (some (.ref fI))) && (decide (PySem.W.typeIn K (.ref fI) = some (.type "function")) && eqO (PySem.W.findIn K (.ref (ga K c)) f) (some none)))))))
open He (ga ma ba eqO eqO_ok) in
theorem xfkB_ok {c f : Str} {fI : Addr} (h : xfkB K c f fI = true) : XfK K c f fI := by
  obtain ⟨h1, h⟩ := ba h
  obtain ⟨h2, h⟩ := ba h
  obtain ⟨h3, h⟩ := ba h
  obtain ⟨h4, h⟩ := ba h
  obtain ⟨h5, h⟩ := ba h
  obtain ⟨h6, h⟩ := ba h
  obtain ⟨h7, h8⟩ := ba h
  exact ⟨⟨oexB_cls h1, eqO_ok h2, of_decide_eq_true h3, of_decide_eq_true h4, h5⟩, eqO_ok h6, of_decide_eq_true h7, eqO_ok h8⟩
structure XfB (K : PySem.W.Frag) (c0 : Str) : Prop where
  sp : PySem.W.specialIn K (.ref (He.ga K c0)) "__getattribute__" = some (some (.builtin "type.__getattribute__"))
  rd : PySem.W.readsIn K (He.ga K c0) (.type "type") = true
  vi : PySem.W.findCls K (.ref (He.ga K c0)) (.type "type") "__init__" = some (.val (.builtin "ValueError.__init__"))
section
variable {X : Cx} {o e : Expr} {es : List Expr} {to te : TE} {ta : TA} {f c0 : Str} {p p' p1 p2 pos : Pos}
theorem pe_exinit {pl : Sem Bool} (B : XfB X.K c0) (hg : Gl X c0) (hm : X.mg c0 = some (.ref (He.ga X.K c0))) (ha : PA X (e :: es) ta) (hdb : (c0 == ("__debug__" : Str)) = false := by decide)
    (hc : eval (.Call (.Attribute (.Name c0 p1) "__init__" p2) (e :: es) [] pos) X.env = (do
      let ov ← eval (.Name c0 p1) X.env
      standAt p2.atName
      let (f, first) ← holding [ov] (getMethod ov "__init__" pl)
      callWith pos f first (backTo pos (starEach (e :: es) X.env)) (backToKw pos (keywordEach [] X.env))) := by rfl)
    (he : starEach (e :: es) X.env = (false, eval e X.env) :: starEach es X.env := by rfl) (hpl : (backTo pos (starEach es X.env)).any (·.1) = false := by rfl) :
    PE X (.Call (.Attribute (.Name c0 p1) "__init__" p2) (e :: es) [] pos) (tVeI X.K ta) := by
  refine ⟨fun pins s σ H Q I h => ?_⟩
  refine PySem.W.methodCall_KW (ld_glob I hg hm ?_ hdb) hc
  refine PySem.W.method_cls I.kIn B.sp (PySem.W.cls_value I.kIn B.rd B.vi rfl ?_)
  show wpAny _ _ (callWith pos (Value.builtin "ValueError.__init__") [] (backTo pos (starEach (e :: es) X.env)) []) _ _ _
  refine PyProof.Rows.callWith_method1 (thn (ha.run pos pins _ σ H _ (I.tok _) h) fun us s1 ⟨vs, H1, I1, r1, a, C, ws, ev, hl, T, ea, q⟩ => ?_) he hpl
  subst ev
  cases r1 with
  | @cons _ u0 _ ur ra rw' =>
    obtain rfl : u0 = Value.ref a := ra
    have hlen : ur.length ≤ sizeLine := by
      rw [← Paired.length rw', sizeLine_eq]
      omega
    exact oinit_ok T I1 ea hlen fun s' J => ⟨.non, H1, J, rfl, q⟩
end
def spXi (K : PySem.W.Frag) (c f : Str) : Sp := fun vs H Q _ => ∃ (a : Addr) (y : V), vs = [.ref a, y] ∧ OexC K (He.ga K c) ∧ PySem.W.findIn K (.ref (He.ga K c)) f = some none ∧ H a = some (exo a (He.ga K c) none) ∧
  ∀ dx, H dx = none → dx ≠ a → Q .non (upd (upd H dx (exd dx [(f, y)])) a (exo a (He.ga K c) (some dx)))
end Sg
set_option Elab.async false
set_option linter.all false
set_option maxRecDepth 100000
set_option maxHeartbeats 2000000
namespace Sg
open PySem L2 PySem.Spec PyProof.Rows
variable {K : PySem.W.Frag}
def tXi (K : PySem.W.Frag) (f txt : Str) : TS := tSeq (tDrop (tVeI K (tCons (tVar 0) (tCons (tC (.str txt)) tNil)))) (tOst K f (tVar 0) (tVar 1))
section
variable {P : Program} {w : World} {mg : Str → Option Value} {base : Heap}
theorem xi_fn {c f txt x qual p : Str} {st : Stmt} {fI : Addr} {fd : FuncData} {k : Nat} (F : Fun K x qual st fI fd) (S : FnScope ["self", p] ["self", p] (defScope st))
    (d : ∀ (cdv : Value) (A : Around) (outer : List PySem.Env) (s : Shared) (H : Hp) (E : XK), Room k (A.deeper (PyProof.Rows.envOfC qual (defScope st) s.heap.objs.size fI cdv)) → PSs (cxOf CX0 P w K mg base ["self", p] qual (defScope st) fI cdv A outer s H E).nox (defBody st) (tXi K f txt)) :
    FnOk P w K mg base CX0 (k + 1) fI fd ["self", p] (spXi K c f) := by
  refine F.ok S (fun vs H Q E h => by obtain ⟨a, y, rfl, _⟩ := h; rfl) fun cdv A outer s H vs Q E hr h => ⟨tXi K f txt, d cdv A outer s H E hr, ?_⟩
  obtain ⟨a, y, rfl, T, no, ea, h⟩ := h
  refine ⟨.ref a, rfl, a, He.ga K c, [.str txt], rfl, by simp, T, ea, ?_⟩
  refine ⟨y, rfl, .ref a, rfl, a, He.ga K c, rfl, T, no, .inl ⟨ea, fun dx hd ne => h dx hd ne⟩⟩
end
def msRaiseF (c f : Str) (a : ME K) : MS K where
  t := fun W D σ H => (OexC K (He.ga K c) ∧ PySem.W.findIn K (.ref (He.ga K c)) f = some none) → tMkO (He.ga K c) (spXi K c f) [] (tCons (a.t W) tNil) σ H fun cls d H' => W cls d σ H'
  m := fun ρ => bindES (a.m ρ) fun u ρ1 => if (scV u).isSome = true then some (.ex ⟨c, some (f, u)⟩ ρ1) else none
  ok := fun F W ρ σ B H D o q R fin => by
    intro hT
    rcases bindES_some q with ⟨u, ρ1, e1, q⟩ | ⟨x, ρ1, e1, rfl⟩
    · split at q
      · rename_i hs
        cases q
        obtain ⟨z, hz⟩ := Option.isSome_iff_exists.mp hs
        refine a.ok F W ρ σ B H _ _ e1 R fun v1 B1 H1 x1 p1 R1 r1 => ?_
        have ev : v1 = z := (scV_rep (B' := H1) hz r1).1
        subst ev
        refine ⟨by simp, fun a0 na => ⟨a0, v1, rfl, hT.1, hT.2, upd_same, fun dx hdx ne => ⟨rfl, dx, [(f, v1)], upd_same, by rw [upd_ne ne]; exact upd_same, ?_, ?_⟩⟩⟩
        · rw [upd_ne ne] at hdx
          exact hdx
        · rw [upd_ne ne] at hdx
          have eH : upd (del (upd (upd (upd H1 a0 (exo a0 (He.ga K c) none)) dx (exd dx [(f, v1)])) a0 (exo a0 (He.ga K c) (some dx))) a0) dx (.xd [(f, v1)]) = upd H1 dx (.xd [(f, v1)]) := by
            funext b
            by_cases hb : b = dx
            · subst hb
              rw [upd_same, upd_same]
            · rw [upd_ne hb, upd_ne hb]
              by_cases hc : b = a0
              · subst hc
                rw [del_same, na]
              · rw [del_ne hc, upd_ne hc, upd_ne hb, upd_ne hc]
          rw [eH]
          have g := Go.newC (o := .xd [(f, v1)]) R1.ex hdx
          exact fin _ _ σ B1 _ x1 (R1.grow g) ⟨⟨rfl, dx, v1, rfl, hz, upd_same, R1.fresh0 hdx⟩, fun d2 e1 o ho => by cases e1; rw [(R1.xx _ _ ho).1] at hdx; cases hdx⟩
      · cases q
    · exact a.ok F W ρ σ B H _ _ e1 R fun cls d B1 H1 x1 R1 xr => fin cls d σ B1 H1 x1 R1 xr
section
variable {X : Cx} {W : WX} {c f : Str} {e : Expr} {A : ME X.K} {p pos : Pos}
theorem sraiseF {CX : CXT} {fI : Addr} {k : Nat} {fd : FuncData} {ps : List Str} (T : XfK X.K c f fI) (F1 : FnOk X.prog X.w X.K X.mg X.base CX k fI fd ps (spXi X.K c f)) (hr : Room (k + 1) X.A) (hb : Binds X.K fd ps []) (hx : Passes CX X (fun _ _ _ => False)) (tk : Takes X W) (hm : X.mg c = some (.ref (He.ga X.K c)))
    (ha : PE X e (A.t W)) (hg : Gl X c := by rfl) (hdb : (c == ("__debug__" : Str)) = false := by decide) (hc : X.calm = true := by rfl)
    (hs : starEach [e] X.env = (false, eval e X.env) :: starEach [] X.env := by rfl) (hpl : (backTo pos (starEach [] X.env)).any (·.1) = false := by rfl) {pos2 : Pos} :
    PS X (.Raise (some (.Call (.Name c p) [e] [] pos)) none pos2) ((msRaiseF c f A).t W) := by
  have z := ps_raise (pos := pos2) hc tk (pmk_oex (sp := spXi X.K c f) (ds := []) (dvs := []) (p := p) (pos := pos) T.T T.iC T.tI F1 hr hb .nil hx hg hm (pa_cons ha pa_nil hs) hdb hs hpl)
  exact ⟨fun pins s σ H D I h => z.run pins s σ H D I (h ⟨T.T, T.no⟩)⟩
end
end Sg
set_option Elab.async false
set_option linter.all false
set_option maxRecDepth 100000
set_option maxHeartbeats 1000000
namespace Sg
open PySem L2 PySem.Spec PyProof.Rows
variable {K : PySem.W.Frag}
theorem msRaiseF_m (c f : Str) (a : ME K) (ρ : Env) : (msRaiseF c f a).m ρ = bindES (a.m ρ) fun u ρ1 => if (scV u).isSome = true then some (.ex ⟨c, some (f, u)⟩ ρ1) else none := rfl
open He (ga ma ba eqO eqO_ok) in
def xfbB (K : PySem.W.Frag) (c0 : Str) : Bool := eqO (PySem.W.specialIn K (.ref (ga K c0)) "__getattribute__") (some (some (.builtin "type.__getattribute__"))) && (PySem.W.readsIn K (ga K c0) (.type "type") &&
  match PySem.W.findCls K (.ref (ga K c0)) (.type "type") "__init__" with
  | some (.val (.builtin n)) => decide (n = "ValueError.__init__")
  | _ => false)
open He (ga ma ba eqO eqO_ok) in
theorem xfbB_ok {c0 : Str} (h : xfbB K c0 = true) : XfB K c0 := by
  obtain ⟨h1, h⟩ := ba h
  obtain ⟨h2, h3⟩ := ba h
  refine ⟨eqO_ok h1, h2, ?_⟩
  split at h3
  · rename_i n e
    rw [of_decide_eq_true h3] at e
    exact e
  · cases h3
section
variable {X : Cx} {c0 f p txt : Str} {p1 p2 p3 p4 p5 p6 p7 p8 p9 p10 : Pos} {j : Nat} {pl : Sem Bool}
theorem xi_body (B : XfB X.K c0) (hm : X.mg c0 = some (.ref (He.ga X.K c0))) (h0 : X.N[0]? = some ("self" : Str) := by rfl) (h1 : X.N[1]? = some p := by rfl) (hg : Gl X c0 := by rfl)
    (v0 : Vis X.env.scope "self" := by first | exact Or.inl rfl | exact Or.inr (Or.inl rfl) | exact Or.inr (Or.inr rfl)) (v1 : Vis X.env.scope p := by first | exact Or.inl rfl | exact Or.inr (Or.inl rfl) | exact Or.inr (Or.inr rfl))
    (hdb : (c0 == ("__debug__" : Str)) = false := by decide) (d1 : (p == ("__debug__" : Str)) = false := by decide) (d2 : (p == ("__classdict__" : Str)) = false := by decide)
    (hc : eval (.Call (.Attribute (.Name c0 p1) "__init__" p2) [.Name "self" p3, .Constant (.str txt) j p4] [] p5) X.env = (do
      let ov ← eval (.Name c0 p1) X.env
      standAt p2.atName
      let (f, first) ← holding [ov] (getMethod ov "__init__" pl)
      callWith p5 f first (backTo p5 (starEach [.Name "self" p3, .Constant (.str txt) j p4] X.env)) (backToKw p5 (keywordEach [] X.env))) := by rfl)
    (hs : swapsWith (.Call (.Attribute (.Name c0 p1) "__init__" p2) [.Name "self" p3, .Constant (.str txt) j p4] [] p5) none p6.line X.env = pure false := by rfl) :
    PSs X [.Expr (.Call (.Attribute (.Name c0 p1) "__init__" p2) [.Name "self" p3, .Constant (.str txt) j p4] [] p5) p6, .Assign [.Attribute (.Name "self" p7) f p8] (.Name p p9) p10] (tXi X.K f txt) :=
  pss_cons (ps_expr (pe_exinit (pl := pl) B hg hm (pa_cons (pe_var h0 v0 (by decide) (by decide)) (pa_cons pe_str pa_nil (by rfl)) (by rfl)) hdb hc (by rfl) (by rfl)) hs) (pss_one (ps_ost (pe_var h0 v0 (by decide) (by decide)) (pe_var h1 v1 d1 d2)))
end
structure CalXE (P : Program) (w : World) (K : PySem.W.Frag) (mg : Str → Option Value) (base : Heap) (k : Nat) (c f : Str) : Prop where
  T : ∃ fI, XfK K c f fI ∧ ∃ fd ps, FnOk P w K mg base CX0 k fI fd ps (spXi K c f) ∧ Binds K fd ps []
  mg_ : mg c = some (.ref (He.ga K c))
theorem srsF {X : Cx} {W : WX} {c f : Str} {e : Expr} {A : ME X.K} {p pos pos2 : Pos} {k : Nat} (C : CalXE X.prog X.w X.K X.mg X.base k c f) (hr : Room (k + 1) X.A) (tk : Takes X W)
    (ha : PE X e (A.t W)) (hg : Gl X c := by rfl) (hdb : (c == ("__debug__" : Str)) = false := by decide) (hc : X.calm = true := by rfl)
    (hs : starEach [e] X.env = (false, eval e X.env) :: starEach [] X.env := by rfl) (hpl : (backTo pos (starEach [] X.env)).any (·.1) = false := by rfl) :
    PS X (.Raise (some (.Call (.Name c p) [e] [] pos)) none pos2) ((msRaiseF c f A).t W) := by
  obtain ⟨fI, T, fd, ps, F1, hb⟩ := C.T
  exact sraiseF T F1 hr hb pass0 tk C.mg_ ha hg hdb hc hs hpl
end Sg
set_option Elab.async false
set_option linter.all false
set_option maxRecDepth 100000
set_option maxHeartbeats 400000
namespace Sg
open PySem L2 PySem.Spec PyProof.Rows
def IteF (K : PySem.W.Frag) (a : Addr) (k : Int) : It :=
  ⟨fun i H => ∃ (xs : List V) (x : V), SqL K H a xs ∧ xs[i]? = some x, fun i H v H' => ∃ T x, v = .ref T ∧ H T = none ∧ H' = upd H T (.tup [.int (k + (i : Int)), x]) ∧ ∀ xs, SqL K H a xs → xs[i]? = some x, fun i H => ∃ xs : List V, SqL K H a xs ∧ xs.length ≤ i⟩
section
variable {prog : Program} {w : World} {A : Around} {E : Value → Shared → Prop} {s : Shared}
theorem wpAny_pyNext_enum_endX {e it a : Addr} {items : Array Value} {i : Nat} {c : Int} {old : Value} {Q : Option Value → Shared → Prop} (hh : A.handled = none) (he : IsEnum s.heap e it c old) (hit : s.heap.IsListIter it a i) (hl : s.heap.IsList a items) (hi : items.size ≤ i)
    (hQ : ∀ h', Heap.ExtBut it s.heap h' → Q none { s with heap := h' }) : wpAny (model prog w) A (pyNext (.ref e)) Q E s := by
  have hT : s.TypeIs (.ref e) "enumerate" := ⟨_, he, rfl⟩
  unfold pyNext
  refine wpAny_bind (wpAny_attempt (wpAny_callSpecial?_slot (name := Str.ofString "__next__") hT F.slot_enumerate_next
    (wpAny_call_entry F.slot_enumerate_next hT F.entry_enumerate_next ?_ (F.args_enumerate_next_1 _))))
  show wpAny _ _ (field (.ref e) 2 >>= _) _ _ _
  refine wpAny_bind (wpAny_field he rfl (x := .ref it) rfl ?_)
  refine wpAny_bind (wpAny_nextOf_list_end (A := A.in1) hh hit hl (Array.getElem?_eq_none hi) fun h' x he' hx' => ?_)
  obtain ⟨o, ho, hc⟩ := hx'
  refine wpAny_bind (wpAny_isInstance (T := "StopIteration") (b := true) ⟨o, ho, hc⟩ isSubtype_stop ?_)
  exact wpAny_pure (hQ _ he')
end
theorem turn_enumF {P : Program} {w : World} {K : PySem.W.Frag} {elts : List Expr} {kk : Nat} {tpos : Pos} (a e it : Addr) (k : Int) :
    Turn P w K (.Tuple elts kk tpos) (IteF K a k) [e, it] e (fun i h => (∃ old, IsEnum h e it (k + ((i : Nat) : Int)) old) ∧ h.IsListIter it a i ∧ e ≠ it) where
  mem := by simp
  obj := fun i h st b hb => by
    obtain ⟨⟨old, he⟩, ⟨o, ho, hc, hd⟩, _⟩ := st
    have e' : b = e ∨ b = it := by simpa using hb
    rcases e' with z | z
    · rw [z]; exact ⟨_, he, fun v q => nomatch q⟩
    · rw [z]; exact ⟨o, ho, fun v q => by rw [hd] at q; cases q⟩
  keep := fun i h h' st k => let ⟨⟨old, he⟩, hi, hne⟩ := st; ⟨⟨old, k e (by simp) _ he⟩, hi.at fun o q => k it (by simp) o q, hne⟩
  item := by
    intro X hP hw hK hc i pins s σ H E I hf st hg
    subst hP hw hK
    obtain ⟨⟨old, he⟩, hit, hne⟩ := st
    obtain ⟨xs, x, hq, hx⟩ := hg
    obtain ⟨its, rv, p, hz⟩ := I.list hq
    obtain ⟨u, hu, ru⟩ := rv.get hx
    have hel : e < s.heap.objs.size := Heap.lt_size he
    have hil : it < s.heap.objs.size := by obtain ⟨_, q, _⟩ := hit; exact Heap.lt_size q
    have hL := p.isList
    have nea : e ≠ a := fun z => by
      obtain ⟨o, ho, hc1, _⟩ := hL
      rw [← z, he] at ho
      cases ho
      exact absurd hc1 (by simp)
    have nia : a ≠ it := fun z => by
      obtain ⟨o, ho, hc1, _⟩ := hL
      obtain ⟨o2, ho2, hc2, _⟩ := hit
      rw [z, ho2] at ho
      cases ho
      rw [hc2] at hc1
      exact absurd hc1 (by simp)
    have D := Draws.list (prog := X.prog) (w := X.w) (A := X.A.in1) (I.ok.hd hc) it a nia its.toArray
    refine wpAny_pyNext_enum_itemC D he ⟨hit, hL⟩ (by rw [List.size_toArray]; exact (List.getElem?_eq_some_iff.mp hu).1) hne (by simp [hne, nea]) fun y h' tk hy ho hst hT hsz hk => ?_
    have ey : y = u := by
      have : its.toArray[i]? = some y := hy
      rw [List.getElem?_toArray, hu] at this
      cases this
      rfl
    subst ey
    refine ⟨_, rfl, wpAny_letOwnedTupleGo_enum (s := { s with heap := h', toks := tk + 1 }) ho fun h'' he' sb => ?_⟩
    have hT2 : h''.get? s.heap.objs.size = some { cls := .type "tuple", data := .seq #[.int (k + (i : Int)) tk, y] } := (sb.2 _ (Nat.ne_of_gt hel)).trans hT
    have new : ObjOk X.prog X.w (upd H s.heap.objs.size (.tup [.int (k + (i : Int)), x])) h'' s.heap.objs.size (.tup [.int (k + (i : Int)), x]) :=
      ⟨by show 2 ≤ sizeLine; decide, [.int (k + (i : Int)) tk, y], .cons ⟨_, rfl⟩ (.cons ru .nil), ⟨_, hT2, rfl, _, rfl⟩⟩
    have I1 : Inv X pins σ (upd H s.heap.objs.size (.tup [.int (k + (i : Int)), x])) { s with heap := h'', toks := tk + 1 } :=
      I.turnedNew (ch := [e, it]) (fun b ob hb q => (sb.2 b (fun z => hb (by simp [z]))).trans (hk b ob (fun z => hb (by simp [z])) (fun z => hb (by simp [z])) q)) hf (Nat.le_refl _) new
    refine ⟨.ref s.heap.objs.size, _, I1, rfl, ⟨_, x, rfl, I.hok.fresh (Nat.le_refl _), rfl, fun ys hy => by rw [I.list_inj hy hq]; exact hx⟩, ⟨⟨y, ?_⟩, hst.1.at fun o q => (sb.2 it (Ne.symm hne)).trans q, hne⟩, fun b hb => ?_⟩
    · have e1 : k + ((i + 1 : Nat) : Int) = k + (i : Int) + 1 := by omega
      rw [e1]; exact he'
    · have hb' : b < s.heap.objs.size := by
        have e' : b = e ∨ b = it := by simpa using hb
        rcases e' with z | z
        · rw [z]; exact hel
        · rw [z]; exact hil
      rw [upd_ne (Nat.ne_of_lt hb')]
      exact (hf b hb).1
  done := by
    intro X hP hw hK hc i pins s σ H E I hf st hg
    subst hP hw hK
    obtain ⟨⟨old, he⟩, hit, hne⟩ := st
    obtain ⟨xs, hq, hx⟩ := hg
    obtain ⟨its, rv, p, hz⟩ := I.list hq
    obtain ⟨f0, f1, f2, f3, f4, f5⟩ := hf it (by simp)
    have hl := rv.length
    have hL := p.isList
    have nia : a ≠ it := fun z => by
      obtain ⟨o, ho, hc1, _⟩ := hL
      obtain ⟨o2, ho2, hc2, _⟩ := hit
      rw [z, ho2] at ho
      cases ho
      rw [hc2] at hc1
      exact absurd hc1 (by simp)
    refine wpAny_pyNext_enum_endX (I.ok.hd hc) he hit hL (by simp; omega) fun h' eb => ⟨rfl, I.turned (t' := s.toks) (fun b o hb q => eb b o hb q) f0 f1 f3 f4 f5⟩
  self := fun A i s Q E st h => let ⟨⟨_, he⟩, _⟩ := st; wpAny_pyIter_enum he h
def iEnumF (K : PySem.W.Frag) (ta : TA) : TI := fun σ H R => ta σ H fun vs H1 => ∃ a xs k, vs = [.ref a, .int k] ∧ (-(2 ^ 63) ≤ k ∧ k < 2 ^ 63) ∧ SqL K H1 a xs ∧ R (IteF K a k) H1
theorem pi_enumF {X : Cx} {e e2 : Expr} {ta : TA} {p pos tpos : Pos} {elts : List Expr} {kk : Nat} (hg : Gl X "enumerate") (hm : X.mg "enumerate" = none) (ha : PA X [e, e2] ta) (hs : starEach [e, e2] X.env = (false, eval e X.env) :: starEach [e2] X.env := by rfl) (hpl : (backTo pos (starEach [e2] X.env)).any (·.1) = false := by rfl) :
    PI X (.Tuple elts kk tpos) (.Call (.Name "enumerate" p) [e, e2] [] pos) (iEnumF X.K ta) := by
  refine ⟨fun pins s σ H R I h => ?_⟩
  refine Call_ (ld_blt I hg hm boot_enumerate (PyProof.Rows.callWith_type1 (thn (ha.run pos pins s σ H _ I h) fun us s1 ⟨vs, H1, I1, r1, q1⟩ => ?_) hs hpl))
  obtain ⟨a, xs, k, ex, ⟨hk0, hk1⟩, hq, q⟩ := q1
  subst ex
  obtain ⟨u1, u2, rfl, r, r2⟩ := vals2 r1
  cases r
  obtain ⟨tk, rfl⟩ := r2
  obtain ⟨its, rv, p', hz⟩ := I1.list hq
  refine enum_begins (begins_list a its.toArray) p'.isList hk0 hk1 fun h' he hgo hsz hk => wpAny_pyIter_enum he ?_
  have hit : h'.IsListIter s1.heap.objs.size a 0 := ⟨_, hgo, rfl, rfl⟩
  have I2 : Inv X pins σ H1 { s1 with heap := h' } := I1.kept (t' := s1.toks) hk
  have he0 : IsEnum h' (s1.heap.objs.size + 1) s1.heap.objs.size (k + ((0 : Nat) : Int)) .none := by
    rw [show k + ((0 : Nat) : Int) = k by simp]
    exact he
  refine ⟨s1.heap.objs.size + 1, [s1.heap.objs.size + 1, s1.heap.objs.size], _, _, H1, rfl, I2, turn_enumF a (s1.heap.objs.size + 1) s1.heap.objs.size k, ⟨⟨.none, he0⟩, hit, Nat.succ_ne_self _⟩, fun b hb => ?_, q⟩
  have e' : b = s1.heap.objs.size + 1 ∨ b = s1.heap.objs.size := by simpa using hb
  have hle : s1.heap.objs.size ≤ b := by
    rcases e' with z | z
    · rw [z]; exact Nat.le_add_right _ _
    · rw [z]; exact Nat.le_refl _
  exact I1.fpOk hle (I1.hok.fresh hle)
def gStar (K : PySem.W.Frag) (i j : Nat) : TG := fun v σ H Q => ∃ a y ys, v = .ref a ∧ SqL K H a (y :: ys) ∧ ys.length ≤ 16383 ∧ ∀ q, H q = none → Q ((σ.set i (some y)).set j (some (.ref q))) (upd H q (.lst ys))
theorem pg_star {X : Cx} {x1 x2 : Str} {k : Nat} {p1 p2 p3 pos : Pos} {i j : Nat} (hc : X.calm = true) (hN : X.N.Nodup) (hi : X.N[i]? = some x1) (hj : X.N[j]? = some x2) (h1 : Loc X.env.scope x1) (h2 : Loc X.env.scope x2)
    (f1 : X.fn x1 = true ∨ X.env.scope.names.lookup x1 = some .local) (f2 : X.fn x2 = true ∨ X.env.scope.names.lookup x2 = some .local)
    (ea : assignEach [.Name x1 p1, .Starred (.Name x2 p2) p3] X.env = [(false, assign (.Name x1 p1) X.env), (true, assign (.Name x2 p2) X.env)] := by rfl) :
    PG X (.Tuple [.Name x1 p1, .Starred (.Name x2 p2) p3] k pos) (gStar X.K i j) := by
  refine ⟨fun pins s σ H v u Q I r hw => ?_⟩
  obtain ⟨a, y, ys, e1, hq, hl, hw⟩ := hw
  subst e1
  cases r
  obtain ⟨its, rv, pl, hz⟩ := I.list hq
  cases rv with
  | @cons _ u1 _ ur r1 rr =>
    have hL := pl.isList
    have hll : a < s.heap.objs.size := by obtain ⟨o, ho, _⟩ := hL; exact Heap.lt_size ho
    have hlt : a ≠ s.heap.objs.size := Nat.ne_of_lt hll
    have hur : ur.length = ys.length := rr.length.symm
    rw [PyProof.Rows.assign_Tuple]
    refine wpAny_bind (wpAny_standAt ?_)
    unfold unpack
    rw [ea]
    show wpAny _ _ (holding [.ref a] (unpackItems (.ref a) 2 (some 1)) >>= _) _ _ _
    refine wpAny_bind (wpAny_holding ?_)
    unfold unpackItems
    refine wpAny_bind ?_
    unfold notIterableAtAll
    refine wpAny_bind (wpAny_specialOf hL.typeIs slot_list_iter.lookup ?_)
    refine wpAny_pure ?_
    simp only [Bool.false_eq_true, if_false]
    refine wpAny_bind (wpAny_holding (wpAny_pyIter_list hL ?_))
    refine wpAny_bind (wpAny_holding (PySem.W.kun_draw hlt 1 0 _ _ ⟨_, Heap.get?_push_size _ rfl, rfl, rfl⟩ (hL.push _) (by simp) fun h₁ hit₁ hs₁ => ?_))
    have hl₁ : h₁.IsList a (u1 :: ur).toArray := (hL.push _).extBut hs₁.extBut hlt
    rw [Nat.zero_add] at hit₁
    have hit₁' := hit₁
    obtain ⟨oi, hoi, _⟩ := hit₁'
    have hl₁' := hl₁
    obtain ⟨ol, hol, _⟩ := hl₁'
    rw [List.drop_zero]
    rw [if_neg (show ¬ (((u1 :: ur).toArray.toList.take 1).length < 1) by simp)]
    refine wpAny_bind (wpAny_holding (PySem.W.kun_collect (s := { s with heap := h₁ }) (T := "list_iterator") (.inr (.inr (.inl rfl))) (Walks.list (A := X.A.in1) (I.ok.hd hc) s.heap.objs.size a hlt (u1 :: ur).toArray) (fun j u st => st.1.typeIs) (k := 1) (by simp) ⟨hit₁, hl₁⟩ (Heap.lt_size hoi) (Heap.lt_size hol) (fun h₂ tk hk => ?_) (by rw [sizeLine_eq]; simp; omega)))
    show wpAny _ _ (if ((u1 :: ur).toArray.toList.drop 1).length < 2 - 1 - 1 then _ else _) _ _ _
    rw [if_neg (by simp)]
    have ed : (u1 :: ur).toArray.toList.drop 1 = ur := rfl
    have et : (u1 :: ur).toArray.toList.take 1 = [u1] := rfl
    rw [ed, et]
    show wpAny _ _ (newList (ur.take (ur.length - (2 - 1 - 1))) >>= fun d => pure ([u1] ++ [d] ++ ur.drop (ur.length - (2 - 1 - 1)))) _ _ _
    have e0 : ur.length - (2 - 1 - 1) = ur.length := by omega
    rw [e0, List.take_length, List.drop_length]
    have he : ∀ b o, s.heap.get? b = some o → h₂.get? b = some o := fun b o e => by
      have hb : b ≠ s.heap.objs.size := Nat.ne_of_lt (Heap.lt_size e)
      exact hk b o hb (hs₁.extBut b o hb (Heap.get?_push_of_some _ e))
    have I2 : Inv X pins σ H { s with heap := h₂, toks := tk } := I.kept (t' := tk) he
    refine wpAny_bind (wpAny_newList ?_ (by rw [sizeLine_eq]; omega))
    refine wpAny_pure ?_
    have hh : h₂.objs.size = (⟨h₂, s.gens, s.drawn, tk, s.os⟩ : Shared).heap.objs.size := rfl
    have hf : H h₂.objs.size = none := I2.hok.fresh (Nat.le_refl _)
    have I3 : Inv X pins σ (upd H h₂.objs.size (.lst ys)) { s with heap := h₂.push { cls := .type "list", data := .seq ur.toArray }, toks := tk } :=
      I2.laid (t' := tk) (fun b u e => Heap.get?_push_of_some _ e) (Nat.le_refl _) ⟨by rw [sizeLine_eq]; omega, ur, 0, rr, Heap.get?_push_size _ rfl⟩
    show wpAny _ _ (assignInOrder [assign (.Name x1 p1) X.env, assign (.Name x2 p2) X.env] [u1, .ref h₂.objs.size]) _ _ _
    refine wpAny_assignInOrder_more ?_
    refine wpAny_assign_Name (store_ok I3 hN hi h1 r1 (fun s4 I4 => ?_) f1)
    refine wpAny_assignInOrder_more ?_
    exact wpAny_assign_Name (store_ok I4 hN hj h2 (v := .ref h₂.objs.size) rfl (fun s5 I5 => wpAny_assignInOrder_none ⟨_, _, I5, hw _ hf⟩) f2)
theorem itemsOf_n {prog : Program} {w : World} {A : Around} {E : Value → Shared → Prop} {s : Shared} {l : Addr} {items : Array Value} {n : Nat} {Q : List Value → Shared → Prop} (hh : A.handled = none) (hl : s.heap.IsList l items) (hn : items.size = n)
    (hQ : ∀ h', Heap.ExtBut s.heap.objs.size s.heap h' → Q items.toList { s with heap := h' }) : wpAny (model prog w) A (unpackItems (.ref l) n none) Q E s := by
  subst hn
  exact PySem.W.kun_itemsOf hh hl hQ
theorem seq_hit {prog : Program} {w : World} {A : Around} {E : Value → Shared → Prop} {s : Shared} {ps : List Pattern} {pos : Pos} {env : PySem.Env} {a : Addr} {its : List Value} {n : Nat} {Q : Option (List (Str × Value)) → Shared → Prop} (hh : A.handled = none)
    (hL : s.heap.IsList a its.toArray) (hsz : (its.toArray.size : Int) < 2 ^ 63) (hp : ps.length = n) (hn : its.length = n)
    (h : ∀ h', Heap.ExtBut s.heap.objs.size s.heap h' → wpAny (model prog w) A (matchEach ps env its) Q E { s with heap := h', toks := s.toks + 1 + 1 })
    (hstar : ps.findIdx? (·.isStar) = none) (hwild : (ps.all fun p => p.isWildcard || (p.isStar && p.names.isEmpty)) = false) :
    wpAny (model prog w) A (matchPattern (.MatchSequence ps pos) env (.ref a)) Q E s := by
  refine matchSeq_list_hit hL hsz (by rw [List.size_toArray, hn, hp]) ?_ hstar hwild
  exact itemsOf_n (s := { s with toks := s.toks + 1 + 1 }) hh hL (by rw [List.size_toArray, hn, hp]) fun h' hx => h h' hx
theorem seq_miss {prog : Program} {w : World} {A : Around} {E : Value → Shared → Prop} {s : Shared} {ps : List Pattern} {pos : Pos} {env : PySem.Env} {a : Addr} {its : List Value} {n : Nat} {Q : Option (List (Str × Value)) → Shared → Prop}
    (hL : s.heap.IsList a its.toArray) (hsz : (its.toArray.size : Int) < 2 ^ 63) (hp : ps.length = n) (hn : its.length ≠ n) (h : Q none { s with toks := s.toks + 1 + 1 })
    (hstar : ps.findIdx? (·.isStar) = none) (hwild : (ps.all fun p => p.isWildcard || (p.isStar && p.names.isEmpty)) = false) :
    wpAny (model prog w) A (matchPattern (.MatchSequence ps pos) env (.ref a)) Q E s :=
  matchSeq_list_miss hL hsz (by rw [List.size_toArray, hp]; exact hn) h hstar hwild
abbrev TMc := Addr → List V → Ends → L2.St → Hp → Prop
structure PM (X : Cx) (cs : List MatchCase) (t : TMc) : Prop where
  run : ∀ (pins : List (Addr × Obj)) (s : Shared) (σ : L2.St) (H : Hp) (D : Ends) (a : Addr) (xs : List V) (first : Bool), Inv X pins σ H s → SqL X.K H a xs → t a xs D σ H → wpAny (model X.prog X.w) X.A (matchCases cs X.env (.ref a) first) (SP X pins D) X.xe s
section
variable {X : Cx} {body : List Stmt} {rest : List MatchCase} {t : TS} {u : TMc} {p p1 p2 pos : Pos} {x1 x2 : Str} {i j : Nat}
theorem pm_wild (hb : PSs X body t) : PM X [⟨.MatchAs none none p, none, body⟩] (fun _ _ D σ H => t D σ H) := by
  refine ⟨fun pins s σ H D a xs first I _ h => ?_⟩
  refine wpAny_matchCases_cons (wpAny_matchPattern_Capture ?_)
  exact wpAny_assignInOrder_none (hb.run pins s σ H D I h)
theorem pm_seq1 (hc : X.calm = true) (hN : X.N.Nodup) (hb : PSs X body t) (hr : PM X rest u) (hi : X.N[i]? = some x1) (h1 : Loc X.env.scope x1) (f1 : X.fn x1 = true ∨ X.env.scope.names.lookup x1 = some .local) :
    PM X (⟨.MatchSequence [.MatchAs none (some x1) p1] p, none, body⟩ :: rest) (fun a xs D σ H => match xs with | [v] => t D (σ.set i (some v)) H | _ => u a xs D σ H) := by
  refine ⟨fun pins s σ H D a xs first I hq h => ?_⟩
  obtain ⟨its, rv, pl, hz⟩ := I.list hq
  have hL := pl.isList
  have hsz : (its.toArray.size : Int) < 2 ^ 63 := by
    have := rv.length
    rw [sizeLine_eq] at hz
    rw [List.size_toArray]
    omega
  refine wpAny_matchCases_cons ?_
  by_cases hl : xs.length = 1
  · obtain ⟨v, rfl⟩ : ∃ v, xs = [v] := by
      match xs, hl with
      | [v], _ => exact ⟨v, rfl⟩
    cases rv with
    | @cons _ u1 _ ur r1 rr =>
      cases rr
      refine seq_hit (n := 1) (I.ok.hd hc) hL hsz rfl rfl (fun h' hx => ?_) rfl rfl
      have I1 : Inv X pins σ H { s with heap := h', toks := s.toks + 1 + 1 } := I.kept (t' := s.toks + 1 + 1) fun b o e => hx b o (Nat.ne_of_lt (Heap.lt_size e)) e
      refine wpAny_matchEach_cons (wpAny_matchPattern_Capture (wpAny_matchEach_nil ?_))
      show wpAny _ _ (assignInOrder [bindName X.env x1] [u1]) _ _ _
      refine wpAny_assignInOrder_more (wpAny_bindName (store_ok I1 hN hi h1 r1 (fun s2 I2 => wpAny_assignInOrder_none ?_) f1))
      exact hb.run pins s2 _ H D I2 h
  · refine seq_miss (n := 1) hL hsz rfl (by have := rv.length; omega) ?_ rfl rfl
    have I1 : Inv X pins σ H { s with toks := s.toks + 1 + 1 } := I.tok _
    refine hr.run pins _ σ H D a xs false I1 hq ?_
    match xs, hl, h with
    | [], _, h => exact h
    | [v], hl, _ => exact absurd rfl hl
    | v :: w :: r, _, h => exact h
theorem pm_seq2 (hc : X.calm = true) (hN : X.N.Nodup) (hb : PSs X body t) (hr : PM X rest u) (hi : X.N[i]? = some x1) (h1 : Loc X.env.scope x1) (f1 : X.fn x1 = true ∨ X.env.scope.names.lookup x1 = some .local)
    (hj : X.N[j]? = some x2) (h2 : Loc X.env.scope x2) (f2 : X.fn x2 = true ∨ X.env.scope.names.lookup x2 = some .local) :
    PM X (⟨.MatchSequence [.MatchAs none (some x1) p1, .MatchAs none (some x2) p2] p, none, body⟩ :: rest) (fun a xs D σ H => match xs with | [v, w] => t D ((σ.set i (some v)).set j (some w)) H | _ => u a xs D σ H) := by
  refine ⟨fun pins s σ H D a xs first I hq h => ?_⟩
  obtain ⟨its, rv, pl, hz⟩ := I.list hq
  have hL := pl.isList
  have hsz : (its.toArray.size : Int) < 2 ^ 63 := by
    have := rv.length
    rw [sizeLine_eq] at hz
    rw [List.size_toArray]
    omega
  refine wpAny_matchCases_cons ?_
  by_cases hl : xs.length = 2
  · obtain ⟨v, w, rfl⟩ : ∃ v w, xs = [v, w] := by
      match xs, hl with
      | [v, w], _ => exact ⟨v, w, rfl⟩
    cases rv with
    | @cons _ u1 _ ur r1 rr =>
      cases rr with
      | @cons _ u2 _ ur2 r2 rr2 =>
        cases rr2
        refine seq_hit (n := 2) (I.ok.hd hc) hL hsz rfl rfl (fun h' hx => ?_) rfl rfl
        have I1 : Inv X pins σ H { s with heap := h', toks := s.toks + 1 + 1 } := I.kept (t' := s.toks + 1 + 1) fun b o e => hx b o (Nat.ne_of_lt (Heap.lt_size e)) e
        refine wpAny_matchEach_cons (wpAny_matchPattern_Capture (wpAny_matchEach_cons (wpAny_matchPattern_Capture (wpAny_matchEach_nil ?_))))
        show wpAny _ _ (assignInOrder [bindName X.env x1, bindName X.env x2] [u1, u2]) _ _ _
        refine wpAny_assignInOrder_more (wpAny_bindName (store_ok I1 hN hi h1 r1 (fun s2 I2 => ?_) f1))
        refine wpAny_assignInOrder_more (wpAny_bindName (store_ok I2 hN hj h2 r2 (fun s3 I3 => wpAny_assignInOrder_none ?_) f2))
        exact hb.run pins s3 _ H D I3 h
  · refine seq_miss (n := 2) hL hsz rfl (by have := rv.length; omega) ?_ rfl rfl
    have I1 : Inv X pins σ H { s with toks := s.toks + 1 + 1 } := I.tok _
    refine hr.run pins _ σ H D a xs false I1 hq ?_
    match xs, hl, h with
    | [], _, h => exact h
    | [v], _, h => exact h
    | [v, w], hl, _ => exact absurd rfl hl
    | v :: w :: x :: r, _, h => exact h
def tMatch (K : PySem.W.Frag) (te : TE) (t : TMc) : TS := fun D σ H => te σ H fun x H1 => ∃ a xs, x = .ref a ∧ SqL K H1 a xs ∧ t a xs D σ H1
theorem ps_match {e : Expr} {te : TE} {cs : List MatchCase} (he : PE X e te) (hm : PM X cs u) : PS X (.Match e cs pos) (tMatch X.K te u) := by
  refine ⟨fun pins s σ H D I h => ?_⟩
  refine wpAny_Match (thn (he.run pins s σ H _ I h) fun v s1 ⟨x, H1, I1, r1, a, xs, ex, hq, q⟩ => ?_)
  subst ex
  cases r1
  exact hm.run pins s1 σ H1 D a xs true I1 hq q
end
end Sg
set_option Elab.async false
set_option linter.all false
set_option maxRecDepth 100000
set_option maxHeartbeats 1000000
namespace Sg
open PySem L2 PySem.Spec PyProof.Rows
variable {K : PySem.W.Frag}
def oCatS : Op2 K where
  r := fun x y H Q => ∃ i j, x = .str i ∧ y = .str j ∧ i.length + j.length ≤ sizeLine ∧ Q (.str (i ++ j)) H
  f := fS fun i j => if i.length + j.length ≤ 16777216 then some (.str (i ++ j)) else none
  ok := fun H x y u v w ru rv e => by
    obtain ⟨i, j, rfl, rfl, e2⟩ := fS_some e
    split at e2
    · rename_i h
      cases e2; cases ru; cases rv
      exact ⟨_, rfl, fun Q q => ⟨i, j, rfl, rfl, by rw [sizeLine_eq]; exact h, q⟩⟩
    · cases e2
theorem rCatS {X : Cx} : OpR X (binaryOp .Add) (oCatS (K := X.K)).r := op_add_str
def oIxS : Op2 K where
  r := rIxS
  f := fun u v => match u, v with
    | .str z, .int i => if z.length ≤ 16777216 then (atI z.cps.toList i).map fun c => .str ⟨#[c]⟩ else none
    | _, _ => none
  ok := fun H x y u v w ru rv e => by
    split at e
    · rename_i z i
      split at e
      · rename_i h
        obtain ⟨c, e2, rfl⟩ := Option.map_eq_some_iff.mp e
        cases ru; cases rv
        exact ⟨_, rfl, fun Q q => ⟨z, i, c, rfl, rfl, by rw [sizeLine_eq]; exact h, e2, q⟩⟩
      · cases e
    · cases e
def oInS (neg : Bool) : Op2 K where
  r := fun x y H Q => ∃ (c : Nat) (z : Str), x = .str ⟨#[c]⟩ ∧ y = .str z ∧ Q (.bl (if neg = true then !decide (c ∈ z.cps.toList) else decide (c ∈ z.cps.toList))) H
  f := fS fun i j => match i.cps.toList with
    | [c] => some (.bl (if neg = true then !decide (c ∈ j.cps.toList) else decide (c ∈ j.cps.toList)))
    | _ => none
  ok := fun H x y u v w ru rv e => by
    obtain ⟨i, j, rfl, rfl, e2⟩ := fS_some e
    split at e2
    · rename_i c ec
      cases e2; cases ru; cases rv
      refine ⟨_, rfl, fun Q q => ⟨c, j, ?_, rfl, q⟩⟩
      have : i = ⟨#[c]⟩ := TL.ext_tl ec
      rw [this]
    · cases e2
theorem rInS {X : Cx} : OpR X (compareOp .In) (oInS (K := X.K) false).r := by
  intro pins s σ H x y v u Q I rx ry h
  obtain ⟨c, z, e1, e2, q⟩ := h
  exact op_in_sign pins s σ H x y v u Q I rx ry ⟨c, z, e1, e2, q⟩
def oIntS : OpC K where
  r := fun xs H Q => ∃ a n, xs = [.str a] ∧ PySem.intText? a = some n ∧ a.length ≤ 640 ∧ Q (.int n) H
  f := fun us => match us with
    | [.str a] => if a.length ≤ 640 then (PySem.intText? a).map .int else none
    | _ => none
  ok := fun H xs us w r e => by
    split at e
    · rename_i a
      obtain ⟨v, rfl, r1⟩ := repL1 r
      split at e
      · rename_i h
        obtain ⟨n, en, rfl⟩ := Option.map_eq_some_iff.mp e
        cases r1
        exact ⟨_, rfl, fun Q q => ⟨a, n, rfl, en, h, q⟩⟩
      · cases e
    · cases e
theorem rIntS {X : Cx} : CallR X (.type "int") (oIntS (K := X.K)).r := call_int_str
def mSplit (c : Str) (a : ME K) (hc : (c.length == 0) = false := by exact id rfl) : MF K where
  t := fun W => tM1 (fun x xs H Q => ∃ a b, x = .str a ∧ xs = [.str b] ∧ (b.length == 0) = false ∧ a.length + 2 ≤ sizeLine ∧ rNewStrs (Txt.split a b) H Q) (a.t W) (tC (.str c))
  m := fun ρ => bindEA (a.m ρ) fun u ρ1 => match u with
    | .str s => if s.length + 2 ≤ 16777216 then some (.ok ((Txt.split s c).map U.str) ρ1) else none
    | _ => none
  p := a.p
  ok := fun F W ρ σ B H Q out e R f => by
    rcases bindEA_some e with ⟨u, ρ1, e1, e⟩ | ⟨x, ρ1, e1, rfl⟩
    · refine a.ok F W ρ σ B H _ _ e1 R fun v1 B1 H1 x1 p1 R1 r1 => ?_
      split at e
      · rename_i s
        split at e
        · rename_i h
          cases e
          have ev : v1 = V.str s := rep_up R1 r1
          subst ev
          refine ⟨⟨s, rfl⟩, s, c, rfl, rfl, hc, by rw [sizeLine_eq]; exact h, fun p hp => ?_⟩
          exact newF f x1 p1 R1 (repL_strs _) hp
        · cases e
      · cases e
    · exact a.ok F W ρ σ B H _ _ e1 R fun cls d B1 H1 x1 R1 xr => f cls d B1 H1 x1 R1 xr
def strsU : List U → Option (List Str)
  | [] => some []
  | .str s :: r => (strsU r).map (s :: ·)
  | _ :: _ => none
theorem strsU_map (ss : List Str) : strsU (ss.map U.str) = some ss := by
  induction ss with
  | nil => rfl
  | cons s r ih => rw [List.map_cons]; unfold strsU; rw [ih]; rfl
theorem strsU_ok {B : Hp} : ∀ {us : List U} {ss : List Str} {vs : List V}, strsU us = some ss → RepL K B us vs → vs = ss.map V.str
  | [], ss, vs, e, r => by cases e; cases r; rfl
  | .str s :: us, ss, vs, e, r => by
    obtain ⟨r1, e1, rfl⟩ := Option.map_eq_some_iff.mp e
    obtain ⟨v, vr, rfl, h1, h2⟩ := r
    have ev : v = V.str s := h1
    rw [ev, strsU_ok e1 h2]
    rfl
def joinOk (c : Str) (ss : List Str) : Bool := decide ((ss.map (·.length)).sum + ss.length * c.length ≤ 16777216)
def mJoin (c : Str) (a : ME K) (ha : a.k = true := by exact id rfl) : ME K where
  t := fun W => tM1 (fun x xs H Q => ∃ a p, ∃ ys : List Str, x = .str a ∧ xs = [.ref p] ∧ (SqL K H p (ys.map V.str) ∨ SqT K H p (ys.map V.str)) ∧ (ys.map (·.length)).sum + ys.length * a.length ≤ 16777216 ∧ Q (.str (Txt.join a ys)) H) (tC (.str c)) (a.t W)
  m := fun ρ => bindE (a.m ρ) fun u ρ1 => match u with
    | .lst us => (strsU us).bind fun ss => if joinOk c ss = true then some (.ok (.str (Txt.join c ss)) ρ1) else none
    | _ => none
  p := a.p
  k := true
  ok := fun F W ρ σ B H Q out e R f => by
    refine ⟨⟨c, rfl⟩, ?_⟩
    rcases bindE_some e with ⟨u, ρ1, e1, e⟩ | ⟨x, ρ1, e1, rfl⟩
    · refine a.ok F W ρ σ B H _ _ e1 R fun v1 B1 H1 x1 p1 R1 r1 => ?_
      split at e
      · rename_i us
        obtain ⟨ss, e2, e⟩ := Option.bind_eq_some_iff.mp e
        split at e
        · rename_i h
          cases e
          obtain ⟨q, vs, rfl, h3, h4⟩ := lstU_ok (rep_up R1 r1) (show lstU (.lst us) = some us from rfl)
          have ev := strsU_ok e2 h4
          subst ev
          exact ⟨c, q, ss, rfl, rfl, .inl h3, of_decide_eq_true h, f _ B1 H1 x1 p1 R1 rfl⟩
        · cases e
      · cases e
    · exact a.ok F W ρ σ B H _ _ e1 R fun cls d B1 H1 x1 R1 xr => f cls d B1 H1 x1 R1 xr
def fmtU : U → Option Str
  | .str s => if s.length ≤ 16777216 then some s else none
  | .int i => if i.natAbs.log2 < 1920 then some (toString i : String) else none
  | _ => none
def mFmt (a : ME K) : ME K where
  t := fun W => tFmt (a.t W)
  m := fun ρ => bindE (a.m ρ) fun u ρ1 => (fmtU u).map fun s => .ok (.str s) ρ1
  p := a.p
  k := true
  ok := fun F W ρ σ B H Q out e R f => by
    rcases bindE_some e with ⟨u, ρ1, e1, e⟩ | ⟨x, ρ1, e1, rfl⟩
    · refine a.ok F W ρ σ B H _ _ e1 R fun v1 B1 H1 x1 p1 R1 r1 => ?_
      obtain ⟨s, es, rfl⟩ := Option.map_eq_some_iff.mp e
      have r2 := rep_up R1 r1
      cases u with
      | str y =>
        have es' : (if y.length ≤ 16777216 then some y else none) = some s := es
        split at es'
        · rename_i h
          cases es'
          have ev : v1 = V.str s := r2
          subst ev
          exact .inl ⟨s, rfl, by rw [sizeLine_eq]; exact h, f _ B1 H1 x1 p1 R1 rfl⟩
        · cases es'
      | int i =>
        have es' : (if i.natAbs.log2 < 1920 then some (Str.ofString (toString i)) else none) = some s := es
        split at es'
        · rename_i h
          cases es'
          have ev : v1 = V.int i := r2
          subst ev
          exact .inr ⟨i, rfl, h, f _ B1 H1 x1 p1 R1 rfl⟩
        · cases es'
      | _ => cases es
    · exact a.ok F W ρ σ B H _ _ e1 R fun cls d B1 H1 x1 R1 xr => f cls d B1 H1 x1 R1 xr
structure MJ (K : PySem.W.Frag) where
  t : WX → List TE
  m : Str → Env → Option EO
  p : Bool
  ok : ∀ (F : Fc) (W : WX) (ρ : Env) (σ : L2.St) (B H : Hp) (acc : Str) (Q : VK) (o : EO), m acc ρ = some o → Rel K F ρ σ B H → Fin K F W p true ρ σ B H Q o → tJs (t W) acc σ H fun out H1 => Q (.str out) H1
def mjNil : MJ K where
  t := fun _ => []
  m := fun acc ρ => some (.ok (.str acc) ρ)
  p := true
  ok := fun F W ρ σ B H acc Q o e R f => by
    cases e
    exact f (.str acc) B H Ex.refl (fun _ => ⟨Ex.refl, rfl⟩) R rfl
def mjCons (a : ME K) (r : MJ K) : MJ K where
  t := fun W => a.t W :: r.t W
  m := fun acc ρ => bindE (a.m ρ) fun u ρ1 => match u with
    | .str y => if (acc ++ y).length ≤ 16777216 then r.m (acc ++ y) ρ1 else none
    | _ => none
  p := a.p && r.p
  ok := fun F W ρ σ B H acc Q o e R f => by
    rcases bindE_some e with ⟨u, ρ1, e1, e⟩ | ⟨x, ρ1, e1, rfl⟩
    · refine a.ok F W ρ σ B H _ _ e1 R fun v1 B1 H1 x1 p1 R1 r1 => ?_
      split at e
      · rename_i y
        split at e
        · rename_i h
          have ev : v1 = V.str y := rep_up R1 r1
          subst ev
          refine ⟨y, rfl, by rw [sizeLine_eq]; exact h, r.ok F W ρ1 σ B1 H1 (acc ++ y) Q o e R1 ?_⟩
          cases o with
          | ok u ρ2 =>
            exact fun v B2 H2 x2 p2 R2 r2 => f v B2 H2 (x1.trans x2) (fun c => by
              obtain ⟨c1, c2⟩ := Bool.and_eq_true_iff.mp c
              exact ⟨(p1 c1).1.trans (p2 c2).1, (p2 c2).2.trans (p1 c1).2⟩) R2 r2
          | ex x ρ2 => exact fun cls d B2 H2 x2 R2 xr => f cls d B2 H2 (x1.trans x2) R2 xr
        · cases e
      · cases e
    · exact a.ok F W ρ σ B H _ _ e1 R fun cls d B1 H1 x1 R1 xr => f cls d B1 H1 x1 R1 xr
def mJs (a : MJ K) : ME K where
  t := fun W σ H Q => tJs (a.t W) Str.empty σ H fun out H1 => Q (.str out) H1
  m := fun ρ => a.m Str.empty ρ
  p := a.p
  k := true
  ok := fun F W ρ σ B H Q out e R f => a.ok F W ρ σ B H Str.empty Q out e R f
def signsU (s : Str) : List U := s.cps.toList.map fun c => .str ⟨#[c]⟩
def miStr (a : ME K) : MI K where
  t := fun W => iStr (a.t W)
  m := fun ρ => bindEA (a.m ρ) fun u ρ1 => match u with
    | .str s => some (.ok (signsU s) ρ1)
    | _ => none
  ok := fun F W ρ σ B H Q out e R f => by
    rcases bindEA_some e with ⟨u, ρ1, e1, e⟩ | ⟨x, ρ1, e1, rfl⟩
    · refine a.ok F W ρ σ B H _ _ e1 R fun v1 B1 H1 x1 p1 R1 r1 => ?_
      split at e
      · rename_i s
        cases e
        have ev : v1 = V.str s := rep_up R1 r1
        subst ev
        refine ⟨s, rfl, f _ B1 H1 x1 R1 fun i B2 H2 y1 y2 => ?_⟩
        have hlen : (signsU s).length = s.cps.size := by unfold signsU; rw [List.length_map, Array.length_toList]
        refine ⟨fun hi => by rw [hlen] at hi; exact hi, fun w hw => ?_⟩
        have hi : i < s.cps.size := by rw [← hlen]; exact (List.getElem?_eq_some_iff.mp hw).1
        refine ⟨hi, fun x H3 hy => ?_⟩
        obtain ⟨rfl, c, hc, rfl⟩ := hy
        refine ⟨B2, Go.refl y2, ?_⟩
        unfold signsU at hw
        rw [List.getElem?_map, Array.getElem?_toList, hc] at hw
        cases hw
        rfl
      · cases e
    · exact a.ok F W ρ σ B H _ _ e1 R fun cls d B1 H1 x1 R1 xr => f cls d B1 H1 x1 R1 xr
def enumF (k : Int) : List U → List U
  | [] => []
  | u :: us => .tup [.int k, u] :: enumF (k + 1) us
theorem enumF_len (k : Int) : ∀ us : List U, (enumF k us).length = us.length
  | [] => rfl
  | u :: us => by unfold enumF; rw [List.length_cons, List.length_cons, enumF_len (k + 1) us]
theorem enumF_get : ∀ (us : List U) (k : Int) (i : Nat), (enumF k us)[i]? = us[i]?.map fun u => .tup [.int (k + (i : Int)), u]
  | [], _, _ => by simp [enumF]
  | u :: us, k, 0 => by simp [enumF]
  | u :: us, k, i + 1 => by
    unfold enumF
    rw [List.getElem?_cons_succ, List.getElem?_cons_succ, enumF_get us (k + 1) i]
    congr 1
    funext u
    have : k + 1 + (i : Int) = k + ((i + 1 : Nat) : Int) := by omega
    rw [this]
def miEnumF (a : ME K) (k : Int) (hk : a.k = true := by exact id rfl) (hb : -(2 ^ 63) ≤ k ∧ k < 2 ^ 63 := by decide) : MI K where
  t := fun W => iEnumF K (tCons (a.t W) (tCons (tC (.int k)) tNil))
  m := fun ρ => bindEA (a.m ρ) fun u ρ1 => (lstU u).map fun us => .ok (enumF k us) ρ1
  ok := fun F W ρ σ B H Q out e R f => by
    rcases bindEA_some e with ⟨u, ρ1, e1, e⟩ | ⟨x, ρ1, e1, rfl⟩
    · obtain ⟨us, e2, rfl⟩ := Option.map_eq_some_iff.mp e
      refine a.ok F W ρ σ B H _ _ e1 R fun v1 B1 H1 x1 p1 R1 r1 => ?_
      rw [hk] at r1
      obtain ⟨q, vs, rfl, h1, h2⟩ := lstU_ok r1 e2
      refine ⟨q, vs, k, rfl, hb, Ex.l R1.ex h1, f _ B1 H1 x1 R1 fun i B2 H2 y1 y2 => ?_⟩
      have h3 : SqL K H2 q vs := Ex.l y2 (Ex.l y1 h1)
      refine ⟨fun hi => ⟨vs, h3, by rw [h2.length]; rw [enumF_len] at hi; exact hi⟩, fun w hw => ?_⟩
      rw [enumF_get] at hw
      obtain ⟨u, hu, rfl⟩ := Option.map_eq_some_iff.mp hw
      obtain ⟨v, hv, rv⟩ := h2.get hu
      refine ⟨⟨vs, v, h3, hv⟩, fun x H3 hy => ?_⟩
      obtain ⟨T, x0, rfl, hT, rfl, hx⟩ := hy
      have := hx vs h3
      rw [hv] at this; cases this
      have g := Go.newB (o := .tup [.int (k + (i : Int)), v]) y2 hT
      refine ⟨_, g, T, _, rfl, .inl (.inl upd_same), _, _, rfl, rfl, _, _, rfl, Rep.mono g.bb _ _ (Rep.mono y1 _ _ rv), rfl⟩
    · exact a.ok F W ρ σ B H _ _ e1 R fun cls d B1 H1 x1 R1 xr => f cls d B1 H1 x1 R1 xr
def msStar (a : ME K) (i j : Nat) (ha : a.k = true := by exact id rfl) : MS K where
  t := fun W => tAsg (a.t W) (gStar K i j)
  m := fun ρ => bindES (a.m ρ) fun u ρ1 => match u with
    | .lst (y :: ys) => if ys.length ≤ 16383 then some (.nx ((ρ1.set i (.val y)).set j (.val (.lst ys)))) else none
    | _ => none
  ok := fun F W ρ σ B H D o q R f => by
    rcases bindES_some q with ⟨u, ρ1, e1, q⟩ | ⟨x, ρ1, e1, rfl⟩
    · split at q
      · rename_i y ys
        split at q
        · rename_i h
          cases q
          refine a.ok F W ρ σ B H _ _ e1 R fun v1 B1 H1 x1 p1 R1 r1 => ?_
          rw [ha, if_pos rfl] at r1
          obtain ⟨q, vs, rfl, h1, h2⟩ := lstU_ok r1 (show lstU (.lst (y :: ys)) = some (y :: ys) from rfl)
          obtain ⟨v, vr, rfl, hv, hr⟩ := h2
          refine ⟨q, v, vr, rfl, Ex.l R1.ex h1, by rw [hr.length]; exact h, fun p hp => ?_⟩
          have g := Go.newB (o := .lst vr) R1.ex hp
          have R2 := R1.grow g
          refine f _ _ _ (x1.trans g.bb) ((R2.setV (i := i) (u := y) (Rep.mono g.bb _ _ hv)).setV (i := j) (u := .lst ys) (v := .ref p) ?_)
          exact ⟨p, vr, rfl, upd_same, RepL.mono g.bb _ _ hr⟩
        · cases q
      · cases q
    · exact a.ok F W ρ σ B H _ _ e1 R fun cls d B1 H1 x1 R1 xr => f cls d σ B1 H1 x1 R1 xr
end Sg
set_option Elab.async false
set_option linter.all false
set_option maxRecDepth 100000
set_option maxHeartbeats 1000000
namespace Sg
open PySem L2 PySem.Spec PyProof.Rows
variable {K : PySem.W.Frag}
def msMatch (a : ME K) (i : Nat) (S1 : MS K) (j k : Nat) (S2 S3 : MS K) (ha : a.k = true := by exact id rfl) : MS K where
  t := fun W => tMatch K (a.t W) (fun q xs D σ H => match xs with
    | [v] => S1.t W D (σ.set i (some v)) H
    | _ => (fun (_ : Addr) (xs : List V) (D : Ends) (σ : L2.St) (H : Hp) => match xs with
      | [v, w] => S2.t W D ((σ.set j (some v)).set k (some w)) H
      | _ => S3.t W D σ H) q xs D σ H)
  m := fun ρ => bindES (a.m ρ) fun u ρ1 => (lstU u).bind fun us => match us with
    | [u] => S1.m (ρ1.set i (.val u))
    | [u, v] => S2.m ((ρ1.set j (.val u)).set k (.val v))
    | _ => S3.m ρ1
  ok := fun F W ρ σ B H D o q R f => by
    rcases bindES_some q with ⟨u, ρ1, e1, q⟩ | ⟨x, ρ1, e1, rfl⟩
    · obtain ⟨us, e2, q⟩ := Option.bind_eq_some_iff.mp q
      refine a.ok F W ρ σ B H _ _ e1 R fun v1 B1 H1 x1 p1 R1 r1 => ?_
      rw [ha, if_pos rfl] at r1
      obtain ⟨p, vs, rfl, h1, h2⟩ := lstU_ok r1 e2
      refine ⟨p, vs, rfl, Ex.l R1.ex h1, ?_⟩
      match us, h2, q with
      | [], h2, q =>
        cases h2
        exact S3.ok F W ρ1 σ B1 H1 D o q R1 (f.mono x1)
      | [u1], h2, q =>
        obtain ⟨v, vr, rfl, hv, hr⟩ := h2
        cases hr
        exact S1.ok F W _ _ B1 H1 D o q (R1.setV hv) (f.mono x1)
      | [u1, u2], h2, q =>
        obtain ⟨v, vr, rfl, hv, hr⟩ := h2
        obtain ⟨w, wr, rfl, hw, hr⟩ := hr
        cases hr
        exact S2.ok F W _ _ B1 H1 D o q ((R1.setV hv).setV hw) (f.mono x1)
      | u1 :: u2 :: u3 :: ur, h2, q =>
        obtain ⟨v, vr, rfl, hv, hr⟩ := h2
        obtain ⟨w, wr, rfl, hw, hr⟩ := hr
        obtain ⟨z, zr, rfl, hz, hr⟩ := hr
        exact S3.ok F W ρ1 σ B1 H1 D o q R1 (f.mono x1)
    · exact a.ok F W ρ σ B H _ _ e1 R fun cls d B1 H1 x1 R1 xr => f cls d σ B1 H1 x1 R1 xr
section
variable {X : Cx} {W : WX} {A B : ME X.K} {J : MJ X.K} {e a b o : Expr} {c x x1 x2 : Str} {p p1 p2 p3 p4 pos apos tpos : Pos} {j k n : Nat} {es elts : List Expr} {tg : Expr}
theorem dixS {h} (ha : PE X a (A.t W)) (hb : PE X b (B.t W)) (hs : PlainIx b := by exact fun _ _ => rfl) : PE X (.Subscript a b pos) ((mOp oIxS A B h).t W) := pe_ix ix_str ha hb hs
theorem dsplit {h} (ha : PE X o (A.t W)) (hs : starEach [.Constant (.str c) j p] X.env = [(false, eval (.Constant (.str c) j p) X.env)] := by rfl) (hbase : attributeBase o "split" X.env (eval o X.env) = eval o X.env := by rfl) (hline : (apos.endLine == pos.line) = true := by rfl) :
    PE X (.Call (.Attribute o "split" apos) [.Constant (.str c) j p] [] pos) ((mSplit c A h).t W) := pe_split ha pe_str hs hbase hline
theorem djoin {h} (ha : PE X e (A.t W)) (hs : starEach [e] X.env = [(false, eval e X.env)] := by rfl) (hbase : attributeBase (.Constant (.str c) j p) "join" X.env (eval (.Constant (.str c) j p) X.env) = eval (.Constant (.str c) j p) X.env := by rfl) (hline : (apos.endLine == pos.line) = true := by rfl) :
    PE X (.Call (.Attribute (.Constant (.str c) j p) "join" apos) [e] [] pos) ((mJoin c A h).t W) := pe_join pe_str ha hs hbase hline
theorem dfmt (ha : PE X e (A.t W)) : PE X (.FormattedValue e (-1) none pos) ((mFmt A).t W) := pe_fmt ha
theorem djnil : PJ X [] ((mjNil (K := X.K)).t W) := .nil
theorem djcons (ha : PE X e (A.t W)) (hr : PJ X es (J.t W)) : PJ X (e :: es) ((mjCons A J).t W) := .cons ha hr
theorem djs (h : PJ X (a :: b :: es) (J.t W)) : PE X (.JoinedStr (a :: b :: es) pos) ((mJs J).t W) := pe_joined h
theorem djs1 (h : PE X a (A.t W)) : PE X (.JoinedStr [a] pos) (A.t W) := pe_joined1 h
theorem istr (ha : PE X a (A.t W)) : PI X tg a ((miStr A).t W) := pi_str ha
theorem ienumF {i : Int} {h hb} (hm : X.mg "enumerate" = none) (ha : PE X a (A.t W)) (hg : Gl X "enumerate" := by rfl) (hs : starEach [a, .Constant (.int i) j p] X.env = (false, eval a X.env) :: starEach [.Constant (.int i) j p] X.env := by rfl)
    (hpl : (backTo pos (starEach [.Constant (.int i) j p] X.env)).any (·.1) = false := by rfl) (h2 : starEach [.Constant (.int i) j p] X.env = (false, eval (.Constant (.int i) j p) X.env) :: starEach [] X.env := by rfl) :
    PI X (.Tuple elts k tpos) (.Call (.Name "enumerate" p2) [a, .Constant (.int i) j p] [] pos) ((miEnumF A i h hb).t W) := pi_enumF hg hm (pa_cons ha (pa_cons pe_int pa_nil h2) hs) hs hpl
theorem sstar {i l : Nat} {h} (nd : X.N.Nodup) (ha : PE X e (A.t W)) (hi : X.N[i]? = some x1 := by rfl) (hl : X.N[l]? = some x2 := by rfl)
    (h1 : Loc X.env.scope x1 := by first | exact Or.inl rfl | exact Or.inr rfl) (h2 : Loc X.env.scope x2 := by first | exact Or.inl rfl | exact Or.inr rfl)
    (f1 : X.fn x1 = true ∨ X.env.scope.names.lookup x1 = some .local := by first | exact .inl rfl | exact .inr rfl) (f2 : X.fn x2 = true ∨ X.env.scope.names.lookup x2 = some .local := by first | exact .inl rfl | exact .inr rfl) (hc : X.calm = true := by rfl)
    (ea : assignEach [.Name x1 p1, .Starred (.Name x2 p2) p3] X.env = [(false, assign (.Name x1 p1) X.env), (true, assign (.Name x2 p2) X.env)] := by rfl)
    (hs : swapsWithSole [.Tuple [.Name x1 p1, .Starred (.Name x2 p2) p3] k p4] e pos.line X.env = pure false := by rfl) (hw : swappedStores [.Tuple [.Name x1 p1, .Starred (.Name x2 p2) p3] k p4] e X.env = pure none := by rfl)
    (h3 : (assignEach [.Tuple [.Name x1 p1, .Starred (.Name x2 p2) p3] k p4] X.env).map (·.2) = [assign (.Tuple [.Name x1 p1, .Starred (.Name x2 p2) p3] k p4) X.env] := by rfl) :
    PS X (.Assign [.Tuple [.Name x1 p1, .Starred (.Name x2 p2) p3] k p4] e pos) ((msStar A i l h).t W) := ps_asg ha (pg_star hc nd hi hl h1 h2 f1 f2 ea) hs hw h3
theorem smatch {S1 S2 S3 : MS X.K} {b1 b2 b3 : List Stmt} {x3 : Str} {i l m : Nat} {q1 q2 q3 q4 q5 q6 : Pos} {h} (nd : X.N.Nodup) (ha : PE X e (A.t W)) (h1 : PSs X b1 (S1.t W)) (h2 : PSs X b2 (S2.t W)) (h3 : PSs X b3 (S3.t W))
    (hi : X.N[i]? = some x1 := by rfl) (hl : X.N[l]? = some x2 := by rfl) (hm : X.N[m]? = some x3 := by rfl)
    (l1 : Loc X.env.scope x1 := by first | exact Or.inl rfl | exact Or.inr rfl) (l2 : Loc X.env.scope x2 := by first | exact Or.inl rfl | exact Or.inr rfl) (l3 : Loc X.env.scope x3 := by first | exact Or.inl rfl | exact Or.inr rfl)
    (f1 : X.fn x1 = true ∨ X.env.scope.names.lookup x1 = some .local := by first | exact .inl rfl | exact .inr rfl) (f2 : X.fn x2 = true ∨ X.env.scope.names.lookup x2 = some .local := by first | exact .inl rfl | exact .inr rfl)
    (f3 : X.fn x3 = true ∨ X.env.scope.names.lookup x3 = some .local := by first | exact .inl rfl | exact .inr rfl) (hc : X.calm = true := by rfl) :
    PS X (.Match e [⟨.MatchSequence [.MatchAs none (some x1) q1] q2, none, b1⟩, ⟨.MatchSequence [.MatchAs none (some x2) q3, .MatchAs none (some x3) q4] q5, none, b2⟩, ⟨.MatchAs none none q6, none, b3⟩] pos) ((msMatch A i S1 l m S2 S3 h).t W) :=
  ps_match ha (pm_seq1 hc nd h1 (pm_seq2 hc nd h2 (pm_wild h3) hl l2 f2 hm l3 f3) hi l1 f1)
end
theorem oCatS_e (i j : Str) (h : i.length + j.length ≤ 16777216) : (oCatS (K := K)).f (.str i) (.str j) = some (.str (i ++ j)) := if_pos h
theorem mSplit_m (c : Str) (a : ME K) (hc : (c.length == 0) = false) (ρ : Env) : (mSplit c a hc).m ρ = (bindEA (a.m ρ) fun u ρ1 => match u with
    | .str s => if s.length + 2 ≤ 16777216 then some (.ok ((Txt.split s c).map U.str) ρ1) else none
    | _ => none) := rfl
theorem mJoin_m (c : Str) (a : ME K) (ha : a.k = true) (ρ : Env) : (mJoin c a ha).m ρ = (bindE (a.m ρ) fun u ρ1 => match u with
    | .lst us => (strsU us).bind fun ss => if joinOk c ss = true then some (.ok (.str (Txt.join c ss)) ρ1) else none
    | _ => none) := rfl
theorem mFmt_m (a : ME K) (ρ : Env) : (mFmt a).m ρ = (bindE (a.m ρ) fun u ρ1 => (fmtU u).map fun s => .ok (.str s) ρ1) := rfl
theorem mJs_m (a : MJ K) (ρ : Env) : (mJs a).m ρ = a.m Str.empty ρ := rfl
theorem mjNil_m (acc : Str) (ρ : Env) : (mjNil (K := K)).m acc ρ = some (.ok (.str acc) ρ) := rfl
theorem mjCons_m (a : ME K) (r : MJ K) (acc : Str) (ρ : Env) : (mjCons a r).m acc ρ = (bindE (a.m ρ) fun u ρ1 => match u with
    | .str y => if (acc ++ y).length ≤ 16777216 then r.m (acc ++ y) ρ1 else none
    | _ => none) := rfl
theorem miStr_m (a : ME K) (ρ : Env) : (miStr a).m ρ = (bindEA (a.m ρ) fun u ρ1 => match u with
    | .str s => some (.ok (signsU s) ρ1)
    | _ => none) := rfl
theorem miEnumF_m (a : ME K) (k : Int) (hk : a.k = true) (hb : -(2 ^ 63) ≤ k ∧ k < 2 ^ 63) (ρ : Env) : (miEnumF a k hk hb).m ρ = (bindEA (a.m ρ) fun u ρ1 => (lstU u).map fun us => .ok (enumF k us) ρ1) := rfl
theorem msStar_m (a : ME K) (i j : Nat) (ha : a.k = true) (ρ : Env) : (msStar a i j ha).m ρ = (bindES (a.m ρ) fun u ρ1 => match u with
    | .lst (y :: ys) => if ys.length ≤ 16383 then some (.nx ((ρ1.set i (.val y)).set j (.val (.lst ys)))) else none
    | _ => none) := rfl
theorem msMatch_m (a : ME K) (i : Nat) (S1 : MS K) (j k : Nat) (S2 S3 : MS K) (ha : a.k = true) (ρ : Env) : (msMatch a i S1 j k S2 S3 ha).m ρ = (bindES (a.m ρ) fun u ρ1 => (lstU u).bind fun us => match us with
    | [u] => S1.m (ρ1.set i (.val u))
    | [u, v] => S2.m ((ρ1.set j (.val u)).set k (.val v))
    | _ => S3.m ρ1) := rfl
end Sg
set_option Elab.async false
set_option linter.all false
set_option maxRecDepth 100000
namespace GID
open PySem PySem.Spec L2
section
variable {prog : Program} {w : World} {A : Around} {E : Value → Shared → Prop} {s : Shared} {K : PySem.W.Frag} {x y C : Addr} {ox oy : Obj} {od od' : Option Obj}
theorem call_eq_other (X : K.In s.heap) (I : PySem.W.InstAt s.heap x ox C od) (ho : PySem.W.subIn K (.ref C) (.type "object") = some true) (hy : s.heap.get? y = some oy) (hxy : x ≠ y) {Q : Value → Shared → Prop} (hq : Q .notImplemented s) :
    wpAny (model prog w) A (call (.builtin "object.__eq__") [.ref x, .ref y]) Q E s := by
  refine wpAny_call (codeAny_call_builtin F.cmp_object.eq.plain F.cmpEntry_eq ?_)
  refine PySem.W.check_slot F.cmpKind_eq F.cmpSplit_eq (I.type.andThen (PySem.W.looks_subIn X ho)) (F.cmpArgs_eq _ _) ?_
  exact objEq_entry_other hxy I.at_ hy (by rw [I.cls]; intro e; cases e) hq
theorem ifBound_eq {args : List Value} {Q : Option Value → Shared → Prop} (X : K.In s.heap) (I : PySem.W.InstAt s.heap x ox C od) (hs : PySem.W.findIn K (.ref C) "__eq__" = some (some (.builtin "object.__eq__")))
    (h : wpAny (model prog w) A (call (.builtin "object.__eq__") (.ref x :: args)) (fun v => Q (some v)) E s) : wpAny (model prog w) A (callSpecialIfBound? (.ref x) "__eq__" args) Q E s := by
  simp only [callSpecialIfBound?, bindSpecialIfBound?]
  refine wpAny_holding (wpAny_bind (wpAny_bind (wpAny_bind (I.type.here ((PySem.W.looks_findIn X hs).here ?_)))))
  simp only [F.cmp_object.eq.bind]
  refine wpAny_bind (wpAny_askSetting (wpAny_ite ?_))
  have fin : wpAny (model prog w) A (call (.builtin "object.__eq__") ([.ref x] ++ args) >>= fun v => pure (some v)) Q E s := wpAny_bind (wpAny_mono h (fun v s' h' => wpAny_pure h') fun _ _ h' => h')
  split
  · exact wpAny_bind (wpAny_pure (wpAny_pure fin))
  · exact wpAny_tryCatch (wpAny_bind (wpAny_pure (wpAny_pure fin)))
theorem rc_other {Q : Value → Shared → Prop} (hu : A.units < cLine) (X : K.In s.heap) (I : PySem.W.InstAt s.heap x ox C od) (J : PySem.W.InstAt s.heap y oy C od') (hxy : x ≠ y)
    (hs : PySem.W.findIn K (.ref C) "__eq__" = some (some (.builtin "object.__eq__"))) (ho : PySem.W.subIn K (.ref C) (.type "object") = some true) (h : Q (.bool false) s) :
    wpAny (model prog w) A (richCompare .Eq (.ref x) (.ref y)) Q E s := by
  have one : ∀ {R : Option Value → Shared → Prop}, R none s → wpAny (model prog w) A (tryCompare (.ref x) "__eq__" (.ref y)) R E s := fun q => by
    unfold tryCompare
    exact wpAny_bind (ifBound_eq X I hs (call_eq_other X I ho J.at_ hxy (wpAny_pure q)))
  have two : ∀ {R : Option Value → Shared → Prop}, R none s → wpAny (model prog w) A (tryCompare (.ref y) "__eq__" (.ref x)) R E s := fun q => by
    unfold tryCompare
    exact wpAny_bind (ifBound_eq X J hs (call_eq_other X J ho I.at_ hxy.symm (wpAny_pure q)))
  unfold richCompare
  simp only [oneThing_ref, cmpInfo_Eq]
  refine wpAny_holding (wpAny_bind (wpAny_cRoomFor hu ?_))
  refine wpAny_bind (I.type.here (wpAny_bind (J.type.here ?_)))
  rw [if_neg (by simp)]
  refine wpAny_bind (wpAny_pure ?_)
  simp only [Bool.false_eq_true, if_false]
  refine wpAny_bind (one ?_)
  simp only [Bool.not_false, if_true]
  refine wpAny_bind (two ?_)
  refine wpAny_bind (PySem.wpAny_rule ?_)
  refine wpAny_bind (PySem.wpAny_isSame_ref_other hxy I.at_ J.at_ (by rw [I.cls]; intro e; cases e) ?_)
  exact wpAny_pure h
end
def EqCls (K : PySem.W.Frag) (C : Addr) : Prop := PySem.W.findIn K (.ref C) "__eq__" = some (some (.builtin "object.__eq__")) ∧ PySem.W.subIn K (.ref C) (.type "object") = some true
def rDif (K : PySem.W.Frag) (C : Addr) : R2 := fun x y H Q => ∃ a b dx dy fs gs, x = .ref a ∧ y = .ref b ∧ a ≠ b ∧ H a = some (.ins C dx fs) ∧ H b = some (.ins C dy gs) ∧ Q (.bl false) H
theorem op_dif {X : Cx} {C : Addr} (hC : EqCls X.K C) (hu : X.A.units < cLine) : OpR X (compareOp .Eq) (rDif X.K C) := by
  intro pins s σ H x y v u Q I rx ry hq
  obtain ⟨a, b, dx, dy, fs, gs, rfl, rfl, hab, ha, hb, q⟩ := hq
  cases rx
  cases ry
  obtain ⟨mA, J, _⟩ := ins_get I.hok ha
  obtain ⟨mB, J', _⟩ := ins_get I.hok hb
  obtain ⟨od, J, _⟩ := J.look
  obtain ⟨od', J', _⟩ := J'.look
  show wpAny (model X.prog X.w) X.A (richCompare .Eq (.ref a) (.ref b)) (EP X pins σ Q) X.xe s
  exact rc_other hu I.kIn J J' hab hC.1 hC.2 ⟨.bl false, H, I, rfl, q⟩
end GID
set_option Elab.async false
set_option linter.all false
set_option maxRecDepth 100000
set_option maxHeartbeats 4000000
namespace Sg
open PySem L2
variable {K : PySem.W.Frag}
def eqcB (K : PySem.W.Frag) (c : Str) : Bool := He.eqO (PySem.W.findIn K (.ref (He.ga K c)) "__eq__") (some (some (.builtin "object.__eq__"))) && decide (PySem.W.subIn K (.ref (He.ga K c)) (.type "object") = some true)
theorem eqc_of {c : Str} (h : eqcB K c = true) : GID.EqCls K (He.ga K c) := by
  obtain ⟨h1, h2⟩ := He.ba h
  exact ⟨He.eqO_ok h1, of_decide_eq_true h2⟩
noncomputable def mDif (cls : Str) (i j : Nat) : ME K where
  t := fun _ => tOp (GID.rDif K (He.ga K cls)) (tVar i) (tVar j)
  m := fun ρ => match ρ[i]?, ρ[j]? with
    | some (.nam a (.ins c fs)), some (.nam b (.ins c' gs)) => if decide (a ≠ b) = true then (if c = cls ∧ c' = cls then some (.ok (.bl false) ρ) else none) else none
    | _, _ => none
  p := true
  k := true
  ok := fun F W ρ σ B H Q o e R f => by
    split at e
    · rename_i a c fs b c' gs h1 h2
      split at e
      · rename_i hab
        have hab := of_decide_eq_true hab
        split at e
        · rename_i hc
          obtain ⟨rfl, rfl⟩ := hc
          cases e
          obtain ⟨z1, a', dx, ws, y1, y2, y3⟩ := R.sl i _ h1
          obtain ⟨w1, b', dx', ws', x1, x2, x3⟩ := R.sl j _ h2
          cases y1
          cases x1
          exact ⟨.ref a, getD_some z1, .ref b, getD_some w1, a, b, dx, dx', ws, ws', rfl, rfl, hab, R.ex _ _ y2, R.ex _ _ x2, f _ B H Ex.refl (fun _ => ⟨Ex.refl, rfl⟩) R rfl⟩
        · cases e
      · cases e
    · cases e
theorem mDif_m {cls : Str} {i j : Nat} {ρ : Env} {a b : Addr} {fs gs : List (Str × U)} (h1 : ρ[i]? = some (.nam a (.ins cls fs))) (h2 : ρ[j]? = some (.nam b (.ins cls gs))) (hab : a ≠ b) : (mDif (K := K) cls i j).m ρ = some (.ok (.bl false) ρ) := by
  show (match ρ[i]?, ρ[j]? with
    | some (.nam a (.ins c fs)), some (.nam b (.ins c' gs)) => if decide (a ≠ b) = true then (if c = cls ∧ c' = cls then some (EO.ok (.bl false) ρ) else none) else none
    | _, _ => none) = _
  rw [h1, h2]
  dsimp only
  rw [if_pos (decide_eq_true hab), if_pos ⟨rfl, rfl⟩]
def noB : Hp := fun _ => none
def sclS : Slot → Slot
  | .val u => match scV u with
    | some _ => .val u
    | none => .non
  | _ => .non
theorem Rel.hideA {F : Fc} {ρ : Env} {σ : St} {B H : Hp} (R : Rel K F ρ σ B H) : Rel K ⟨noB, H, [], [], [], []⟩ (ρ.map sclS) σ noB H := by
  have key : ∀ (j : Nat) s, (ρ.map sclS)[j]? = some s → s.isC = false ∧ ∀ F', SlotOk K F' noB H s (σ.getD j none) := fun j s e => by
    rw [List.getElem?_map] at e
    cases c : ρ[j]? with
    | none => rw [c] at e; cases e
    | some t =>
      rw [c] at e
      have q := R.sl j t c
      cases e
      cases t with
      | val u =>
        show Slot.isC (match scV u with | some _ => Slot.val u | none => Slot.non) = false ∧ ∀ F', SlotOk K F' noB H (match scV u with | some _ => Slot.val u | none => Slot.non) _
        cases hu : scV u with
        | some z =>
          obtain ⟨v, e1, r⟩ := q
          exact ⟨rfl, fun _ => ⟨v, e1, (scV_rep hu r).2⟩⟩
        | none => exact ⟨rfl, fun _ => trivial⟩
      | _ => exact ⟨rfl, fun _ => trivial⟩
  refine ⟨by simp [R.len], fun a o e => (by cases e), fun j s e => (key j s e).2 _, fun j l s t p ne e1 e2 h1 h2 => ?_, Ex.refl, fun a o _ h => h, fun a o h => ⟨o, h⟩, fun a o h _ => h, fun a o h => by simp at h, fun a o h => by simp at h, by simp, fun j s e l => (by
    have := (key j s e).1
    cases s <;> first | (cases l; done) | (cases this; done))⟩
  rw [ow_no (key j s e1).1] at h1; cases h1
theorem Rel.unhideA {F : Fc} {ρ ρ1 : Env} {σ σ1 : St} {B H B1 H1 : Hp} (R : Rel K F ρ σ B H) (R1 : Rel K ⟨noB, H, [], [], [], []⟩ ρ1 σ1 B1 H1) : Go [] B H (un B B1) H1 ∧ Ex B1 (un B B1) ∧ (∀ p o, B1 p = some o → H p = none) := by
  have hh : ∀ a o, H a = some o → H1 a = some o := fun a o h => R1.hh a o (by simp) h
  refine ⟨⟨fun a o h => un_l h, fun a o h => ?_, fun a o _ h => hh a o h, fun a o h => R1.th a o h, fun a o n h => ?_⟩, fun a o h => ?_, fun p o h => ?_⟩
  · cases c : B a with
    | none => rw [un_r c] at h; exact R1.ex a o h
    | some o' => rw [un_l c] at h; cases h; exact hh a _ (R.ex a _ c)
  · rw [un_r n]
    exact R1.nw a o rfl h
  · cases c : B a with
    | none => rw [un_r c]; exact h
    | some o' =>
      rw [un_l c]
      have q1 := hh a _ (R.ex a _ c)
      rw [R1.ex a o h] at q1
      exact q1.symm
  · cases c : H p with
    | none => rfl
    | some o' => rw [R1.nw p o' rfl c] at h; cases h
def newIn (ρ : Env) (a : Addr) : Prop := ∀ (j : Nat) b c fs, ρ[j]? = some (.nam b (.ins c fs)) → a ≠ b
open Classical in
noncomputable def allP (φ : Addr → Addr → Prop) (g : Addr → Addr → Option SO) : Option SO := if h : ∃ o, ∀ a b, φ a b → g a b = some o then some h.choose else none
theorem allP_some {φ : Addr → Addr → Prop} {g : Addr → Addr → Option SO} {o : SO} (h : allP φ g = some o) {a b : Addr} (hp : φ a b) : g a b = some o := by
  unfold allP at h
  split at h
  · rename_i hh
    cases h
    exact hh.choose_spec a b hp
  · cases h
theorem allP_of {φ : Addr → Addr → Prop} {g : Addr → Addr → Option SO} {o : SO} {a b : Addr} (hp : φ a b) (h : ∀ a b, φ a b → g a b = some o) : allP φ g = some o := by
  have hh : ∃ o, ∀ a b, φ a b → g a b = some o := ⟨o, h⟩
  unfold allP
  rw [dif_pos hh]
  have := hh.choose_spec a b hp
  rw [h a b hp] at this
  exact this.symm
noncomputable def twoM (i j : Nat) (e1 e2 : ME K) (b : MS K) (ρ : Env) : Option SO :=
  match e1.m (ρ.map sclS) with
  | some (.ok (.ins c fs) _) => (match e2.m (ρ.map sclS) with
    | some (.ok (.ins c' gs) _) => allP (fun p q => p ≠ q ∧ newIn ρ p ∧ newIn ρ q) fun p q => (b.m ((ρ.set i (.nam p (.ins c fs))).set j (.nam q (.ins c' gs)))).bind endR
    | _ => none)
  | _ => none
theorem Rel.nam {F : Fc} {ρ : Env} {σ : St} {B H : Hp} {a : Addr} {u : U} (R : Rel K F ρ σ B H) (i : Nat) (r : Rep K B u (.ref a)) : Rel K F (ρ.set i (.nam a u)) (σ.set i (some (.ref a))) B H := by
  have z := R.setV (i := i) (u := u) (v := .ref a) r
  have z2 := z.put (i := i) (s := .nam a u) rfl
  rw [List.set_set] at z2
  by_cases c : i < σ.length
  · exact z2 ⟨by rw [getD_set c, if_pos rfl], r⟩
  · have l2 : ∀ s, ρ.set i s = ρ := fun s => List.set_eq_of_length_le (by have := R.len; omega)
    rw [l2]
    rw [List.set_eq_of_length_le (by omega)]
    exact R
noncomputable def msTwoI (i j : Nat) (e1 e2 : ME K) (b : MS K) (h1 : e1.k = true := by exact id rfl) (h2 : e2.k = true := by exact id rfl) : MS K where
  t := fun W => tSeq ((msParVV i j e1 e2 h1 h2).t W) (b.t W)
  m := twoM i j e1 e2 b
  ok := fun F W ρ σ B H D o q R f => by
    unfold twoM at q
    split at q
    · rename_i c fs ρx q1
      split at q
      · rename_i c' gs ρy q2
        refine e1.ok _ W _ σ _ H _ _ q1 R.hideA fun v1 B1 H1 x1 p1 R1 r1 => ?_
        rw [h1, if_pos rfl] at r1
        obtain ⟨g, xu, hnew⟩ := R.unhideA R1
        have R2 := R.grow g
        refine e2.ok _ W _ σ _ H1 _ _ q2 R2.hideA fun v2 B2 H2 x2 p2 R3 r2 => ?_
        rw [h2, if_pos rfl] at r2
        obtain ⟨g2, xu2, hnew2⟩ := R2.unhideA R3
        obtain ⟨a, dx, ws, rfl, ha, ra⟩ := r1
        obtain ⟨p, dy, ws', rfl, hp, rp⟩ := r2
        have na : H a = none := hnew a _ ha
        have npp : H1 p = none := hnew2 p _ hp
        have ne : a ≠ p := fun z => by
          subst z
          rw [R1.ex _ _ ha] at npp
          cases npp
        have fresh : ∀ z, H z = none → newIn ρ z := fun z hz n b cc ff e w => by
          obtain ⟨_, a', dd, vv, y1, y2, _⟩ := R.sl n _ e
          cases y1
          subst w
          rw [R.ex _ _ y2] at hz
          cases hz
        have np0 : H p = none := by
          cases cc : H p with
          | none => rfl
          | some o' => rw [R1.hh p o' (by simp) cc] at npp; cases npp
        have hm := allP_some q ⟨ne, fresh a na, fresh p np0⟩
        obtain ⟨o1, m1, m2⟩ := Option.bind_eq_some_iff.mp hm
        have ra' : Rep K (un (un B B1) B2) (.ins c fs) (.ref a) := Rep.mono (xu.trans g2.bb) _ _ ⟨a, dx, ws, rfl, ha, ra⟩
        have rp' : Rep K (un (un B B1) B2) (.ins c' gs) (.ref p) := Rep.mono xu2 _ _ ⟨p, dy, ws', rfl, hp, rp⟩
        have R4 := ((R2.grow g2).nam i ra').nam j rp'
        refine ⟨.ref a, .ref p, rfl, ?_⟩
        refine b.ok F W _ _ _ H2 D o1 m1 R4 ?_
        cases o1 with
        | rt w ρ1 =>
          cases w with
          | val w =>
            obtain rfl := (endR_some m2).symm
            exact fun v σ' B' H' x R' rr => f v σ' B' H' ((g.bb.trans g2.bb).trans x) R'.noneE rr
          | cel us => cases m2
          | dcl us => cases m2
        | _ => cases m2
      · cases q
    · cases q
theorem msTwoI_of {i j : Nat} {e1 e2 : ME K} {b : MS K} {h1 h2} {ρ ρx ρy : Env} {c c' : Str} {fs gs : List (Str × U)} {o : SO} {a0 b0 : Addr} (q1 : e1.m (ρ.map sclS) = some (.ok (.ins c fs) ρx)) (q2 : e2.m (ρ.map sclS) = some (.ok (.ins c' gs) ρy)) (hx : a0 ≠ b0 ∧ newIn ρ a0 ∧ newIn ρ b0)
    (h : ∀ p q, p ≠ q → newIn ρ p → newIn ρ q → (b.m ((ρ.set i (.nam p (.ins c fs))).set j (.nam q (.ins c' gs)))).bind endR = some o) : (msTwoI i j e1 e2 b h1 h2).m ρ = some o := by
  show twoM i j e1 e2 b ρ = _
  unfold twoM
  rw [q1]
  dsimp only
  rw [q2]
  exact allP_of hx fun p q hp => h p q hp.1 hp.2.1 hp.2.2
section
variable {X : Cx} {W : WX} {A E : ME X.K} {Z : MS X.K} {st : Stmt} {rest : List Stmt}
theorem stwoI {i j : Nat} {h h'} (hs : PS X st ((msParVV i j A E h h').t W)) (hr : PSs X rest (Z.t W)) : PSs X (st :: rest) ((msTwoI i j A E Z h h').t W) := show PSs X (st :: rest) (tSeq ((msParVV i j A E h h').t W) (Z.t W)) from pss_cons hs hr
theorem tdif {cls : Str} {i j : Nat} {x y : Str} {p1 p2 p3 : Pos} {k : Nat} (hC : eqcB X.K cls = true) (hr : Room k X.A) (ha : PE X (.Name x p1) ((mVar (K := X.K) i).t W)) (hb : PE X (.Name y p2) ((mVar (K := X.K) j).t W)) (hm : behindInMarks .Eq (.Name y p2) = false := by first | exact nomark _ | rfl) : PT X (.Compare (.Name x p1) [.Eq] [.Name y p2] p3) ((mTest (mDif (K := X.K) cls i j)).t W) := pt_cmpR (GID.op_dif (eqc_of hC) (by have := hr.un; omega)) ha hb hm
end
end Sg
set_option Elab.async false
set_option linter.all false
set_option maxRecDepth 100000
set_option maxHeartbeats 400000
namespace Sg
open PySem L2
def topS (i : Nat) : Stmt := PySem.Challenge.pw_signsheets_k81_texts_both_ways.main.body.getD i (.Pass ⟨0, 0, 0, 0⟩)
abbrev s__law_next : Stmt := topS 30
abbrev N__law_next : List Str := ["_law_tape_here", "_law_size", "_law_mixed", "_law_digit"]
theorem sc__law_next : FnScope N__law_next ["_law_tape_here", "_law_size"] (defScope s__law_next) := ⟨rfl, rfl, rfl, by decide +kernel, rfl, by decide +kernel, by decide +kernel⟩
noncomputable def M__law_next (K : PySem.W.Frag) : MS K :=
  (msSeq (msIf (mTest (mOp oGt (mIx oIx (mLook 0) (mC (.int 0) (.int 0))) (mC (.int 0) (.int 0))))
  (msSeq (msAsg (mOp oMod (mIx oIx (mLook 0) (mC (.int 0) (.int 0))) (mVar 1)) (mgName 3))
  (msSeq (msSet 0 (mC (.int 0) (.int 0)) (mOp oDiv (mIx oIx (mLook 0) (mC (.int 0) (.int 0))) (mVar 1)))
  (msRet (mVar 3))))
  msNil)
  (msSeq (msSet 0 (mC (.int 2) (.int 2)) (mOp oAdd (mIx oIx (mLook 0) (mC (.int 2) (.int 2))) (mC (.int 1) (.int 1))))
  (msSeq (msAsg (mOp oMod (mOp oPowX (mOp oAdd (mIx oIx (mLook 0) (mC (.int 1) (.int 1))) (mOp oMul (mC (.int 20000003) (.int 20000003)) (mIx oIx (mLook 0) (mC (.int 2) (.int 2))))) (mC (.int 3) (.int 3))) (mOp oAdd (mOp oPow (mC (.int 10) (.int 10)) (mC (.int 40) (.int 40))) (mC (.int 121) (.int 121)))) (mgName 2))
  (msSeq (msAsg (mOp oMod (mOp oPowX (mOp oAdd (mVar 2) (mOp oMul (mC (.int 49979687) (.int 49979687)) (mIx oIx (mLook 0) (mC (.int 2) (.int 2))))) (mC (.int 3) (.int 3))) (mOp oAdd (mOp oPow (mC (.int 10) (.int 10)) (mC (.int 37) (.int 37))) (mC (.int 43) (.int 43)))) (mgName 2))
  (msRet (mOp oMod (mOp oDiv (mVar 2) (mC (.int 8191) (.int 8191))) (mVar 1)))))))
noncomputable def mf__law_next (K : PySem.W.Frag) : List Slot → Option CO := mfOf0 4 (M__law_next K).m
abbrev s__law_kind : Stmt := topS 32
abbrev N__law_kind : List Str := ["_law_tape_here"]
theorem sc__law_kind : FnScope N__law_kind ["_law_tape_here"] (defScope s__law_kind) := ⟨rfl, rfl, rfl, by decide +kernel, rfl, by decide +kernel, by decide +kernel⟩
noncomputable def M__law_kind (K : PySem.W.Frag) : MS K :=
  (msRet (mIx oIx (mFr (mLst (mCons (mC (.str "plain") (.str "plain")) (mCons (mC (.str "next") (.str "next")) (mCons (mC (.str "single") (.str "single")) (mCons (mC (.str "block") (.str "block")) (mCons (mC (.str "later") (.str "later")) mNil))))))) (mCall 2 (mf__law_next K) (mcCel 0 (mcVal (mC (.int 5) (.int 5)) mcNil)))))
noncomputable def mf__law_kind (K : PySem.W.Frag) : List Slot → Option CO := mfOf0 1 (M__law_kind K).m
abbrev s__law_runs : Stmt := topS 33
abbrev N__law_runs : List Str := ["_law_tape_here", "_law_many", "_law_found", "_law_top", "_law_at", "_law_sign", "_law_count"]
theorem sc__law_runs : FnScope N__law_runs ["_law_tape_here", "_law_many"] (defScope s__law_runs) := ⟨rfl, rfl, rfl, by decide +kernel, rfl, by decide +kernel, by decide +kernel⟩
noncomputable def G__law_runs_0 (K : PySem.W.Frag) : MG K :=
  (mgName 4)
noncomputable def B__law_runs_1 (K : PySem.W.Frag) : MS K :=
  (msSeq (msAsg (mOp oAdd (mC (.int 1) (.int 1)) (mCall 2 (mf__law_next K) (mcCel 0 (mcVal (mVar 3) mcNil)))) (mgName 5))
  (msSeq (msIf (mAnd (mTest (mOp oNe (mLook 2) (mFr (mLst mNil)))) (mTest (mOp oEq (mIx oIx (mIx oIx (mLook 2) (mUn oNeg (mC (.int 1) (.int 1)))) (mC (.int 0) (.int 0))) (mVar 5))))
  (msAsg (mOp oAdd (mOp oMod (mVar 5) (mVar 3)) (mC (.int 1) (.int 1))) (mgName 5))
  msNil)
  (msSeq (msAsg (mIx oIx (mFr (mLst (mCons (mC (.int 1) (.int 1)) (mCons (mOp oAdd (mC (.int 1) (.int 1)) (mCall 2 (mf__law_next K) (mcCel 0 (mcVal (mC (.int 3) (.int 3)) mcNil)))) (mCons (mOp oAdd (mC (.int 1) (.int 1)) (mCall 2 (mf__law_next K) (mcCel 0 (mcVal (mOp oPow (mC (.int 10) (.int 10)) (mC (.int 18) (.int 18))) mcNil)))) (mCons (mOp oSub (mOp oMul (mOp oPow (mC (.int 10) (.int 10)) (mC (.int 30) (.int 30))) (mOp oPow (mC (.int 10) (.int 10)) (mC (.int 30) (.int 30)))) (mC (.int 1) (.int 1))) mNil)))))) (mCall 2 (mf__law_next K) (mcCel 0 (mcVal (mC (.int 4) (.int 4)) mcNil)))) (mgName 6))
  (msDrop (mMeth 2 oAppend (mCons (mTup (mCons (mVar 5) (mCons (mVar 6) mNil))) mNil))))))
noncomputable def M__law_runs (K : PySem.W.Frag) : MS K :=
  (msSeq (msParFV 2 3 (mLst mNil) (mIx oIx (mFr (mLst (mCons (mC (.int 2) (.int 2)) (mCons (mC (.int 10) (.int 10)) (mCons (mC (.int 60) (.int 60)) mNil))))) (mCall 2 (mf__law_next K) (mcCel 0 (mcVal (mC (.int 3) (.int 3)) mcNil)))))
  (msSeq (msFor (miRng1 (mVar 1)) (G__law_runs_0 K)
  (B__law_runs_1 K)
  [4, 5, 6])
  (msRetC 2)))
noncomputable def mf__law_runs (K : PySem.W.Frag) : List Slot → Option CO := mfOf0 7 (M__law_runs K).m
abbrev s__law_scale : Stmt := topS 31
abbrev N__law_scale : List Str := ["_law_tape_here", "_law_most", "_law_count", "_law_some", "_law_style", "_law_left", "_law_turn"]
theorem sc__law_scale : FnScope N__law_scale ["_law_tape_here", "_law_most"] (defScope s__law_scale) := ⟨rfl, rfl, rfl, by decide +kernel, rfl, by decide +kernel, by decide +kernel⟩
noncomputable def G__law_scale_0 (K : PySem.W.Frag) : MG K :=
  (mgName 6)
noncomputable def T__law_scale_1 (K : PySem.W.Frag) : MTs K :=
  mtYes
noncomputable def E__law_scale_2 (K : PySem.W.Frag) : ME K :=
  (mMeth 5 oPopAt (mCons (mCall 2 (mf__law_next K) (mcCel 0 (mcVal (mBi oLen (mCons (mLook 5) mNil)) mcNil))) mNil))
noncomputable def M__law_scale (K : PySem.W.Frag) : MS K :=
  (msSeq (msAsg (mOp oAdd (mC (.int 1) (.int 1)) (mCall 2 (mf__law_next K) (mcCel 0 (mcVal (mVar 1) mcNil)))) (mgName 2))
  (msSeq (msAsg (mFr (mLst (mCons (mFr (mLst (mCons (mC (.int 1) (.int 1)) (mCons (mC (.int 2) (.int 2)) (mCons (mC (.int 3) (.int 3)) (mCons (mC (.int 4) (.int 4)) (mCons (mC (.int 5) (.int 5)) (mCons (mC (.int 6) (.int 6)) mNil)))))))) (mCons (mFr (mLst (mCons (mC (.int 1) (.int 1)) (mCons (mC (.int 2) (.int 2)) (mCons (mC (.int 4) (.int 4)) (mCons (mC (.int 8) (.int 8)) (mCons (mC (.int 16) (.int 16)) (mCons (mC (.int 32) (.int 32)) mNil)))))))) (mCons (mFr (mLst (mCons (mC (.int 1) (.int 1)) (mCons (mC (.int 5) (.int 5)) (mCons (mC (.int 10) (.int 10)) (mCons (mC (.int 20) (.int 20)) (mCons (mC (.int 50) (.int 50)) (mCons (mC (.int 60) (.int 60)) mNil)))))))) (mCons (mFr (mLst (mCons (mC (.int 2) (.int 2)) (mCons (mC (.int 3) (.int 3)) (mCons (mC (.int 4) (.int 4)) (mCons (mC (.int 5) (.int 5)) (mCons (mC (.int 9) (.int 9)) (mCons (mC (.int 60) (.int 60)) mNil)))))))) mNil)))))) (mgName 3))
  (msSeq (msAsg (mCall 2 (mf__law_next K) (mcCel 0 (mcVal (mC (.int 6) (.int 6)) mcNil))) (mgName 4))
  (msSeq (msIf (mTest (mOp oLt (mVar 4) (mC (.int 4) (.int 4))))
  (msRet (mFr (mSlL (mIx oIx (mVar 3) (mVar 4)) moNone (moSome (mVar 2)))))
  msNil)
  (msSeq (msAsgF (mListRng (mC (.int 1) (.int 1)) (mIx oIx (mFr (mLst (mCons (mC (.int 16) (.int 16)) (mCons (mC (.int 61) (.int 61)) mNil)))) (mOp oSub (mVar 4) (mC (.int 4) (.int 4))))) 5)
  (msRet (mFr (mBiF oSorted (mCons (mFr (mLc (miRng1 (mVar 2)) (G__law_scale_0 K) (T__law_scale_1 K) (E__law_scale_2 K) [6])) mNil)))))))))
noncomputable def mf__law_scale (K : PySem.W.Frag) : List Slot → Option CO := mfOf0 7 (M__law_scale K).m
abbrev s_number_in : Stmt := topS 20
abbrev N_number_in : List Str := ["text", "most", "digit"]
theorem sc_number_in : FnScope N_number_in ["text", "most"] (defScope s_number_in) := ⟨rfl, rfl, rfl, by decide +kernel, rfl, by decide +kernel, by decide +kernel⟩
noncomputable def G_number_in_0 (K : PySem.W.Frag) : MG K :=
  (mgName 2)
noncomputable def T_number_in_1 (K : PySem.W.Frag) : MTs K :=
  mtYes
noncomputable def E_number_in_2 (K : PySem.W.Frag) : ME K :=
  (mOp (oInS false) (mVar 2) (mC (.str "0123456789") (.str "0123456789")))
noncomputable def M_number_in (K : PySem.W.Frag) : MS K :=
  (msSeq (msIf (mOr (mNot (mTest (mChain oLe oLe (mC (.int 1) (.int 1)) (mBi oLen (mCons (mVar 0) mNil)) (mVar 1)))) (mTest (mOp oEqS (mOp oIxS (mVar 0) (mC (.int 0) (.int 0))) (mC (.str "0") (.str "0")))))
  (msRet (mC .non .non))
  msNil)
  (msRet (mIf (mTest (mBi oAll (mCons (mFr (mLc (miStr (mVar 0)) (G_number_in_0 K) (T_number_in_1 K) (E_number_in_2 K) [2])) mNil))) (mBi oIntS (mCons (mVar 0) mNil)) (mC .non .non))))
noncomputable def mf_number_in (K : PySem.W.Frag) : List Slot → Option CO := mfOf0 3 (M_number_in K).m
abbrev s_sign_in : Stmt := topS 21
abbrev N_sign_in : List Str := ["text", "found"]
theorem sc_sign_in : FnScope N_sign_in ["text"] (defScope s_sign_in) := ⟨rfl, rfl, rfl, by decide +kernel, rfl, by decide +kernel, by decide +kernel⟩
noncomputable def M_sign_in (K : PySem.W.Frag) : MS K :=
  (msSeq (msAsg (mCall 2 (mf_number_in K) (mcVal (mVar 0) (mcVal (mBi oLen (mCons (mBi oStrI (mCons (mC (.int 60) (.int 60)) mNil)) mNil)) mcNil))) (mgName 1))
  (msRet (mIf (mAnd (mTest (mOp oNotN (mVar 1) (mC .non .non))) (mTest (mOp oLe (mVar 1) (mC (.int 60) (.int 60))))) (mVar 1) (mC .non .non))))
noncomputable def mf_sign_in (K : PySem.W.Frag) : List Slot → Option CO := mfOf0 2 (M_sign_in K).m
abbrev s_is_integer : Stmt := topS 7
abbrev N_is_integer : List Str := ["thing", "least"]
theorem sc_is_integer : FnScope N_is_integer ["thing", "least"] (defScope s_is_integer) := ⟨rfl, rfl, rfl, by decide +kernel, rfl, by decide +kernel, by decide +kernel⟩
noncomputable def M_is_integer (K : PySem.W.Frag) : MS K :=
  (msRet (mAndV (mIsi "int" (mVar 0)) (mAndV (mNotV (mIsi "bool" (mVar 0))) (mOp oGe (mVar 0) (mVar 1)))))
noncomputable def mf_is_integer (K : PySem.W.Frag) : List Slot → Option CO := mfOf0 2 (M_is_integer K).m
abbrev s_are_values : Stmt := topS 11
abbrev N_are_values : List Str := ["thing", "value", "one", "other"]
theorem sc_are_values : FnScope N_are_values ["thing"] (defScope s_are_values) := ⟨rfl, rfl, rfl, by decide +kernel, rfl, by decide +kernel, by decide +kernel⟩
noncomputable def G_are_values_0 (K : PySem.W.Frag) : MG K :=
  (mgName 1)
noncomputable def T_are_values_1 (K : PySem.W.Frag) : MTs K :=
  mtYes
noncomputable def E_are_values_2 (K : PySem.W.Frag) : ME K :=
  (mAndV (mCall 2 (mf_is_integer K) (mcVal (mVar 1) (mcVal (mC (.int 1) (.int 1)) mcNil))) (mOp oLe (mVar 1) (mC (.int 60) (.int 60))))
noncomputable def G_are_values_3 (K : PySem.W.Frag) : MG K :=
  (mgTup 2 (mgCons (mgName 2) (mgCons (mgName 3) mgNil)))
noncomputable def T_are_values_4 (K : PySem.W.Frag) : MTs K :=
  mtYes
noncomputable def E_are_values_5 (K : PySem.W.Frag) : ME K :=
  (mOp oLt (mVar 2) (mVar 3))
noncomputable def M_are_values (K : PySem.W.Frag) : MS K :=
  (msSeq (msIf (mOr (mNot (mTest (mIsi "list" (mVar 0)))) (mNot (mTest (mChain oLe oLe (mC (.int 1) (.int 1)) (mBi oLen (mCons (mVar 0) mNil)) (mConC "System" (.int 6) (mC (.ref (He.ga K "System")) (.ref (He.ga K "System"))))))))
  (msRet (mC (.bl false) (.bl false)))
  msNil)
  (msSeq (msIf (mNot (mTest (mBi oAll (mCons (mFr (mLc (miList (mVar 0)) (G_are_values_0 K) (T_are_values_1 K) (E_are_values_2 K) [1])) mNil))))
  (msRet (mC (.bl false) (.bl false)))
  msNil)
  (msRet (mBi oAll (mCons (mFr (mLc (miZip (mVar 0) (mFr (mSlL (mVar 0) (moSome (mC (.int 1) (.int 1))) moNone))) (G_are_values_3 K) (T_are_values_4 K) (E_are_values_5 K) [2, 3])) mNil)))))
noncomputable def mf_are_values (K : PySem.W.Frag) : List Slot → Option CO := mfOf0 4 (M_are_values K).m
abbrev s_is_rule : Stmt := topS 12
abbrev N_is_rule : List Str := ["thing"]
theorem sc_is_rule : FnScope N_is_rule ["thing"] (defScope s_is_rule) := ⟨rfl, rfl, rfl, by decide +kernel, rfl, by decide +kernel, by decide +kernel⟩
noncomputable def M_is_rule (K : PySem.W.Frag) : MS K :=
  (msRet (mAndV (mIsi "str" (mVar 0)) (mOp (oIn false) (mVar 0) (mConC "Rule" (.tup ((["plain", "single", "next", "block", "later"] : List Str).map U.str)) (mC (.ref (He.ga K "Rule")) (.ref (He.ga K "Rule")))))))
noncomputable def mf_is_rule (K : PySem.W.Frag) : List Slot → Option CO := mfOf0 1 (M_is_rule K).m
abbrev s_System___init__ : Stmt := inClass (topS 14) 1
abbrev N_System___init__ : List Str := ["self", "rule", "values"]
theorem sc_System___init__ : FnScope N_System___init__ ["self", "rule", "values"] (defScope s_System___init__) := ⟨rfl, rfl, rfl, by decide +kernel, rfl, by decide +kernel, by decide +kernel⟩
noncomputable def MN_System (K : PySem.W.Frag) : MN K :=
  (mnSeq (mnS (msIf (mOr (mNot (mTru (mCall 1 (mf_are_values K) (mcVal (mFr (mBiF oList (mCons (mVar 2) mNil))) mcNil)))) (mNot (mTru (mCall 1 (mf_is_rule K) (mcVal (mVar 1) mcNil)))))
  (msRaise "InvalidValues")
  msNil))
  (mnSeq (mnF "held_values" (mFr (mBiF oList (mCons (mVar 2) mNil))))
  (mnF "held_rule" (mVar 1))))
abbrev s_System_of : Stmt := inClass (topS 14) 2
abbrev N_System_of : List Str := ["cls", "values", "rule"]
theorem sc_System_of : FnScope N_System_of ["cls", "values", "rule"] (defScope s_System_of) := ⟨rfl, rfl, rfl, by decide +kernel, rfl, by decide +kernel, by decide +kernel⟩
noncomputable def M_System_of (K : PySem.W.Frag) : MS K :=
  (msSeq (msIf (mNot (mTru (mCall 1 (mf_are_values K) (mcVal (mVar 1) mcNil))))
  (msRaise "InvalidValues")
  msNil)
  (msRet (mMakeL 0 "System" 3 (MN_System K) (mVar 1) (mVar 2))))
noncomputable def mf_System_of (K : PySem.W.Frag) : List Slot → Option CO := mfOf 3 (M_System_of K).m
abbrev s_InvalidText___init__ : Stmt := inClass (topS 4) 0
theorem sc_InvalidText___init__ : FnScope ["self", "index"] ["self", "index"] (defScope s_InvalidText___init__) := ⟨rfl, rfl, rfl, by decide +kernel, rfl, by decide +kernel, by decide +kernel⟩
abbrev s_read_system : Stmt := topS 27
abbrev N_read_system : List Str := ["text", "name", "parts", "values", "index", "part", "value"]
theorem sc_read_system : FnScope N_read_system ["text"] (defScope s_read_system) := ⟨rfl, rfl, rfl, by decide +kernel, rfl, by decide +kernel, by decide +kernel⟩
noncomputable def G_read_system_0 (K : PySem.W.Frag) : MG K :=
  (mgTup 2 (mgCons (mgName 4) (mgCons (mgName 5) mgNil)))
noncomputable def B_read_system_1 (K : PySem.W.Frag) : MS K :=
  (msSeq (msAsg (mCall 1 (mf_sign_in K) (mcVal (mVar 5) mcNil)) (mgName 6))
  (msSeq (msIf (mOr (mTest (mOp oIsN (mVar 6) (mC .non .non))) (mOr (mTest (mOp oGe (mBi oLen (mCons (mLook 3) mNil)) (mConC "System" (.int 6) (mC (.ref (He.ga K "System")) (.ref (He.ga K "System")))))) (mAnd (mTest (mOp oNe (mLook 3) (mFr (mLst mNil)))) (mTest (mOp oLe (mVar 6) (mIx oIx (mLook 3) (mUn oNeg (mC (.int 1) (.int 1)))))))))
  (msRaiseF "InvalidText" "index" (mVar 4))
  msNil)
  (msDrop (mMeth 3 oAppend (mCons (mVar 6) mNil)))))
noncomputable def M_read_system (K : PySem.W.Frag) : MS K :=
  (msSeq (msStar (mFr (mSplit " " (mVar 0))) 1 2)
  (msSeq (msIf (mTest (mOp (oIn true) (mVar 1) (mConC "Rule" (.tup ((["plain", "single", "next", "block", "later"] : List Str).map U.str)) (mC (.ref (He.ga K "Rule")) (.ref (He.ga K "Rule"))))))
  (msRaiseF "InvalidText" "index" (mC (.int 0) (.int 0)))
  msNil)
  (msSeq (msAsgF (mLst mNil) 3)
  (msSeq (msFor (miEnumF (mVar 2) 1) (G_read_system_0 K)
  (B_read_system_1 K)
  [4, 5, 6])
  (msSeq (msIf (mTest (mOp oEq (mLook 3) (mFr (mLst mNil))))
  (msRaiseF "InvalidText" "index" (mC (.int 1) (.int 1)))
  msNil)
  (msRet (mCMeth "System" 3 (mf_System_of K) (mcVal (mLet 3) (mcVal (mVar 1) mcNil)))))))))
noncomputable def mf_read_system (K : PySem.W.Frag) : List Slot → Option CO := mfOf 7 (M_read_system K).m
abbrev s_System_row : Stmt := inClass (topS 14) 3
abbrev N_System_row : List Str := ["self"]
theorem sc_System_row : FnScope N_System_row ["self"] (defScope s_System_row) := ⟨rfl, rfl, rfl, by decide +kernel, rfl, by decide +kernel, by decide +kernel⟩
noncomputable def M_System_row (K : PySem.W.Frag) : MS K :=
  (msRet (mFr (mBiF oList (mCons (mFld "held_values" ["System"] (mVar 0)) mNil))))
noncomputable def mf_System_row (K : PySem.W.Frag) : List Slot → Option CO := mfOf0 1 (M_System_row K).m
noncomputable def ptab_row (K : PySem.W.Frag) : MTab := [("System", mf_System_row K)]
abbrev s_System_rule : Stmt := inClass (topS 14) 4
abbrev N_System_rule : List Str := ["self"]
theorem sc_System_rule : FnScope N_System_rule ["self"] (defScope s_System_rule) := ⟨rfl, rfl, rfl, by decide +kernel, rfl, by decide +kernel, by decide +kernel⟩
noncomputable def M_System_rule (K : PySem.W.Frag) : MS K :=
  (msRet (mFld "held_rule" ["System"] (mVar 0)))
noncomputable def mf_System_rule (K : PySem.W.Frag) : List Slot → Option CO := mfOf0 1 (M_System_rule K).m
noncomputable def ptab_rule (K : PySem.W.Frag) : MTab := [("System", mf_System_rule K)]
abbrev s_write_system : Stmt := topS 26
abbrev N_write_system : List Str := ["system", "value"]
theorem sc_write_system : FnScope N_write_system ["system"] (defScope s_write_system) := ⟨rfl, rfl, rfl, by decide +kernel, rfl, by decide +kernel, by decide +kernel⟩
noncomputable def G_write_system_0 (K : PySem.W.Frag) : MG K :=
  (mgName 1)
noncomputable def T_write_system_1 (K : PySem.W.Frag) : MTs K :=
  mtYes
noncomputable def E_write_system_2 (K : PySem.W.Frag) : ME K :=
  (mBi oStrI (mCons (mVar 1) mNil))
noncomputable def M_write_system (K : PySem.W.Frag) : MS K :=
  (msRet (mJoin " " (mFr (mCat (mFr (mLst (mCons (mProp (ptab_rule K) (mVar 0)) mNil))) (mFr (mLc (miList (mProp (ptab_row K) (mVar 0))) (G_write_system_0 K) (T_write_system_1 K) (E_write_system_2 K) [1]))))))
noncomputable def mf_write_system (K : PySem.W.Frag) : List Slot → Option CO := mfOf0 2 (M_write_system K).m
abbrev s_common_divisor : Stmt := topS 13
abbrev N_common_divisor : List Str := ["values", "found", "value", "other"]
theorem sc_common_divisor : FnScope N_common_divisor ["values"] (defScope s_common_divisor) := ⟨rfl, rfl, rfl, by decide +kernel, rfl, by decide +kernel, by decide +kernel⟩
noncomputable def W_common_divisor_0 (K : PySem.W.Frag) : MT K :=
  (mTest (mOp oGt (mVar 3) (mC (.int 0) (.int 0))))
noncomputable def B_common_divisor_1 (K : PySem.W.Frag) : MS K :=
  (msParVV 1 3 (mVar 3) (mOp oMod (mVar 1) (mVar 3)))
noncomputable def G_common_divisor_2 (K : PySem.W.Frag) : MG K :=
  (mgName 2)
noncomputable def B_common_divisor_3 (K : PySem.W.Frag) : MS K :=
  (msSeq (msAsg (mVar 2) (mgName 3))
  (msWhile 1000 (W_common_divisor_0 K)
  (B_common_divisor_1 K)))
noncomputable def M_common_divisor (K : PySem.W.Frag) : MS K :=
  (msSeq (msAsg (mIx oIx (mVar 0) (mC (.int 0) (.int 0))) (mgName 1))
  (msSeq (msFor (miList (mFr (mSlL (mVar 0) (moSome (mC (.int 1) (.int 1))) moNone))) (G_common_divisor_2 K)
  (B_common_divisor_3 K)
  [2, 3])
  (msRet (mVar 1))))
noncomputable def mf_common_divisor (K : PySem.W.Frag) : List Slot → Option CO := mfOf0 4 (M_common_divisor K).m
abbrev s_System_divisor : Stmt := inClass (topS 14) 6
abbrev N_System_divisor : List Str := ["self"]
theorem sc_System_divisor : FnScope N_System_divisor ["self"] (defScope s_System_divisor) := ⟨rfl, rfl, rfl, by decide +kernel, rfl, by decide +kernel, by decide +kernel⟩
noncomputable def M_System_divisor (K : PySem.W.Frag) : MS K :=
  (msRet (mCall 1 (mf_common_divisor K) (mcVal (mFld "held_values" ["System"] (mVar 0)) mcNil)))
noncomputable def mf_System_divisor (K : PySem.W.Frag) : List Slot → Option CO := mfOf0 1 (M_System_divisor K).m
noncomputable def ptab_divisor (K : PySem.W.Frag) : MTab := [("System", mf_System_divisor K)]
abbrev s_System_greatest : Stmt := inClass (topS 14) 5
abbrev N_System_greatest : List Str := ["self"]
theorem sc_System_greatest : FnScope N_System_greatest ["self"] (defScope s_System_greatest) := ⟨rfl, rfl, rfl, by decide +kernel, rfl, by decide +kernel, by decide +kernel⟩
noncomputable def M_System_greatest (K : PySem.W.Frag) : MS K :=
  (msRet (mIx oIx (mFld "held_values" ["System"] (mVar 0)) (mUn oNeg (mC (.int 1) (.int 1)))))
noncomputable def mf_System_greatest (K : PySem.W.Frag) : List Slot → Option CO := mfOf0 1 (M_System_greatest K).m
noncomputable def ptab_greatest (K : PySem.W.Frag) : MTab := [("System", mf_System_greatest K)]
abbrev s__law_shown : Stmt := topS 36
abbrev N__law_shown : List Str := ["_law_numerals"]
theorem sc__law_shown : FnScope N__law_shown ["_law_numerals"] (defScope s__law_shown) := ⟨rfl, rfl, rfl, by decide +kernel, rfl, by decide +kernel, by decide +kernel⟩
noncomputable def M__law_shown (K : PySem.W.Frag) : MS K :=
  (msRet (mFr (mLst (mCons (mProp (ptab_row K) (mVar 0)) (mCons (mProp (ptab_rule K) (mVar 0)) (mCons (mProp (ptab_greatest K) (mVar 0)) (mCons (mProp (ptab_divisor K) (mVar 0)) mNil)))))))
noncomputable def mf__law_shown (K : PySem.W.Frag) : List Slot → Option CO := mfOf0 1 (M__law_shown K).m
abbrev s_System_with_rule : Stmt := inClass (topS 14) 7
abbrev N_System_with_rule : List Str := ["self", "rule"]
theorem sc_System_with_rule : FnScope N_System_with_rule ["self", "rule"] (defScope s_System_with_rule) := ⟨rfl, rfl, rfl, by decide +kernel, rfl, by decide +kernel, by decide +kernel⟩
noncomputable def M_System_with_rule (K : PySem.W.Frag) : MS K :=
  (msRet (mMakeS "System" 3 (MN_System K) (mFld "held_values" ["System"] (mVar 0)) (mVar 1)))
noncomputable def mf_System_with_rule (K : PySem.W.Frag) : List Slot → Option CO := mfOf 2 (M_System_with_rule K).m
noncomputable def tab_with_rule (K : PySem.W.Frag) : MTab := [("System", mf_System_with_rule K)]
abbrev s__law_system_right : Stmt := topS 37
abbrev N__law_system_right : List Str := ["_law_scale_here", "_law_kind_here", "_law_numerals", "_law_due", "_law_shown_here", "_law_told", "_law_again", "_law_other", "_law_sign"]
theorem sc__law_system_right : FnScope N__law_system_right ["_law_scale_here", "_law_kind_here"] (defScope s__law_system_right) := ⟨rfl, rfl, rfl, by decide +kernel, rfl, by decide +kernel, by decide +kernel⟩
noncomputable def G__law_system_right_0 (K : PySem.W.Frag) : MG K :=
  (mgName 8)
noncomputable def T__law_system_right_1 (K : PySem.W.Frag) : MTs K :=
  mtYes
noncomputable def E__law_system_right_2 (K : PySem.W.Frag) : ME K :=
  (mBi oStrI (mCons (mVar 8) mNil))
noncomputable def B__law_system_right_3 (K : PySem.W.Frag) : MS K :=
  (msSeq (msIf (mOr (mTest (mOp oNeS (mBi oRepr (mCons (mFr (mLst (mCons (mCall 1 (mf__law_shown K) (mcVal (mVar 5) mcNil)) (mCons (mCall 1 (mf__law_shown K) (mcVal (mVar 6) mcNil)) mNil)))) mNil)) (mBi oRepr (mCons (mFr (mLst (mCons (mVar 4) (mCons (mVar 4) mNil)))) mNil)))) (mOr (mTest (mDif "System" 5 6)) (mTest (mDif "System" 5 2))))
  (msRet (mC (.bl false) (.bl false)))
  msNil)
  (msSeq (msAsg (mMethD "with_rule" 2 (tab_with_rule K) (mVar 5) (mcVal (mC (.str "later") (.str "later")) mcNil)) (mgName 7))
  (msRet (mAndV (mOp oEq (mFr (mSplit " " (mCall 1 (mf_write_system K) (mcVal (mVar 7) mcNil)))) (mFr (mCat (mFr (mLst (mCons (mC (.str "later") (.str "later")) mNil))) (mFr (mSlL (mFr (mSplit " " (mVar 3))) (moSome (mC (.int 1) (.int 1))) moNone))))) (mOp oEq (mCall 1 (mf_write_system K) (mcVal (mVar 5) mcNil)) (mVar 3))))))
noncomputable def B__law_system_right_4 (K : PySem.W.Frag) : MS K :=
  (msSeq (msParVV 3 4 (mJoin " " (mFr (mCat (mFr (mLst (mCons (mVar 1) mNil))) (mFr (mLc (miList (mVar 0)) (G__law_system_right_0 K) (T__law_system_right_1 K) (E__law_system_right_2 K) [8]))))) (mCall 1 (mf__law_shown K) (mcVal (mVar 2) mcNil)))
  (msSeq (msIf (mTest (mOp oNeS (mBi oRepr (mCons (mFr (mLst (mCons (mCall 1 (mf_write_system K) (mcVal (mVar 2) mcNil)) (mCons (mCallK 1 [0] (mf_write_system K) (mcVal (mVar 2) mcNil)) mNil)))) mNil)) (mBi oRepr (mCons (mFr (mLst (mCons (mVar 3) (mCons (mVar 3) mNil)))) mNil))))
  (msRet (mC (.bl false) (.bl false)))
  msNil)
  (msTwoI 5 6 (mCall 1 (mf_read_system K) (mcVal (mVar 3) mcNil)) (mCallK 1 [0] (mf_read_system K) (mcVal (mVar 3) mcNil)) (B__law_system_right_3 K))))
noncomputable def M__law_system_right (K : PySem.W.Frag) : MS K :=
  (msSeq (msAsg (mCMeth "System" 3 (mf_System_of K) (mcVal (mVar 0) (mcVal (mVar 1) mcNil))) (mgName 2))
  (msName 2 (B__law_system_right_4 K)))
noncomputable def mf__law_system_right (K : PySem.W.Frag) : List Slot → Option CO := mfOf 9 (M__law_system_right K).m
abbrev s__law_tape : Stmt := topS 29
abbrev N__law_tape : List Str := ["_law_script", "_law_k", "_law_cell"]
theorem sc__law_tape : FnScope N__law_tape ["_law_script", "_law_k"] (defScope s__law_tape) := ⟨rfl, rfl, rfl, by decide +kernel, rfl, by decide +kernel, by decide +kernel⟩
noncomputable def M__law_tape (K : PySem.W.Frag) : MS K :=
  (msSeq (msAsg (mIf (mTest (mOp oLt (mVar 1) (mBi oLen (mCons (mVar 0) mNil)))) (mBi oAbs (mCons (mIx oIx (mVar 0) (mVar 1)) mNil)) (mC (.int 0) (.int 0))) (mgName 2))
  (msRetF (mLst (mCons (mBi oMax2 (mCons (mC (.int 0) (.int 0)) (mCons (mOp oSub (mVar 2) (mOp oPow (mC (.int 10) (.int 10)) (mC (.int 18) (.int 18)))) mNil))) (mCons (mOp oAdd (mOp oMul (mOp oMod (mVar 2) (mOp oAdd (mOp oPow (mC (.int 10) (.int 10)) (mC (.int 38) (.int 38))) (mC (.int 133) (.int 133)))) (mC (.int 83) (.int 83))) (mVar 1)) (mCons (mC (.int 0) (.int 0)) mNil))))))
noncomputable def mf__law_tape (K : PySem.W.Frag) : List Slot → Option CO := mfOf0 3 (M__law_tape K).m
abbrev s_run_in : Stmt := topS 22
abbrev N_run_in : List Str := ["text", "run", "sign", "count"]
theorem sc_run_in : FnScope N_run_in ["text"] (defScope s_run_in) := ⟨rfl, rfl, rfl, by decide +kernel, rfl, by decide +kernel, by decide +kernel⟩
noncomputable def M_run_in (K : PySem.W.Frag) : MS K :=
  (msSeq (msMatch (mFr (mSplit "*" (mVar 0))) 2
  (msAsg (mTup (mCons (mCall 1 (mf_sign_in K) (mcVal (mVar 2) mcNil)) (mCons (mC (.int 1) (.int 1)) mNil))) (mgName 1))
  2 3
  (msSeq (msAsg (mTup (mCons (mCall 1 (mf_sign_in K) (mcVal (mVar 2) mcNil)) (mCons (mCall 2 (mf_number_in K) (mcVal (mVar 3) (mcVal (mC (.int 60) (.int 60)) mcNil))) mNil))) (mgName 1))
  (msAsg (mIf (mTest (mOp oNe (mIx oIx (mVar 1) (mC (.int 1) (.int 1))) (mC (.int 1) (.int 1)))) (mVar 1) (mTup (mCons (mC .non .non) (mCons (mC (.int 1) (.int 1)) mNil)))) (mgName 1)))
  (msAsg (mTup (mCons (mC .non .non) (mCons (mC .non .non) mNil))) (mgName 1)))
  (msRet (mIf (mTest (mOp (oIn true) (mC .non .non) (mVar 1))) (mVar 1) (mC .non .non))))
noncomputable def mf_run_in (K : PySem.W.Frag) : List Slot → Option CO := mfOf0 4 (M_run_in K).m
abbrev s_read_word : Stmt := topS 25
abbrev N_read_word : List Str := ["text", "found", "index", "part", "run"]
theorem sc_read_word : FnScope N_read_word ["text"] (defScope s_read_word) := ⟨rfl, rfl, rfl, by decide +kernel, rfl, by decide +kernel, by decide +kernel⟩
noncomputable def G_read_word_0 (K : PySem.W.Frag) : MG K :=
  (mgTup 2 (mgCons (mgName 2) (mgCons (mgName 3) mgNil)))
noncomputable def B_read_word_1 (K : PySem.W.Frag) : MS K :=
  (msSeq (msAsg (mCall 1 (mf_run_in K) (mcVal (mVar 3) mcNil)) (mgName 4))
  (msSeq (msIf (mOr (mTest (mOp oIsN (mVar 4) (mC .non .non))) (mOr (mTest (mOp oGe (mVar 2) (mC (.int 200) (.int 200)))) (mAnd (mTest (mOp oNe (mLook 1) (mFr (mLst mNil)))) (mTest (mOp oEq (mIx oIx (mIx oIx (mLook 1) (mUn oNeg (mC (.int 1) (.int 1)))) (mC (.int 0) (.int 0))) (mIx oIx (mVar 4) (mC (.int 0) (.int 0))))))))
  (msRaiseF "InvalidText" "index" (mVar 2))
  msNil)
  (msDrop (mMeth 1 oAppend (mCons (mVar 4) mNil)))))
noncomputable def M_read_word (K : PySem.W.Frag) : MS K :=
  (msSeq (msAsgF (mLst mNil) 1)
  (msSeq (msFor (miEnum (mFr (mSplit " " (mVar 0)))) (G_read_word_0 K)
  (B_read_word_1 K)
  [2, 3, 4])
  (msRetC 1)))
noncomputable def mf_read_word (K : PySem.W.Frag) : List Slot → Option CO := mfOf 5 (M_read_word K).m
abbrev s_run_text : Stmt := topS 23
abbrev N_run_text : List Str := ["run", "value", "count"]
theorem sc_run_text : FnScope N_run_text ["run"] (defScope s_run_text) := ⟨rfl, rfl, rfl, by decide +kernel, rfl, by decide +kernel, by decide +kernel⟩
noncomputable def M_run_text (K : PySem.W.Frag) : MS K :=
  (msSeq (msAsg (mVar 0) (mgTup 2 (mgCons (mgName 1) (mgCons (mgName 2) mgNil))))
  (msRet (mIf (mTest (mOp oGt (mVar 2) (mC (.int 1) (.int 1)))) (mJs (mjCons (mFmt (mVar 1)) (mjCons (mC (.str "*") (.str "*")) (mjCons (mFmt (mVar 2)) mjNil)))) (mFmt (mVar 1)))))
noncomputable def mf_run_text (K : PySem.W.Frag) : List Slot → Option CO := mfOf0 3 (M_run_text K).m
abbrev s_write_word : Stmt := topS 24
abbrev N_write_word : List Str := ["word", "run"]
theorem sc_write_word : FnScope N_write_word ["word"] (defScope s_write_word) := ⟨rfl, rfl, rfl, by decide +kernel, rfl, by decide +kernel, by decide +kernel⟩
noncomputable def G_write_word_0 (K : PySem.W.Frag) : MG K :=
  (mgName 1)
noncomputable def T_write_word_1 (K : PySem.W.Frag) : MTs K :=
  mtYes
noncomputable def E_write_word_2 (K : PySem.W.Frag) : ME K :=
  (mCall 1 (mf_run_text K) (mcVal (mVar 1) mcNil))
noncomputable def M_write_word (K : PySem.W.Frag) : MS K :=
  (msRet (mJoin " " (mFr (mLc (miList (mVar 0)) (G_write_word_0 K) (T_write_word_1 K) (E_write_word_2 K) [1]))))
noncomputable def mf_write_word (K : PySem.W.Frag) : List Slot → Option CO := mfOf0 2 (M_write_word K).m
abbrev s__law_text : Stmt := topS 34
abbrev N__law_text : List Str := ["_law_runs_here", "_law_sign", "_law_count"]
theorem sc__law_text : FnScope N__law_text ["_law_runs_here"] (defScope s__law_text) := ⟨rfl, rfl, rfl, by decide +kernel, rfl, by decide +kernel, by decide +kernel⟩
noncomputable def G__law_text_0 (K : PySem.W.Frag) : MG K :=
  (mgTup 2 (mgCons (mgName 1) (mgCons (mgName 2) mgNil)))
noncomputable def T__law_text_1 (K : PySem.W.Frag) : MTs K :=
  mtYes
noncomputable def E__law_text_2 (K : PySem.W.Frag) : ME K :=
  (mOp oCatS (mBi oStrI (mCons (mVar 1) mNil)) (mIf (mTest (mOp oGt (mVar 2) (mC (.int 1) (.int 1)))) (mOp oCatS (mC (.str "*") (.str "*")) (mBi oStrI (mCons (mVar 2) mNil))) (mC (.str "") (.str ""))))
noncomputable def M__law_text (K : PySem.W.Frag) : MS K :=
  (msRet (mJoin " " (mFr (mLc (miList (mVar 0)) (G__law_text_0 K) (T__law_text_1 K) (E__law_text_2 K) [1, 2]))))
noncomputable def mf__law_text (K : PySem.W.Frag) : List Slot → Option CO := mfOf0 3 (M__law_text K).m
abbrev s__law_word_right : Stmt := topS 35
abbrev N__law_word_right : List Str := ["_law_runs_here", "_law_due", "_law_kept", "_law_told", "_law_again"]
theorem sc__law_word_right : FnScope N__law_word_right ["_law_runs_here"] (defScope s__law_word_right) := ⟨rfl, rfl, rfl, by decide +kernel, rfl, by decide +kernel, by decide +kernel⟩
noncomputable def M__law_word_right (K : PySem.W.Frag) : MS K :=
  (msSeq (msParVV 1 2 (mCall 1 (mf__law_text K) (mcVal (mVar 0) mcNil)) (mBi oRepr (mCons (mVar 0) mNil)))
  (msSeq (msIf (mTest (mOp oNeS (mBi oRepr (mCons (mFr (mLst (mCons (mCall 1 (mf_write_word K) (mcVal (mVar 0) mcNil)) (mCons (mCallK 1 [0] (mf_write_word K) (mcVal (mVar 0) mcNil)) mNil)))) mNil)) (mBi oRepr (mCons (mFr (mLst (mCons (mVar 1) (mCons (mVar 1) mNil)))) mNil))))
  (msRet (mC (.bl false) (.bl false)))
  msNil)
  (msSeq (msParFV 3 4 (mCallF 1 (mf_read_word K) (mcVal (mVar 1) mcNil)) (mFr (mCallF 1 (mf_read_word K) (mcPm [0] (mcVal (mVar 1) mcNil)))))
  (msSeq (msIf (mTest (mOp oNeS (mBi oRepr (mCons (mLstL (mCons (mLook 3) (mCons (mVar 4) mNil))) mNil)) (mBi oRepr (mCons (mFr (mLst (mCons (mVar 0) (mCons (mVar 0) mNil)))) mNil))))
  (msRet (mC (.bl false) (.bl false)))
  msNil)
  (msSeq (msDrop (mMeth0 3 oReverse))
  (msSeq (msDrop (mMeth 3 oAppend (mCons (mTup (mCons (mC (.int 60) (.int 60)) (mCons (mC (.int 7) (.int 7)) mNil))) mNil)))
  (msRet (mAndV (mOp oEqS (mBi oRepr (mCons (mFr (mLst (mCons (mVar 4) (mCons (mFr (mCallF 1 (mf_read_word K) (mcVal (mVar 1) mcNil))) mNil)))) mNil)) (mBi oRepr (mCons (mFr (mLst (mCons (mVar 0) (mCons (mVar 0) mNil)))) mNil))) (mOp oEqS (mBi oRepr (mCons (mVar 0) mNil)) (mVar 2))))))))))
noncomputable def mf__law_word_right (K : PySem.W.Frag) : List Slot → Option CO := mfOf 5 (M__law_word_right K).m
abbrev s_law : Stmt := topS 38
abbrev N_law : List Str := ["_law_script", "_law_k", "_law_runs_here", "_law_tape_here", "_law_turn", "_law_at"]
theorem sc_law : FnScope N_law ["_law_script"] (defScope s_law) := ⟨rfl, rfl, rfl, by decide +kernel, rfl, by decide +kernel, by decide +kernel⟩
noncomputable def G_law_0 (K : PySem.W.Frag) : MG K :=
  (mgName 4)
noncomputable def B_law_1 (K : PySem.W.Frag) : MS K :=
  (msSeq (msAsgF (mCallF 2 (mf__law_runs K) (mcCel 3 (mcVal (mOp oAdd (mC (.int 1) (.int 1)) (mCall 2 (mf__law_next K) (mcCel 3 (mcVal (mIx oIx (mFr (mLst (mCons (mC (.int 3) (.int 3)) (mCons (mC (.int 20) (.int 20)) (mCons (mC (.int 200) (.int 200)) mNil))))) (mVar 4)) mcNil)))) mcNil))) 2)
  (msSeq (msIf (mOr (mNot (mTru (mCallL 1 (mf__law_word_right K) (mcCel 2 mcNil)))) (mNot (mTru (mCall 2 (mf__law_system_right K) (mcVal (mCall 2 (mf__law_scale K) (mcCel 3 (mcVal (mC (.int 6) (.int 6)) mcNil))) (mcVal (mCall 1 (mf__law_kind K) (mcCel 3 mcNil)) mcNil))))))
  (msRet (mC (.bl false) (.bl false)))
  msNil)
  (msSeq (msSet 2 (mUn oNeg (mC (.int 1) (.int 1))) (mTup (mCons (mSc (mIx oIx (mIx oIx (mLook 2) (mUn oNeg (mC (.int 1) (.int 1)))) (mC (.int 0) (.int 0)))) (mCons (mOp oAdd (mOp oMod (mIx oIx (mIx oIx (mLook 2) (mUn oNeg (mC (.int 1) (.int 1)))) (mC (.int 1) (.int 1))) (mC (.int 9) (.int 9))) (mC (.int 2) (.int 2))) mNil))))
  (msSeq (msIf (mTest (mOp oLt (mBi oLen (mCons (mLook 2) mNil)) (mC (.int 200) (.int 200))))
  (msDrop (mMeth 2 oAppend (mCons (mTup (mCons (mOp oAdd (mOp oMod (mIx oIx (mIx oIx (mLook 2) (mUn oNeg (mC (.int 1) (.int 1)))) (mC (.int 0) (.int 0))) (mC (.int 60) (.int 60))) (mC (.int 1) (.int 1))) (mCons (mC (.int 1) (.int 1)) mNil))) mNil)))
  msNil)
  (msIf (mNot (mTru (mCallL 1 (mf__law_word_right K) (mcCel 2 mcNil))))
  (msRet (mC (.bl false) (.bl false)))
  msNil)))))
noncomputable def G_law_2 (K : PySem.W.Frag) : MG K :=
  (mgName 1)
noncomputable def B_law_3 (K : PySem.W.Frag) : MS K :=
  (msSeq (msAsgF (mCallF 2 (mf__law_tape K) (mcVal (mVar 0) (mcVal (mVar 1) mcNil))) 3)
  (msFor (miRng1 (mC (.int 3) (.int 3))) (G_law_0 K)
  (B_law_1 K)
  [4]))
noncomputable def G_law_4 (K : PySem.W.Frag) : MG K :=
  (mgName 5)
noncomputable def T_law_5 (K : PySem.W.Frag) : MTs K :=
  mtYes
noncomputable def E_law_6 (K : PySem.W.Frag) : ME K :=
  (mTup (mCons (mOp oAdd (mC (.int 1) (.int 1)) (mOp oMod (mVar 5) (mC (.int 2) (.int 2)))) (mCons (mOp oSub (mOp oMul (mOp oPow (mC (.int 10) (.int 10)) (mC (.int 30) (.int 30))) (mOp oPow (mC (.int 10) (.int 10)) (mC (.int 30) (.int 30)))) (mC (.int 1) (.int 1))) mNil)))
noncomputable def G_law_7 (K : PySem.W.Frag) : MG K :=
  (mgName 5)
noncomputable def T_law_8 (K : PySem.W.Frag) : MTs K :=
  mtYes
noncomputable def E_law_9 (K : PySem.W.Frag) : ME K :=
  (mTup (mCons (mOp oAdd (mC (.int 1) (.int 1)) (mOp oMod (mVar 5) (mC (.int 2) (.int 2)))) (mCons (mC (.int 1) (.int 1)) mNil)))
noncomputable def M_law (K : PySem.W.Frag) : MS K :=
  (msSeq (msFor (miRng1 (mBi oMax2 (mCons (mC (.int 1) (.int 1)) (mCons (mBi oMin2 (mCons (mC (.int 4) (.int 4)) (mCons (mBi oLen (mCons (mVar 0) mNil)) mNil))) mNil)))) (G_law_2 K)
  (B_law_3 K)
  [1, 3, 4])
  (msSeq (msAsgF (mCat (mFr (mLc (miRng1 (mC (.int 2) (.int 2))) (G_law_4 K) (T_law_5 K) (E_law_6 K) [5])) (mFr (mLc (miRng1 (mC (.int 198) (.int 198))) (G_law_7 K) (T_law_8 K) (E_law_9 K) [5]))) 2)
  (msRet (mAndV (mCallL 1 (mf__law_word_right K) (mcCel 2 mcNil)) (mOp oEq (mCall 1 (mf_write_word K) (mcVal (mFr (mLst (mCons (mTup (mCons (mC (.int 1) (.int 1)) (mCons (mC (.int 2) (.int 2)) mNil))) (mCons (mTup (mCons (mC (.int 10) (.int 10)) (mCons (mC (.int 1) (.int 1)) mNil))) mNil)))) mcNil)) (mC (.str "1*2 10") (.str "1*2 10")))))))
noncomputable def mf_law (K : PySem.W.Frag) : List Slot → Option CO := mfOf 6 (M_law K).m
structure Top (P : Program) (K : PySem.W.Frag) (mg : Str → Option Value) : Prop where
  b_abs : mg "abs" = none
  b_all : mg "all" = none
  b_bool : mg "bool" = none
  b_enumerate : mg "enumerate" = none
  b_int : mg "int" = none
  b_isinstance : mg "isinstance" = none
  b_len : mg "len" = none
  b_list : mg "list" = none
  b_max : mg "max" = none
  b_min : mg "min" = none
  b_range : mg "range" = none
  b_repr : mg "repr" = none
  b_sorted : mg "sorted" = none
  b_str : mg "str" = none
  b_zip : mg "zip" = none
  c_DIGITS : ∃ t, mg "DIGITS" = some (.str "0123456789" t)
  c_GREATEST_SIGN : ∃ t, mg "GREATEST_SIGN" = some (.int 60 t)
  c_MOST_DIGITS : ∃ t, mg "MOST_DIGITS" = some (.int 60 t)
  c_MOST_RUNS : ∃ t, mg "MOST_RUNS" = some (.int 200 t)
  c_MOST_VALUE : ∃ t, mg "MOST_VALUE" = some (.int 60 t)
  cm_System_of : ClX.CMet K (He.ga K "System") (.type "type") "of" (He.ma K (He.ga K "System") "of") (cmg K (He.ma K (He.ga K "System") "of"))
  eqc_System : eqcB K "System" = true
  f_InvalidText___init__ : ∃ fd, Fun K "__init__" "InvalidText.__init__" s_InvalidText___init__ (He.ma K (He.ga K "InvalidText") "__init__") fd
  f_System___init__ : ∃ fd, Fun K "__init__" "System.__init__" s_System___init__ (He.ma K (He.ga K "System") "__init__") fd
  f_System_divisor : ∃ fd, Fun K "divisor" "System.divisor" s_System_divisor (pmg K (He.ma K (He.ga K "System") "divisor")) fd
  f_System_greatest : ∃ fd, Fun K "greatest" "System.greatest" s_System_greatest (pmg K (He.ma K (He.ga K "System") "greatest")) fd
  f_System_of : ∃ fd, Fun K "of" "System.of" s_System_of (cmg K (He.ma K (He.ga K "System") "of")) fd
  f_System_row : ∃ fd, Fun K "row" "System.row" s_System_row (pmg K (He.ma K (He.ga K "System") "row")) fd
  f_System_rule : ∃ fd, Fun K "rule" "System.rule" s_System_rule (pmg K (He.ma K (He.ga K "System") "rule")) fd
  f_System_with_rule : ∃ fd, Fun K "with_rule" "System.with_rule" s_System_with_rule (He.ma K (He.ga K "System") "with_rule") fd
  f__law_kind : ∃ fd, Fun K "_law_kind" "_law_kind" s__law_kind (He.ga K "_law_kind") fd
  f__law_next : ∃ fd, Fun K "_law_next" "_law_next" s__law_next (He.ga K "_law_next") fd
  f__law_runs : ∃ fd, Fun K "_law_runs" "_law_runs" s__law_runs (He.ga K "_law_runs") fd
  f__law_scale : ∃ fd, Fun K "_law_scale" "_law_scale" s__law_scale (He.ga K "_law_scale") fd
  f__law_shown : ∃ fd, Fun K "_law_shown" "_law_shown" s__law_shown (He.ga K "_law_shown") fd
  f__law_system_right : ∃ fd, Fun K "_law_system_right" "_law_system_right" s__law_system_right (He.ga K "_law_system_right") fd
  f__law_tape : ∃ fd, Fun K "_law_tape" "_law_tape" s__law_tape (He.ga K "_law_tape") fd
  f__law_text : ∃ fd, Fun K "_law_text" "_law_text" s__law_text (He.ga K "_law_text") fd
  f__law_word_right : ∃ fd, Fun K "_law_word_right" "_law_word_right" s__law_word_right (He.ga K "_law_word_right") fd
  f_are_values : ∃ fd, Fun K "are_values" "are_values" s_are_values (He.ga K "are_values") fd
  f_common_divisor : ∃ fd, Fun K "common_divisor" "common_divisor" s_common_divisor (He.ga K "common_divisor") fd
  f_is_integer : ∃ fd, Fun K "is_integer" "is_integer" s_is_integer (He.ga K "is_integer") fd
  f_is_rule : ∃ fd, Fun K "is_rule" "is_rule" s_is_rule (He.ga K "is_rule") fd
  f_law : ∃ fd, Fun K "law" "law" s_law (He.ga K "law") fd
  f_number_in : ∃ fd, Fun K "number_in" "number_in" s_number_in (He.ga K "number_in") fd
  f_read_system : ∃ fd, Fun K "read_system" "read_system" s_read_system (He.ga K "read_system") fd
  f_read_word : ∃ fd, Fun K "read_word" "read_word" s_read_word (He.ga K "read_word") fd
  f_run_in : ∃ fd, Fun K "run_in" "run_in" s_run_in (He.ga K "run_in") fd
  f_run_text : ∃ fd, Fun K "run_text" "run_text" s_run_text (He.ga K "run_text") fd
  f_sign_in : ∃ fd, Fun K "sign_in" "sign_in" s_sign_in (He.ga K "sign_in") fd
  f_write_system : ∃ fd, Fun K "write_system" "write_system" s_write_system (He.ga K "write_system") fd
  f_write_word : ∃ fd, Fun K "write_word" "write_word" s_write_word (He.ga K "write_word") fd
  g_InvalidText : mg "InvalidText" = some (.ref (He.ga K "InvalidText"))
  g_InvalidValues : mg "InvalidValues" = some (.ref (He.ga K "InvalidValues"))
  g_Rule : mg "Rule" = some (.ref (He.ga K "Rule"))
  g_SignError : mg "SignError" = some (.ref (He.ga K "SignError"))
  g_System : mg "System" = some (.ref (He.ga K "System"))
  g__law_kind : mg "_law_kind" = some (.ref (He.ga K "_law_kind"))
  g__law_next : mg "_law_next" = some (.ref (He.ga K "_law_next"))
  g__law_runs : mg "_law_runs" = some (.ref (He.ga K "_law_runs"))
  g__law_scale : mg "_law_scale" = some (.ref (He.ga K "_law_scale"))
  g__law_shown : mg "_law_shown" = some (.ref (He.ga K "_law_shown"))
  g__law_system_right : mg "_law_system_right" = some (.ref (He.ga K "_law_system_right"))
  g__law_tape : mg "_law_tape" = some (.ref (He.ga K "_law_tape"))
  g__law_text : mg "_law_text" = some (.ref (He.ga K "_law_text"))
  g__law_word_right : mg "_law_word_right" = some (.ref (He.ga K "_law_word_right"))
  g_are_values : mg "are_values" = some (.ref (He.ga K "are_values"))
  g_common_divisor : mg "common_divisor" = some (.ref (He.ga K "common_divisor"))
  g_is_integer : mg "is_integer" = some (.ref (He.ga K "is_integer"))
  g_is_rule : mg "is_rule" = some (.ref (He.ga K "is_rule"))
  g_law : mg "law" = some (.ref (He.ga K "law"))
  g_number_in : mg "number_in" = some (.ref (He.ga K "number_in"))
  g_read_system : mg "read_system" = some (.ref (He.ga K "read_system"))
  g_read_word : mg "read_word" = some (.ref (He.ga K "read_word"))
  g_run_in : mg "run_in" = some (.ref (He.ga K "run_in"))
  g_run_text : mg "run_text" = some (.ref (He.ga K "run_text"))
  g_sign_in : mg "sign_in" = some (.ref (He.ga K "sign_in"))
  g_write_system : mg "write_system" = some (.ref (He.ga K "write_system"))
  g_write_word : mg "write_word" = some (.ref (He.ga K "write_word"))
  k_System : Cls K (He.ga K "System")
  kp_System : PySem.W.keepIn K (.ref (He.ga K "System")) = true
  mk_System : Mk K (He.ga K "System") (He.ma K (He.ga K "System") "__init__")
  na_System_held_rule : NoAttr K (He.ga K "System") "held_rule"
  na_System_held_values : NoAttr K (He.ga K "System") "held_values"
  o_Rule_ALL : ConC K "Rule" "ALL" (.tup ((["plain", "single", "next", "block", "later"] : List Str).map U.str))
  o_System_MOST : ConC K "System" "MOST" (.int 6)
  pr_System_divisor : PropOf K (He.ga K "System") "divisor" (He.ma K (He.ga K "System") "divisor") (pmg K (He.ma K (He.ga K "System") "divisor"))
  pr_System_greatest : PropOf K (He.ga K "System") "greatest" (He.ma K (He.ga K "System") "greatest") (pmg K (He.ma K (He.ga K "System") "greatest"))
  pr_System_row : PropOf K (He.ga K "System") "row" (He.ma K (He.ga K "System") "row") (pmg K (He.ma K (He.ga K "System") "row"))
  pr_System_rule : PropOf K (He.ga K "System") "rule" (He.ma K (He.ga K "System") "rule") (pmg K (He.ma K (He.ga K "System") "rule"))
  r_System : ClX.CRead K (He.ga K "System") (.type "type")
  sm_K : SmK K
  t_System_with_rule : Meth K (He.ga K "System") "with_rule" (He.ma K (He.ga K "System") "with_rule")
  x_InvalidValues : XF K mg "InvalidValues"
  xb_SignError : XfB K "SignError"
  xk_InvalidText : XfK K "InvalidText" "index" (He.ma K (He.ga K "InvalidText") "__init__")
abbrev fn : List DefY := [⟨.g "_law_next", "_law_next", "_law_next", s__law_next, []⟩,
  ⟨.g "_law_kind", "_law_kind", "_law_kind", s__law_kind, []⟩,
  ⟨.g "_law_runs", "_law_runs", "_law_runs", s__law_runs, []⟩,
  ⟨.g "_law_scale", "_law_scale", "_law_scale", s__law_scale, []⟩,
  ⟨.g "number_in", "number_in", "number_in", s_number_in, []⟩,
  ⟨.g "sign_in", "sign_in", "sign_in", s_sign_in, []⟩,
  ⟨.g "is_integer", "is_integer", "is_integer", s_is_integer, []⟩,
  ⟨.g "are_values", "are_values", "are_values", s_are_values, []⟩,
  ⟨.g "is_rule", "is_rule", "is_rule", s_is_rule, []⟩,
  ⟨.m "System" "__init__", "__init__", "System.__init__", s_System___init__, []⟩,
  ⟨.k "System" "of", "of", "System.of", s_System_of, []⟩,
  ⟨.m "InvalidText" "__init__", "__init__", "InvalidText.__init__", s_InvalidText___init__, []⟩,
  ⟨.g "read_system", "read_system", "read_system", s_read_system, []⟩,
  ⟨.p "System" "row", "row", "System.row", s_System_row, []⟩,
  ⟨.p "System" "rule", "rule", "System.rule", s_System_rule, []⟩,
  ⟨.g "write_system", "write_system", "write_system", s_write_system, []⟩,
  ⟨.g "common_divisor", "common_divisor", "common_divisor", s_common_divisor, []⟩,
  ⟨.p "System" "divisor", "divisor", "System.divisor", s_System_divisor, []⟩,
  ⟨.p "System" "greatest", "greatest", "System.greatest", s_System_greatest, []⟩,
  ⟨.g "_law_shown", "_law_shown", "_law_shown", s__law_shown, []⟩,
  ⟨.m "System" "with_rule", "with_rule", "System.with_rule", s_System_with_rule, []⟩,
  ⟨.g "_law_system_right", "_law_system_right", "_law_system_right", s__law_system_right, []⟩,
  ⟨.g "_law_tape", "_law_tape", "_law_tape", s__law_tape, []⟩,
  ⟨.g "run_in", "run_in", "run_in", s_run_in, []⟩,
  ⟨.g "read_word", "read_word", "read_word", s_read_word, []⟩,
  ⟨.g "run_text", "run_text", "run_text", s_run_text, []⟩,
  ⟨.g "write_word", "write_word", "write_word", s_write_word, []⟩,
  ⟨.g "_law_text", "_law_text", "_law_text", s__law_text, []⟩,
  ⟨.g "_law_word_right", "_law_word_right", "_law_word_right", s__law_word_right, []⟩,
  ⟨.g "law", "law", "law", s_law, []⟩]
def fa : List FaY := [fun K => (He.Fa.free "abs").ok K,
  fun K => (He.Fa.free "all").ok K,
  fun K => (He.Fa.free "bool").ok K,
  fun K => (He.Fa.free "enumerate").ok K,
  fun K => (He.Fa.free "int").ok K,
  fun K => (He.Fa.free "isinstance").ok K,
  fun K => (He.Fa.free "len").ok K,
  fun K => (He.Fa.free "list").ok K,
  fun K => (He.Fa.free "max").ok K,
  fun K => (He.Fa.free "min").ok K,
  fun K => (He.Fa.free "range").ok K,
  fun K => (He.Fa.free "repr").ok K,
  fun K => (He.Fa.free "sorted").ok K,
  fun K => (He.Fa.free "str").ok K,
  fun K => (He.Fa.free "zip").ok K,
  fun K => (He.Fa.str "DIGITS" "0123456789").ok K,
  fun K => (He.Fa.int "GREATEST_SIGN" 60).ok K,
  fun K => (He.Fa.int "MOST_DIGITS" 60).ok K,
  fun K => (He.Fa.int "MOST_RUNS" 200).ok K,
  fun K => (He.Fa.int "MOST_VALUE" 60).ok K,
  fun K => cmetB K "System" "of",
  fun K => eqcB K "System",
  fun K => (He.Fa.glo "InvalidText").ok K,
  fun K => (He.Fa.glo "InvalidValues").ok K,
  fun K => (He.Fa.glo "Rule").ok K,
  fun K => (He.Fa.glo "SignError").ok K,
  fun K => (He.Fa.glo "System").ok K,
  fun K => (He.Fa.glo "_law_kind").ok K,
  fun K => (He.Fa.glo "_law_next").ok K,
  fun K => (He.Fa.glo "_law_runs").ok K,
  fun K => (He.Fa.glo "_law_scale").ok K,
  fun K => (He.Fa.glo "_law_shown").ok K,
  fun K => (He.Fa.glo "_law_system_right").ok K,
  fun K => (He.Fa.glo "_law_tape").ok K,
  fun K => (He.Fa.glo "_law_text").ok K,
  fun K => (He.Fa.glo "_law_word_right").ok K,
  fun K => (He.Fa.glo "are_values").ok K,
  fun K => (He.Fa.glo "common_divisor").ok K,
  fun K => (He.Fa.glo "is_integer").ok K,
  fun K => (He.Fa.glo "is_rule").ok K,
  fun K => (He.Fa.glo "law").ok K,
  fun K => (He.Fa.glo "number_in").ok K,
  fun K => (He.Fa.glo "read_system").ok K,
  fun K => (He.Fa.glo "read_word").ok K,
  fun K => (He.Fa.glo "run_in").ok K,
  fun K => (He.Fa.glo "run_text").ok K,
  fun K => (He.Fa.glo "sign_in").ok K,
  fun K => (He.Fa.glo "write_system").ok K,
  fun K => (He.Fa.glo "write_word").ok K,
  fun K => (He.Fa.cls "System").ok K,
  fun K => (He.Fa.keep "System").ok K,
  fun K => mkB K "System" "System",
  fun K => noatB K "System" "held_rule",
  fun K => noatB K "System" "held_values",
  fun K => creadB K "Rule",
  fun K => conB K "Rule" "ALL" ["plain", "single", "next", "block", "later"],
  fun K => creadB K "System",
  fun K => conIB K "System" "MOST" 6,
  fun K => propB K "System" "divisor" "System",
  fun K => propB K "System" "greatest" "System",
  fun K => propB K "System" "row" "System",
  fun K => propB K "System" "rule" "System",
  fun K => smB K,
  fun K => methB K "System" "with_rule" "System",
  fun K => (He.Fa.exc "InvalidValues").ok K,
  fun K => xfbB K "SignError",
  fun K => xfkB K "InvalidText" "index" (He.ma K (He.ga K "InvalidText") "__init__")]
set_option maxHeartbeats 4000000
abbrev Rw : PySem.W.OpenRow := PySem.W.OpenLaw.row PySem.Challenge.rw_signsheets_k81_texts_both_ways
abbrev hk : PySem.W.Hook := hookY 6 fa fn
def ob (s : PySem.W.SharedT) : AlY := obsYG 6 fa fn (HandSHeadRun.getT s)
theorem ob_eq (s : PySem.W.SharedT) : ob s = hk.obs s.abs := obsYG_eq (HandSHeadRun.getT_eq s)
theorem run (w : World) : HandSHeadRun.RunEq Rw (PySem.W.view Rw.prog [38]) hk ob 9000 (("_wall" : Str) :: ("SignError" : Str) :: ("InvalidValues" : Str) :: ("InvalidText" : Str) :: ("NEXT" : Str) :: ("is_integer" : Str) :: ("Rule" : Str) :: ("MOST_VALUE" : Str) :: ("are_values" : Str) :: ("is_rule" : Str) :: ("common_divisor" : Str) :: ("System" : Str) :: ("DIGITS" : Str) :: ("GREATEST_SIGN" : Str) :: ("MOST_RUNS" : Str) :: ("MOST_DIGITS" : Str) :: ("number_in" : Str) :: ("sign_in" : Str) :: ("run_in" : Str) :: ("run_text" : Str) :: ("write_word" : Str) :: ("read_word" : Str) :: ("write_system" : Str) :: ("read_system" : Str) :: ("_law_tape" : Str) :: ("_law_next" : Str) :: ("_law_scale" : Str) :: ("_law_kind" : Str) :: ("_law_runs" : Str) :: ("_law_text" : Str) :: ("_law_word_right" : Str) :: ("_law_shown" : Str) :: ("_law_system_right" : Str) :: []) w := by
  intro os
  kernel_rfl
set_option maxHeartbeats 400000
section
variable {P : Program} {w : World} {K : PySem.W.Frag} {mg : Str → Option Value} {base : Heap}
theorem c__law_next (T : Top P K mg) : Cal P w K mg base CX0 1 "_law_next" 2 (mf__law_next K) := by
  obtain ⟨fd, F⟩ := T.f__law_next
  refine ⟨T.g__law_next, F.kp, fd, ["_law_tape_here", "_law_size"], fn_ok0 F sc__law_next (M__law_next K) rfl (by decide) (fun cdv A outer s H E hr => ?_), F.binds fun _ _ _ _ _ _ us hl => match us, hl with | [_, _], _ => rfl⟩
  have nd := sc__law_next.nd
  refine ⟨_, (show PSs _ _ ((M__law_next K).t _) from by unfold M__law_next ; exact (scons (sif (tcm rGt (dix dLk dI) dI)
  (scons (sasgN nd (dop rMod (dix dLk dI) dV))
  (scons (ssetI (dop rDiv (dix dLk dI) dV) dI)
  (sone (sret dV))))
  snil)
  (scons (ssetI (dop rAdd (dix dLk dI) dI) dI)
  (scons (sasgN nd (dop rMod (dop rPowX (dop rAdd (dix dLk dI) (dop rMul dI (dix dLk dI))) dI) (dop rAdd (dop rPow dI dI) dI)))
  (scons (sasgN nd (dop rMod (dop rPowX (dop rAdd dV (dop rMul dI (dix dLk dI))) dI) (dop rAdd (dop rPow dI dI) dI)))
  (sone (sret (dop rMod (dop rDiv dV dI) dV)))))))), rfl⟩
theorem c__law_kind (T : Top P K mg) : Cal P w K mg base CX0 2 "_law_kind" 1 (mf__law_kind K) := by
  obtain ⟨fd, F⟩ := T.f__law_kind
  refine ⟨T.g__law_kind, F.kp, fd, ["_law_tape_here"], fn_ok0 F sc__law_kind (M__law_kind K) rfl (by decide) (fun cdv A outer s H E hr => ?_), F.binds fun _ _ _ _ _ _ us hl => match us, hl with | [_], _ => rfl⟩
  have nd := sc__law_kind.nd
  refine ⟨_, (show PSs _ _ ((M__law_kind K).t _) from by unfold M__law_kind ; exact (sone (sret (dix (dfr (dlst (dcons dS (dcons dS (dcons dS (dcons dS (dcons dS dnil))))))) (dcall0 (c__law_next T) (hr.mono (by decide)) (dccel (dcval dI dcnil))))))), rfl⟩
theorem c__law_runs (T : Top P K mg) : Cal P w K mg base CX0 2 "_law_runs" 2 (mf__law_runs K) := by
  obtain ⟨fd, F⟩ := T.f__law_runs
  refine ⟨T.g__law_runs, F.kp, fd, ["_law_tape_here", "_law_many"], fn_ok0 F sc__law_runs (M__law_runs K) rfl (by decide) (fun cdv A outer s H E hr => ?_), F.binds fun _ _ _ _ _ _ us hl => match us, hl with | [_, _], _ => rfl⟩
  have nd := sc__law_runs.nd
  refine ⟨_, (show PSs _ _ ((M__law_runs K).t _) from by unfold M__law_runs B__law_runs_1 G__law_runs_0; exact (scons (sparFV nd (dlst dnil) (dix (dfr (dlst (dcons dI (dcons dI (dcons dI dnil))))) (dcall0 (c__law_next T) (hr.mono (by decide)) (dccel (dcval dI dcnil)))))
  (scons (sfor PassesOwn.never (irng1 T.b_range dV) (gN nd)
  (scons (sasgN nd (dop rAdd dI (dcall0 (c__law_next T) (hr.mono (by decide)) (dccel (dcval dV dcnil)))))
  (scons (sif (tpw (wand (tcm (rNeX hr) dLk (dfr (dlst dnil))) (wand1 (tcm (rEqX hr) (dix (dix dLk (dneg dI)) dI) dV))))
  (sone (sasgN nd (dop rAdd (dop rMod dV dV) dI)))
  snil)
  (scons (sasgN nd (dix (dfr (dlst (dcons dI (dcons (dop rAdd dI (dcall0 (c__law_next T) (hr.mono (by decide)) (dccel (dcval dI dcnil)))) (dcons (dop rAdd dI (dcall0 (c__law_next T) (hr.mono (by decide)) (dccel (dcval (dop rPow dI dI) dcnil)))) (dcons (dop rSub (dop rMul (dop rPow dI dI) (dop rPow dI dI)) dI) dnil)))))) (dcall0 (c__law_next T) (hr.mono (by decide)) (dccel (dcval dI dcnil)))))
  (sone (sdrop (dmeth PySem.F.slot_list_append PySem.F.type_list_append rAppendX (dcons (dtup (dcons dV (dcons dV dnil))) dnil))))))))
  (sone sretC)))), rfl⟩
theorem c__law_scale (T : Top P K mg) : Cal P w K mg base CX0 2 "_law_scale" 2 (mf__law_scale K) := by
  obtain ⟨fd, F⟩ := T.f__law_scale
  refine ⟨T.g__law_scale, F.kp, fd, ["_law_tape_here", "_law_most"], fn_ok0 F sc__law_scale (M__law_scale K) rfl (by decide) (fun cdv A outer s H E hr => ?_), F.binds fun _ _ _ _ _ _ us hl => match us, hl with | [_, _], _ => rfl⟩
  have nd := sc__law_scale.nd
  refine ⟨_, (show PSs _ _ ((M__law_scale K).t _) from by unfold M__law_scale E__law_scale_2 T__law_scale_1 G__law_scale_0; exact (scons (sasgN nd (dop rAdd dI (dcall0 (c__law_next T) (hr.mono (by decide)) (dccel (dcval dV dcnil)))))
  (scons (sasgN nd (dfr (dlst (dcons (dfr (dlst (dcons dI (dcons dI (dcons dI (dcons dI (dcons dI (dcons dI dnil)))))))) (dcons (dfr (dlst (dcons dI (dcons dI (dcons dI (dcons dI (dcons dI (dcons dI dnil)))))))) (dcons (dfr (dlst (dcons dI (dcons dI (dcons dI (dcons dI (dcons dI (dcons dI dnil)))))))) (dcons (dfr (dlst (dcons dI (dcons dI (dcons dI (dcons dI (dcons dI (dcons dI dnil)))))))) dnil)))))))
  (scons (sasgN nd (dcall0 (c__law_next T) (hr.mono (by decide)) (dccel (dcval dI dcnil))))
  (scons (sif (tcm rLt dV dI)
  (sone (sret (dfr (dsl (dix dV dV) onone (osome dV)))))
  snil)
  (scons (sasgF nd (dlr T.b_list T.b_range dI (dix (dfr (dlst (dcons dI (dcons dI dnil)))) (dop rSub dV dI))))
  (sone (sret (dfr (dbfB rSortedX T.b_sorted (dcons (dfr (dlc (own := [("_law_turn", 6)]) nd (show blkC N__law_scale (defScope s__law_scale) _ _ = true from by decide +kernel) rfl (irng1 T.b_range dV) (fun _ _ _ _ _ => (gN nd)) (fun _ _ _ _ _ => tsnil) (fun _ _ _ _ _ => (dmeth PySem.F.slot_list_pop PySem.F.type_list_pop rPopAtX (dcons (dcall0 (c__law_next T) (hr.mono (by decide)) (dccel (dcval (dbiB rLen T.b_len (dcons dLk dnil)) dcnil))) dnil))))) dnil))))))))))), rfl⟩
theorem c_number_in (T : Top P K mg) : Cal P w K mg base CX0 1 "number_in" 2 (mf_number_in K) := by
  obtain ⟨fd, F⟩ := T.f_number_in
  refine ⟨T.g_number_in, F.kp, fd, ["text", "most"], fn_ok0 F sc_number_in (M_number_in K) rfl (by decide) (fun cdv A outer s H E hr => ?_), F.binds fun _ _ _ _ _ _ us hl => match us, hl with | [_, _], _ => rfl⟩
  have nd := sc_number_in.nd
  refine ⟨_, (show PSs _ _ ((M_number_in K).t _) from by unfold M_number_in E_number_in_2 T_number_in_1 G_number_in_0; exact (scons (sif (tpw (wor (tnot (tch rLe rLe dI (dbiB rLen T.b_len (dcons dV dnil)) dV)) (wor1 (tcm rEqS (dixS dV dI) dS))))
  (sone (sret dN))
  snil)
  (sone (sret (dif (tval (dbiB rAllX T.b_all (dcons (dfr (dlc (own := [("digit", 2)]) nd (show blkC N_number_in (defScope s_number_in) _ _ = true from by decide +kernel) rfl (istr dV) (fun _ _ _ _ _ => (gN nd)) (fun _ _ _ _ _ => tsnil) (fun _ _ _ _ _ => (dcm rInS dV (dGS T.c_DIGITS))))) dnil))) (dbiT rIntS T.b_int (dcons dV dnil)) dN))))), rfl⟩
theorem c_sign_in (T : Top P K mg) : Cal P w K mg base CX0 2 "sign_in" 1 (mf_sign_in K) := by
  obtain ⟨fd, F⟩ := T.f_sign_in
  refine ⟨T.g_sign_in, F.kp, fd, ["text"], fn_ok0 F sc_sign_in (M_sign_in K) rfl (by decide) (fun cdv A outer s H E hr => ?_), F.binds fun _ _ _ _ _ _ us hl => match us, hl with | [_], _ => rfl⟩
  have nd := sc_sign_in.nd
  refine ⟨_, (show PSs _ _ ((M_sign_in K).t _) from by unfold M_sign_in ; exact (scons (sasgN nd (dcall0 (c_number_in T) (hr.mono (by decide)) (dcval dV (dcval (dbiB rLen T.b_len (dcons (dbiT rStrI T.b_str (dcons (dGI T.c_GREATEST_SIGN) dnil)) dnil)) dcnil))))
  (sone (sret (dif (tpw (wand (tcm rNotN dV dN) (wand1 (tcm rLe dV (dGI T.c_GREATEST_SIGN))))) dV dN))))), rfl⟩
theorem c_is_integer (T : Top P K mg) : Cal P w K mg base CX0 1 "is_integer" 2 (mf_is_integer K) := by
  obtain ⟨fd, F⟩ := T.f_is_integer
  refine ⟨T.g_is_integer, F.kp, fd, ["thing", "least"], fn_ok0 F sc_is_integer (M_is_integer K) rfl (by decide) (fun cdv A outer s H E hr => ?_), F.binds fun _ _ _ _ _ _ us hl => match us, hl with | [_, _], _ => rfl⟩
  have nd := sc_is_integer.nd
  refine ⟨_, (show PSs _ _ ((M_is_integer K).t _) from by unfold M_is_integer ; exact (sone (sret (dand (disi T.b_isinstance T.b_int dV) (dand (dnot (disi T.b_isinstance T.b_bool dV)) (done (dcm rGe dV dV))))))), rfl⟩
theorem c_are_values (T : Top P K mg) : Cal P w K mg base CX0 2 "are_values" 1 (mf_are_values K) := by
  obtain ⟨fd, F⟩ := T.f_are_values
  refine ⟨T.g_are_values, F.kp, fd, ["thing"], fn_ok0 F sc_are_values (M_are_values K) rfl (by decide) (fun cdv A outer s H E hr => ?_), F.binds fun _ _ _ _ _ _ us hl => match us, hl with | [_], _ => rfl⟩
  have nd := sc_are_values.nd
  refine ⟨_, (show PSs _ _ ((M_are_values K).t _) from by unfold M_are_values E_are_values_5 T_are_values_4 G_are_values_3 E_are_values_2 T_are_values_1 G_are_values_0; exact (scons (sif (tpw (wor (tnot (tval (disi T.b_isinstance T.b_list dV))) (wor1 (tnot (tch rLe rLe dI (dbiB rLen T.b_len (dcons dV dnil)) (dcon T.o_System_MOST (dCls T.g_System)))))))
  (sone (sret dB))
  snil)
  (scons (sif (tnot (tval (dbiB rAllX T.b_all (dcons (dfr (dlc (own := [("value", 1)]) nd (show blkC N_are_values (defScope s_are_values) _ _ = true from by decide +kernel) rfl (ilist dV) (fun _ _ _ _ _ => (gN nd)) (fun _ _ _ _ _ => tsnil) (fun _ _ _ _ _ => (dand (dcall0 (c_is_integer T) (hr.mono (by decide)) (dcval dV (dcval dI dcnil))) (done (dcm rLe dV (dGI T.c_MOST_VALUE))))))) dnil))))
  (sone (sret dB))
  snil)
  (sone (sret (dbiB rAllX T.b_all (dcons (dfr (dlc (own := [("one", 2), ("other", 3)]) nd (show blkC N_are_values (defScope s_are_values) _ _ = true from by decide +kernel) rfl (izip T.b_zip dV (dfr (dsl dV (osome dI) onone))) (fun _ _ _ _ _ => (gtup (gcons (gN nd) (gcons (gN nd) gnil)))) (fun _ _ _ _ _ => tsnil) (fun _ _ _ _ _ => (dcm rLt dV dV)))) dnil))))))), rfl⟩
theorem c_is_rule (T : Top P K mg) : Cal P w K mg base CX0 1 "is_rule" 1 (mf_is_rule K) := by
  obtain ⟨fd, F⟩ := T.f_is_rule
  refine ⟨T.g_is_rule, F.kp, fd, ["thing"], fn_ok0 F sc_is_rule (M_is_rule K) rfl (by decide) (fun cdv A outer s H E hr => ?_), F.binds fun _ _ _ _ _ _ us hl => match us, hl with | [_], _ => rfl⟩
  have nd := sc_is_rule.nd
  refine ⟨_, (show PSs _ _ ((M_is_rule K).t _) from by unfold M_is_rule ; exact (sone (sret (dand (disi T.b_isinstance T.b_str dV) (done (dcm rInX dV (dcon T.o_Rule_ALL (dCls T.g_Rule)))))))), rfl⟩
theorem i_System (T : Top P K mg) : CalI P w K mg base 3 "System" "rule" (MN_System K) 3 := by
  obtain ⟨fd, F⟩ := T.f_System___init__
  refine ⟨T.g_System, _, T.mk_System, fn_init F sc_System___init__ (MN_System K) (by decide) T.k_System (show ∀ f ∈ (["held_values", "held_rule"] : List Str), NoAttr K _ f from (na_cons T.na_System_held_values (na_cons T.na_System_held_rule na_nil))) (fun _ _ _ _ _ _ _ _ => rfl) (fun _ _ _ _ _ _ _ _ _ _ => rfl) (fun cdv A outer s H E hr => ?_)⟩
  have nd := sc_System___init__.nd
  have tk := takes_of (X := cxOf (L2.CX P w) P w K mg base N_System___init__ "System.__init__" (defScope s_System___init__) (He.ma K (He.ga K "System") "__init__") cdv A outer s H E) rfl rfl rfl rfl
  refine ⟨_, (show PSs _ _ ((MN_System K).t _) from by unfold MN_System ; exact (nseq (nS (sif (tpw (wor (tnot (ttru (dcall0 (c_are_values T) (hr.mono (by decide)) (dcval (dfr (dbfT rListL T.b_list (dcons dV dnil))) dcnil)))) (wor1 (tnot (ttru (dcall0 (c_is_rule T) (hr.mono (by decide)) (dcval dV dcnil)))))))
  (sone (srs T.x_InvalidValues tk))
  snil))
  (nseq (nF (dfr (dbfT rListL T.b_list (dcons dV dnil))))
  (none1 (nF dV))))), rfl⟩
theorem c_System_of (T : Top P K mg) : FnR P w K mg base (L2.CX P w) 5 (cmg K (He.ma K (He.ga K "System") "of")) (spM K 3 (mf_System_of K)) := by
  obtain ⟨fd, F⟩ := T.f_System_of
  refine fnR_of (ps := ["cls", "values", "rule"]) (fn_okX F sc_System_of (M_System_of K) rfl (by decide) (fun cdv A outer s H E hr => ?_)) (F.binds fun _ _ _ _ _ _ us hl => match us, hl with | [_, _, _], _ => rfl)
  have nd := sc_System_of.nd
  have tk := takes_of (X := cxOf (L2.CX P w) P w K mg base N_System_of "System.of" (defScope s_System_of) (cmg K (He.ma K (He.ga K "System") "of")) cdv A outer s H E) rfl rfl rfl rfl
  refine ⟨_, (show PSs _ _ ((M_System_of K).t _) from by unfold M_System_of ; exact (scons (sif (tnot (ttru (dcall0 (c_are_values T) (hr.mono (by decide)) (dcval dV dcnil))))
  (sone (srs T.x_InvalidValues tk))
  snil)
  (sone (sret (dMkL (i_System T) (hr.mono (by decide)) tk dV dV))))), rfl⟩
theorem cc_System_of (T : Top P K mg) : CalC P w K mg base 5 "System" "of" 3 (mf_System_of K) := ⟨T.g_System, T.kp_System, _, _, _, T.r_System, T.cm_System_of, c_System_of T⟩
theorem x_InvalidText (T : Top P K mg) : CalXE P w K mg base 2 "InvalidText" "index" := by
  obtain ⟨fd, F⟩ := T.f_InvalidText___init__
  refine ⟨⟨_, T.xk_InvalidText, fd, _, xi_fn (txt := "invalid text") F sc_InvalidText___init__ (fun cdv A outer s H E hr => ?_), F.binds fun _ _ _ _ _ _ us hl => match us, hl with | [_, _], _ => rfl⟩, T.g_InvalidText⟩
  exact xi_body (c0 := "SignError") T.xb_SignError T.g_SignError
theorem cn_read_system (T : Top P K mg) {fd : FuncData} (F : Fun K "read_system" "read_system" s_read_system (He.ga K "read_system") fd) : FnOk P w K mg base (L2.CX P w) 6 (He.ga K "read_system") fd ["text"] (spM K 1 (mf_read_system K)) := by
  refine fn_okX F sc_read_system (M_read_system K) rfl (by decide) (fun cdv A outer s H E hr => ?_)
  have nd := sc_read_system.nd
  have tk := takes_of (X := cxOf (L2.CX P w) P w K mg base N_read_system "read_system" (defScope s_read_system) (He.ga K "read_system") cdv A outer s H E) rfl rfl rfl rfl
  refine ⟨_, (show PSs _ _ ((M_read_system K).t _) from by unfold M_read_system B_read_system_1 G_read_system_0; exact (scons (sstar nd (dfr (dsplit dV)))
  (scons (sif (tcm rNotInX dV (dcon T.o_Rule_ALL (dCls T.g_Rule)))
  (sone (srsF (x_InvalidText T) (hr.mono (by decide)) tk dI))
  snil)
  (scons (sasgF nd (dlst dnil))
  (scons (sfor PassesOwn.leaving (ienumF T.b_enumerate dV) (gtup (gcons (gN nd) (gcons (gN nd) gnil)))
  (scons (sasgN nd (dcall0 (c_sign_in T) (hr.mono (by decide)) (dcval dV dcnil)))
  (scons (sif (tpw (wor (tcm rIsN dV dN) (wor (tcm rGe (dbiB rLen T.b_len (dcons dLk dnil)) (dcon T.o_System_MOST (dCls T.g_System))) (wor1 (tpw (wand (tcm (rNeX hr) dLk (dfr (dlst dnil))) (wand1 (tcm rLe dV (dix dLk (dneg dI))))))))))
  (sone (srsF (x_InvalidText T) (hr.mono (by decide)) tk dV))
  snil)
  (sone (sdrop (dmeth PySem.F.slot_list_append PySem.F.type_list_append rAppendX (dcons dV dnil)))))))
  (scons (sif (tcm (rEqX hr) dLk (dfr (dlst dnil)))
  (sone (srsF (x_InvalidText T) (hr.mono (by decide)) tk dI))
  snil)
  (sone (sret (dCM (cc_System_of T) (hr.mono (by decide)) tk (dcval dLt (dcval dV dcnil))))))))))), rfl⟩
theorem c_read_system (T : Top P K mg) : Cal P w K mg base (L2.CX P w) 6 "read_system" 1 (mf_read_system K) := by
  obtain ⟨fd, F⟩ := T.f_read_system
  exact ⟨T.g_read_system, F.kp, fd, ["text"], cn_read_system T F, F.binds fun _ _ _ _ _ _ us hl => match us, hl with | [_], _ => rfl⟩
theorem ck_read_system_text (T : Top P K mg) : CalK P w K mg base (L2.CX P w) 6 "read_system" 1 (mf_read_system K) ["text"] [0] := by
  obtain ⟨fd, F⟩ := T.f_read_system
  refine ⟨T.g_read_system, F.kp, fd, _, cn_read_system T F, ?_⟩
  obtain ⟨oc, od, kV, doc, pm, an, cdv, ct, osl, rfl, lk, hcd⟩ := F.ex
  exact fun s ws hl => match ws, hl with | [_], _ => .of_eq rfl
theorem c_System_row (T : Top P K mg) : ∃ fd ps, FnOk P w K mg base CX0 1 (pmg K (He.ma K (He.ga K "System") "row")) fd ps (spM K 1 (mf_System_row K)) ∧ Binds K fd ps [] := by
  obtain ⟨fd, F⟩ := T.f_System_row
  refine ⟨fd, ["self"], fn_ok0 F sc_System_row (M_System_row K) rfl (by decide) (fun cdv A outer s H E hr => ?_), F.binds fun _ _ _ _ _ _ us hl => match us, hl with | [_], _ => rfl⟩
  have nd := sc_System_row.nd
  refine ⟨_, (show PSs _ _ ((M_System_row K).t _) from by unfold M_System_row ; exact (sone (sret (dfr (dbfT rListL T.b_list (dcons (dfld dV (na_cons ⟨T.k_System, T.na_System_held_values⟩ na_nil)) dnil)))))), rfl⟩
theorem pt_row (T : Top P K mg) : CalPT P w K mg base 1 "row" (ptab_row K) := (calP_cons (CalP.mono (calP_of T.k_System T.pr_System_row (c_System_row T)) (by decide)) calP_nil)
theorem c_System_rule (T : Top P K mg) : ∃ fd ps, FnOk P w K mg base CX0 1 (pmg K (He.ma K (He.ga K "System") "rule")) fd ps (spM K 1 (mf_System_rule K)) ∧ Binds K fd ps [] := by
  obtain ⟨fd, F⟩ := T.f_System_rule
  refine ⟨fd, ["self"], fn_ok0 F sc_System_rule (M_System_rule K) rfl (by decide) (fun cdv A outer s H E hr => ?_), F.binds fun _ _ _ _ _ _ us hl => match us, hl with | [_], _ => rfl⟩
  have nd := sc_System_rule.nd
  refine ⟨_, (show PSs _ _ ((M_System_rule K).t _) from by unfold M_System_rule ; exact (sone (sret (dfld dV (na_cons ⟨T.k_System, T.na_System_held_rule⟩ na_nil))))), rfl⟩
theorem pt_rule (T : Top P K mg) : CalPT P w K mg base 1 "rule" (ptab_rule K) := (calP_cons (CalP.mono (calP_of T.k_System T.pr_System_rule (c_System_rule T)) (by decide)) calP_nil)
theorem cn_write_system (T : Top P K mg) {fd : FuncData} (F : Fun K "write_system" "write_system" s_write_system (He.ga K "write_system") fd) : FnOk P w K mg base CX0 3 (He.ga K "write_system") fd ["system"] (spM K 1 (mf_write_system K)) := by
  refine fn_ok0 F sc_write_system (M_write_system K) rfl (by decide) (fun cdv A outer s H E hr => ?_)
  have nd := sc_write_system.nd
  refine ⟨_, (show PSs _ _ ((M_write_system K).t _) from by unfold M_write_system E_write_system_2 T_write_system_1 G_write_system_0; exact (sone (sret (djoin (dfr (dcat (dfr (dlst (dcons (dprop dV (pt_rule T) (hr.mono (by decide))) dnil))) (dfr (dlc (own := [("value", 1)]) nd (show blkC N_write_system (defScope s_write_system) _ _ = true from by decide +kernel) rfl (ilist (dprop dV (pt_row T) (hr.mono (by decide)))) (fun _ _ _ _ _ => (gN nd)) (fun _ _ _ _ _ => tsnil) (fun _ _ _ _ _ => (dbiT rStrI T.b_str (dcons dV dnil))))))))))), rfl⟩
theorem c_write_system (T : Top P K mg) : Cal P w K mg base CX0 3 "write_system" 1 (mf_write_system K) := by
  obtain ⟨fd, F⟩ := T.f_write_system
  exact ⟨T.g_write_system, F.kp, fd, ["system"], cn_write_system T F, F.binds fun _ _ _ _ _ _ us hl => match us, hl with | [_], _ => rfl⟩
theorem ck_write_system_system (T : Top P K mg) : CalK P w K mg base CX0 3 "write_system" 1 (mf_write_system K) ["system"] [0] := by
  obtain ⟨fd, F⟩ := T.f_write_system
  refine ⟨T.g_write_system, F.kp, fd, _, cn_write_system T F, ?_⟩
  obtain ⟨oc, od, kV, doc, pm, an, cdv, ct, osl, rfl, lk, hcd⟩ := F.ex
  exact fun s ws hl => match ws, hl with | [_], _ => .of_eq rfl
theorem c_common_divisor (T : Top P K mg) : Cal P w K mg base CX0 1 "common_divisor" 1 (mf_common_divisor K) := by
  obtain ⟨fd, F⟩ := T.f_common_divisor
  refine ⟨T.g_common_divisor, F.kp, fd, ["values"], fn_ok0 F sc_common_divisor (M_common_divisor K) rfl (by decide) (fun cdv A outer s H E hr => ?_), F.binds fun _ _ _ _ _ _ us hl => match us, hl with | [_], _ => rfl⟩
  have nd := sc_common_divisor.nd
  refine ⟨_, (show PSs _ _ ((M_common_divisor K).t _) from by unfold M_common_divisor B_common_divisor_3 G_common_divisor_2 B_common_divisor_1 W_common_divisor_0; exact (scons (sasgN nd (dix dV dI))
  (scons (sfor PassesOwn.never (ilist (dfr (dsl dV (osome dI) onone))) (gN nd)
  (scons (sasgN nd dV)
  (sone (swhile PassesOwn.never (tcm rGt dV dI)
  (sone (sparVV nd dV (dop rMod dV dV)))))))
  (sone (sret dV))))), rfl⟩
theorem c_System_divisor (T : Top P K mg) : ∃ fd ps, FnOk P w K mg base CX0 2 (pmg K (He.ma K (He.ga K "System") "divisor")) fd ps (spM K 1 (mf_System_divisor K)) ∧ Binds K fd ps [] := by
  obtain ⟨fd, F⟩ := T.f_System_divisor
  refine ⟨fd, ["self"], fn_ok0 F sc_System_divisor (M_System_divisor K) rfl (by decide) (fun cdv A outer s H E hr => ?_), F.binds fun _ _ _ _ _ _ us hl => match us, hl with | [_], _ => rfl⟩
  have nd := sc_System_divisor.nd
  refine ⟨_, (show PSs _ _ ((M_System_divisor K).t _) from by unfold M_System_divisor ; exact (sone (sret (dcall0 (c_common_divisor T) (hr.mono (by decide)) (dcval (dfld dV (na_cons ⟨T.k_System, T.na_System_held_values⟩ na_nil)) dcnil))))), rfl⟩
theorem pt_divisor (T : Top P K mg) : CalPT P w K mg base 2 "divisor" (ptab_divisor K) := (calP_cons (CalP.mono (calP_of T.k_System T.pr_System_divisor (c_System_divisor T)) (by decide)) calP_nil)
theorem c_System_greatest (T : Top P K mg) : ∃ fd ps, FnOk P w K mg base CX0 1 (pmg K (He.ma K (He.ga K "System") "greatest")) fd ps (spM K 1 (mf_System_greatest K)) ∧ Binds K fd ps [] := by
  obtain ⟨fd, F⟩ := T.f_System_greatest
  refine ⟨fd, ["self"], fn_ok0 F sc_System_greatest (M_System_greatest K) rfl (by decide) (fun cdv A outer s H E hr => ?_), F.binds fun _ _ _ _ _ _ us hl => match us, hl with | [_], _ => rfl⟩
  have nd := sc_System_greatest.nd
  refine ⟨_, (show PSs _ _ ((M_System_greatest K).t _) from by unfold M_System_greatest ; exact (sone (sret (dix (dfld dV (na_cons ⟨T.k_System, T.na_System_held_values⟩ na_nil)) (dneg dI))))), rfl⟩
theorem pt_greatest (T : Top P K mg) : CalPT P w K mg base 1 "greatest" (ptab_greatest K) := (calP_cons (CalP.mono (calP_of T.k_System T.pr_System_greatest (c_System_greatest T)) (by decide)) calP_nil)
theorem c__law_shown (T : Top P K mg) : Cal P w K mg base CX0 4 "_law_shown" 1 (mf__law_shown K) := by
  obtain ⟨fd, F⟩ := T.f__law_shown
  refine ⟨T.g__law_shown, F.kp, fd, ["_law_numerals"], fn_ok0 F sc__law_shown (M__law_shown K) rfl (by decide) (fun cdv A outer s H E hr => ?_), F.binds fun _ _ _ _ _ _ us hl => match us, hl with | [_], _ => rfl⟩
  have nd := sc__law_shown.nd
  refine ⟨_, (show PSs _ _ ((M__law_shown K).t _) from by unfold M__law_shown ; exact (sone (sret (dfr (dlst (dcons (dprop dV (pt_row T) (hr.mono (by decide))) (dcons (dprop dV (pt_rule T) (hr.mono (by decide))) (dcons (dprop dV (pt_greatest T) (hr.mono (by decide))) (dcons (dprop dV (pt_divisor T) (hr.mono (by decide))) dnil))))))))), rfl⟩
theorem c_System_with_rule (T : Top P K mg) : FnR P w K mg base (L2.CX P w) 5 (He.ma K (He.ga K "System") "with_rule") (spM K 2 (mf_System_with_rule K)) := by
  obtain ⟨fd, F⟩ := T.f_System_with_rule
  refine fnR_of (ps := ["self", "rule"]) (fn_okX F sc_System_with_rule (M_System_with_rule K) rfl (by decide) (fun cdv A outer s H E hr => ?_)) (F.binds fun _ _ _ _ _ _ us hl => match us, hl with | [_, _], _ => rfl)
  have nd := sc_System_with_rule.nd
  have tk := takes_of (X := cxOf (L2.CX P w) P w K mg base N_System_with_rule "System.with_rule" (defScope s_System_with_rule) (He.ma K (He.ga K "System") "with_rule") cdv A outer s H E) rfl rfl rfl rfl
  refine ⟨_, (show PSs _ _ ((M_System_with_rule K).t _) from by unfold M_System_with_rule ; exact (sone (sret (dMkS (i_System T) (hr.mono (by decide)) tk (dfld dV (na_cons ⟨T.k_System, T.na_System_held_values⟩ na_nil)) dV)))), rfl⟩
theorem t_with_rule (T : Top P K mg) : CalT P w K mg base 5 "with_rule" 2 (tab_with_rule K) := (calT_cons (CalM.mono ⟨T.k_System, _, T.t_System_with_rule, c_System_with_rule T⟩ (by decide)) calT_nil)
theorem c__law_system_right (T : Top P K mg) : CalG P w K mg base (L2.CX P w) 7 "_law_system_right" 2 (mf__law_system_right K) := by
  obtain ⟨fd, F⟩ := T.f__law_system_right
  refine ⟨T.g__law_system_right, F.kp, fn_gX F sc__law_system_right (M__law_system_right K) rfl (by decide) (F.binds fun _ _ _ _ _ _ us hl => match us, hl with | [_, _], _ => rfl) (fun cdv A outer s H E hr hg => ?_)⟩
  have nd := sc__law_system_right.nd
  have tk := takes_of (X := cxOf (L2.CX P w) P w K mg base N__law_system_right "_law_system_right" (defScope s__law_system_right) (He.ga K "_law_system_right") cdv A outer s H E) rfl rfl rfl rfl
  refine ⟨_, (show PSs _ _ ((M__law_system_right K).t _) from by unfold M__law_system_right B__law_system_right_4 B__law_system_right_3 E__law_system_right_2 T__law_system_right_1 G__law_system_right_0; exact (scons (sasgN nd (dCM (cc_System_of T) (hr.mono (by decide)) tk (dcval dV (dcval dV dcnil))))
  (snam (scons (sparVV nd (djoin (dfr (dcat (dfr (dlst (dcons dV dnil))) (dfr (dlc (own := [("_law_sign", 8)]) nd (show blkC N__law_system_right (defScope s__law_system_right) _ _ = true from by decide +kernel) rfl (ilist dV) (fun _ _ _ _ _ => (gN nd)) (fun _ _ _ _ _ => tsnil) (fun _ _ _ _ _ => (dbiT rStrI T.b_str (dcons dV dnil)))))))) (dcall0 (c__law_shown T) (hr.mono (by decide)) (dcval dV dcnil)))
  (scons (sif (tcm rNeS (drepr hr hg T.sm_K T.b_repr (dcons (dfr (dlst (dcons (dcall0 (c_write_system T) (hr.mono (by decide)) (dcval dV dcnil)) (dcons (dcallK0 (ck_write_system_system T) (hr.mono (by decide)) (kval dV knil)) dnil)))) dnil)) (drepr hr hg T.sm_K T.b_repr (dcons (dfr (dlst (dcons dV (dcons dV dnil)))) dnil)))
  (sone (sret dB))
  snil)
  (stwoI (sparVV nd (dcallX (c_read_system T) (hr.mono (by decide)) tk (dcval dV dcnil)) (dcallKX (ck_read_system_text T) (hr.mono (by decide)) tk (kval dV knil)))
  (scons (sif (tpw (wor (tcm rNeS (drepr hr hg T.sm_K T.b_repr (dcons (dfr (dlst (dcons (dcall0 (c__law_shown T) (hr.mono (by decide)) (dcval dV dcnil)) (dcons (dcall0 (c__law_shown T) (hr.mono (by decide)) (dcval dV dcnil)) dnil)))) dnil)) (drepr hr hg T.sm_K T.b_repr (dcons (dfr (dlst (dcons dV (dcons dV dnil)))) dnil))) (wor (tdif T.eqc_System hr dV dV) (wor1 (tdif T.eqc_System hr dV dV)))))
  (sone (sret dB))
  snil)
  (scons (sasgN nd (dM dV (t_with_rule T) (hr.mono (by decide)) tk (dcval dS dcnil)))
  (sone (sret (dand (dcm (rEqX hr) (dfr (dsplit (dcall0 (c_write_system T) (hr.mono (by decide)) (dcval dV dcnil)))) (dfr (dcat (dfr (dlst (dcons dS dnil))) (dfr (dsl (dfr (dsplit dV)) (osome dI) onone))))) (done (dcm (rEqX hr) (dcall0 (c_write_system T) (hr.mono (by decide)) (dcval dV dcnil)) dV))))))))))))), rfl⟩
theorem c__law_tape (T : Top P K mg) : Cal P w K mg base CX0 1 "_law_tape" 2 (mf__law_tape K) := by
  obtain ⟨fd, F⟩ := T.f__law_tape
  refine ⟨T.g__law_tape, F.kp, fd, ["_law_script", "_law_k"], fn_ok0 F sc__law_tape (M__law_tape K) rfl (by decide) (fun cdv A outer s H E hr => ?_), F.binds fun _ _ _ _ _ _ us hl => match us, hl with | [_, _], _ => rfl⟩
  have nd := sc__law_tape.nd
  refine ⟨_, (show PSs _ _ ((M__law_tape K).t _) from by unfold M__law_tape ; exact (scons (sasgN nd (dif (tcm rLt dV (dbiB rLen T.b_len (dcons dV dnil))) (dbiB rAbs T.b_abs (dcons (dix dV dV) dnil)) dI))
  (sone (sretF (dlst (dcons (dbiB rMax2 T.b_max (dcons dI (dcons (dop rSub dV (dop rPow dI dI)) dnil))) (dcons (dop rAdd (dop rMul (dop rMod dV (dop rAdd (dop rPow dI dI) dI)) dI) dV) (dcons dI dnil)))))))), rfl⟩
theorem c_run_in (T : Top P K mg) : Cal P w K mg base CX0 3 "run_in" 1 (mf_run_in K) := by
  obtain ⟨fd, F⟩ := T.f_run_in
  refine ⟨T.g_run_in, F.kp, fd, ["text"], fn_ok0 F sc_run_in (M_run_in K) rfl (by decide) (fun cdv A outer s H E hr => ?_), F.binds fun _ _ _ _ _ _ us hl => match us, hl with | [_], _ => rfl⟩
  have nd := sc_run_in.nd
  refine ⟨_, (show PSs _ _ ((M_run_in K).t _) from by unfold M_run_in ; exact (scons (smatch nd (dfr (dsplit dV))
  (sone (sasgN nd (dtup (dcons (dcall0 (c_sign_in T) (hr.mono (by decide)) (dcval dV dcnil)) (dcons dI dnil)))))
  (scons (sasgN nd (dtup (dcons (dcall0 (c_sign_in T) (hr.mono (by decide)) (dcval dV dcnil)) (dcons (dcall0 (c_number_in T) (hr.mono (by decide)) (dcval dV (dcval (dGI T.c_MOST_DIGITS) dcnil))) dnil))))
  (sone (sasgN nd (dif (tcm (rNeX hr) (dix dV dI) dI) dV (dtup (dcons dN (dcons dI dnil)))))))
  (sone (sasgN nd (dtup (dcons dN (dcons dN dnil))))))
  (sone (sret (dif (tcm rNotInX dN dV) dV dN))))), rfl⟩
theorem cn_read_word (T : Top P K mg) {fd : FuncData} (F : Fun K "read_word" "read_word" s_read_word (He.ga K "read_word") fd) : FnOk P w K mg base (L2.CX P w) 4 (He.ga K "read_word") fd ["text"] (spM K 1 (mf_read_word K)) := by
  refine fn_okX F sc_read_word (M_read_word K) rfl (by decide) (fun cdv A outer s H E hr => ?_)
  have nd := sc_read_word.nd
  have tk := takes_of (X := cxOf (L2.CX P w) P w K mg base N_read_word "read_word" (defScope s_read_word) (He.ga K "read_word") cdv A outer s H E) rfl rfl rfl rfl
  refine ⟨_, (show PSs _ _ ((M_read_word K).t _) from by unfold M_read_word B_read_word_1 G_read_word_0; exact (scons (sasgF nd (dlst dnil))
  (scons (sfor PassesOwn.leaving (ienum T.b_enumerate (dfr (dsplit dV))) (gtup (gcons (gN nd) (gcons (gN nd) gnil)))
  (scons (sasgN nd (dcall0 (c_run_in T) (hr.mono (by decide)) (dcval dV dcnil)))
  (scons (sif (tpw (wor (tcm rIsN dV dN) (wor (tcm rGe dV (dGI T.c_MOST_RUNS)) (wor1 (tpw (wand (tcm (rNeX hr) dLk (dfr (dlst dnil))) (wand1 (tcm (rEqX hr) (dix (dix dLk (dneg dI)) dI) (dix dV dI)))))))))
  (sone (srsF (x_InvalidText T) (hr.mono (by decide)) tk dV))
  snil)
  (sone (sdrop (dmeth PySem.F.slot_list_append PySem.F.type_list_append rAppendX (dcons dV dnil)))))))
  (sone sretC)))), rfl⟩
theorem c_read_word (T : Top P K mg) : Cal P w K mg base (L2.CX P w) 4 "read_word" 1 (mf_read_word K) := by
  obtain ⟨fd, F⟩ := T.f_read_word
  exact ⟨T.g_read_word, F.kp, fd, ["text"], cn_read_word T F, F.binds fun _ _ _ _ _ _ us hl => match us, hl with | [_], _ => rfl⟩
theorem ck_read_word_text (T : Top P K mg) : CalK P w K mg base (L2.CX P w) 4 "read_word" 1 (mf_read_word K) ["text"] [0] := by
  obtain ⟨fd, F⟩ := T.f_read_word
  refine ⟨T.g_read_word, F.kp, fd, _, cn_read_word T F, ?_⟩
  obtain ⟨oc, od, kV, doc, pm, an, cdv, ct, osl, rfl, lk, hcd⟩ := F.ex
  exact fun s ws hl => match ws, hl with | [_], _ => .of_eq rfl
theorem c_run_text (T : Top P K mg) : Cal P w K mg base CX0 1 "run_text" 1 (mf_run_text K) := by
  obtain ⟨fd, F⟩ := T.f_run_text
  refine ⟨T.g_run_text, F.kp, fd, ["run"], fn_ok0 F sc_run_text (M_run_text K) rfl (by decide) (fun cdv A outer s H E hr => ?_), F.binds fun _ _ _ _ _ _ us hl => match us, hl with | [_], _ => rfl⟩
  have nd := sc_run_text.nd
  refine ⟨_, (show PSs _ _ ((M_run_text K).t _) from by unfold M_run_text ; exact (scons (sasg dV (gtup (gcons (gN nd) (gcons (gN nd) gnil))))
  (sone (sret (dif (tcm rGt dV dI) (djs (djcons (dfmt dV) (djcons dS (djcons (dfmt dV) djnil)))) (djs1 (dfmt dV))))))), rfl⟩
theorem cn_write_word (T : Top P K mg) {fd : FuncData} (F : Fun K "write_word" "write_word" s_write_word (He.ga K "write_word") fd) : FnOk P w K mg base CX0 2 (He.ga K "write_word") fd ["word"] (spM K 1 (mf_write_word K)) := by
  refine fn_ok0 F sc_write_word (M_write_word K) rfl (by decide) (fun cdv A outer s H E hr => ?_)
  have nd := sc_write_word.nd
  refine ⟨_, (show PSs _ _ ((M_write_word K).t _) from by unfold M_write_word E_write_word_2 T_write_word_1 G_write_word_0; exact (sone (sret (djoin (dfr (dlc (own := [("run", 1)]) nd (show blkC N_write_word (defScope s_write_word) _ _ = true from by decide +kernel) rfl (ilist dV) (fun _ _ _ _ _ => (gN nd)) (fun _ _ _ _ _ => tsnil) (fun _ _ _ _ _ => (dcall0 (c_run_text T) (hr.mono (by decide)) (dcval dV dcnil))))))))), rfl⟩
theorem c_write_word (T : Top P K mg) : Cal P w K mg base CX0 2 "write_word" 1 (mf_write_word K) := by
  obtain ⟨fd, F⟩ := T.f_write_word
  exact ⟨T.g_write_word, F.kp, fd, ["word"], cn_write_word T F, F.binds fun _ _ _ _ _ _ us hl => match us, hl with | [_], _ => rfl⟩
theorem ck_write_word_word (T : Top P K mg) : CalK P w K mg base CX0 2 "write_word" 1 (mf_write_word K) ["word"] [0] := by
  obtain ⟨fd, F⟩ := T.f_write_word
  refine ⟨T.g_write_word, F.kp, fd, _, cn_write_word T F, ?_⟩
  obtain ⟨oc, od, kV, doc, pm, an, cdv, ct, osl, rfl, lk, hcd⟩ := F.ex
  exact fun s ws hl => match ws, hl with | [_], _ => .of_eq rfl
theorem c__law_text (T : Top P K mg) : Cal P w K mg base CX0 1 "_law_text" 1 (mf__law_text K) := by
  obtain ⟨fd, F⟩ := T.f__law_text
  refine ⟨T.g__law_text, F.kp, fd, ["_law_runs_here"], fn_ok0 F sc__law_text (M__law_text K) rfl (by decide) (fun cdv A outer s H E hr => ?_), F.binds fun _ _ _ _ _ _ us hl => match us, hl with | [_], _ => rfl⟩
  have nd := sc__law_text.nd
  refine ⟨_, (show PSs _ _ ((M__law_text K).t _) from by unfold M__law_text E__law_text_2 T__law_text_1 G__law_text_0; exact (sone (sret (djoin (dfr (dlc (own := [("_law_sign", 1), ("_law_count", 2)]) nd (show blkC N__law_text (defScope s__law_text) _ _ = true from by decide +kernel) rfl (ilist dV) (fun _ _ _ _ _ => (gtup (gcons (gN nd) (gcons (gN nd) gnil)))) (fun _ _ _ _ _ => tsnil) (fun _ _ _ _ _ => (dop rCatS (dbiT rStrI T.b_str (dcons dV dnil)) (dif (tcm rGt dV dI) (dop rCatS dS (dbiT rStrI T.b_str (dcons dV dnil))) dS))))))))), rfl⟩
theorem c__law_word_right (T : Top P K mg) : CalG P w K mg base (L2.CX P w) 5 "_law_word_right" 1 (mf__law_word_right K) := by
  obtain ⟨fd, F⟩ := T.f__law_word_right
  refine ⟨T.g__law_word_right, F.kp, fn_gX F sc__law_word_right (M__law_word_right K) rfl (by decide) (F.binds fun _ _ _ _ _ _ us hl => match us, hl with | [_], _ => rfl) (fun cdv A outer s H E hr hg => ?_)⟩
  have nd := sc__law_word_right.nd
  have tk := takes_of (X := cxOf (L2.CX P w) P w K mg base N__law_word_right "_law_word_right" (defScope s__law_word_right) (He.ga K "_law_word_right") cdv A outer s H E) rfl rfl rfl rfl
  refine ⟨_, (show PSs _ _ ((M__law_word_right K).t _) from by unfold M__law_word_right ; exact (scons (sparVV nd (dcall0 (c__law_text T) (hr.mono (by decide)) (dcval dV dcnil)) (drepr hr hg T.sm_K T.b_repr (dcons dV dnil)))
  (scons (sif (tcm rNeS (drepr hr hg T.sm_K T.b_repr (dcons (dfr (dlst (dcons (dcall0 (c_write_word T) (hr.mono (by decide)) (dcval dV dcnil)) (dcons (dcallK0 (ck_write_word_word T) (hr.mono (by decide)) (kval dV knil)) dnil)))) dnil)) (drepr hr hg T.sm_K T.b_repr (dcons (dfr (dlst (dcons dV (dcons dV dnil)))) dnil)))
  (sone (sret dB))
  snil)
  (scons (sparFV nd (dcallFX (c_read_word T) (hr.mono (by decide)) tk (dcval dV dcnil)) (dfr (dcallKFX (ck_read_word_text T) (hr.mono (by decide)) tk (kval dV knil))))
  (scons (sif (tcm rNeS (drepr hr hg T.sm_K T.b_repr (dcons (dlstL (dcons dLk (dcons dV dnil))) dnil)) (drepr hr hg T.sm_K T.b_repr (dcons (dfr (dlst (dcons dV (dcons dV dnil)))) dnil)))
  (sone (sret dB))
  snil)
  (scons (sdrop (dmeth0 PySem.F.slot_list_reverse PySem.F.type_list_reverse rReverseX))
  (scons (sdrop (dmeth PySem.F.slot_list_append PySem.F.type_list_append rAppendX (dcons (dtup (dcons dI (dcons dI dnil))) dnil)))
  (sone (sret (dand (dcm rEqS (drepr hr hg T.sm_K T.b_repr (dcons (dfr (dlst (dcons dV (dcons (dfr (dcallFX (c_read_word T) (hr.mono (by decide)) tk (dcval dV dcnil))) dnil)))) dnil)) (drepr hr hg T.sm_K T.b_repr (dcons (dfr (dlst (dcons dV (dcons dV dnil)))) dnil))) (done (dcm rEqS (drepr hr hg T.sm_K T.b_repr (dcons dV dnil)) dV)))))))))))), rfl⟩
theorem c_law (T : Top P K mg) : FnG P w K mg base (L2.CX P w) 8 (He.ga K "law") (spM K 1 (mf_law K)) := by
  obtain ⟨fd, F⟩ := T.f_law
  refine fn_gX F sc_law (M_law K) rfl (by decide) (F.binds fun _ _ _ _ _ _ us hl => match us, hl with | [_], _ => rfl) (fun cdv A outer s H E hr hg => ?_)
  have nd := sc_law.nd
  have tk := takes_of (X := cxOf (L2.CX P w) P w K mg base N_law "law" (defScope s_law) (He.ga K "law") cdv A outer s H E) rfl rfl rfl rfl
  refine ⟨_, (show PSs _ _ ((M_law K).t _) from by unfold M_law E_law_9 T_law_8 G_law_7 E_law_6 T_law_5 G_law_4 B_law_3 G_law_2 B_law_1 G_law_0; exact (scons (sfor PassesOwn.leaving (irng1 T.b_range (dbiB rMax2 T.b_max (dcons dI (dcons (dbiB rMin2 T.b_min (dcons dI (dcons (dbiB rLen T.b_len (dcons dV dnil)) dnil))) dnil)))) (gN nd)
  (scons (sasgF nd (dcallF0 (c__law_tape T) (hr.mono (by decide)) (dcval dV (dcval dV dcnil))))
  (sone (sfor PassesOwn.leaving (irng1 T.b_range dI) (gN nd)
  (scons (sasgF nd (dcallF0 (c__law_runs T) (hr.mono (by decide)) (dccel (dcval (dop rAdd dI (dcall0 (c__law_next T) (hr.mono (by decide)) (dccel (dcval (dix (dfr (dlst (dcons dI (dcons dI (dcons dI dnil))))) dV) dcnil)))) dcnil))))
  (scons (sif (tpw (wor (tnot (ttru (dcallGLX (c__law_word_right T) (hr.mono (by decide)) hg tk (dccel dcnil)))) (wor1 (tnot (ttru (dcallGX (c__law_system_right T) (hr.mono (by decide)) hg tk (dcval (dcall0 (c__law_scale T) (hr.mono (by decide)) (dccel (dcval dI dcnil))) (dcval (dcall0 (c__law_kind T) (hr.mono (by decide)) (dccel dcnil)) dcnil))))))))
  (sone (sret dB))
  snil)
  (scons (ssetI (dtup (dcons (dsc (dix (dix dLk (dneg dI)) dI)) (dcons (dop rAdd (dop rMod (dix (dix dLk (dneg dI)) dI) dI) dI) dnil))) (dneg dI))
  (scons (sif (tcm rLt (dbiB rLen T.b_len (dcons dLk dnil)) dI)
  (sone (sdrop (dmeth PySem.F.slot_list_append PySem.F.type_list_append rAppendX (dcons (dtup (dcons (dop rAdd (dop rMod (dix (dix dLk (dneg dI)) dI) dI) dI) (dcons dI dnil))) dnil))))
  snil)
  (sone (sif (tnot (ttru (dcallGLX (c__law_word_right T) (hr.mono (by decide)) hg tk (dccel dcnil))))
  (sone (sret dB))
  snil))))))))))
  (scons (sasgF nd (dcat (dfr (dlc (own := [("_law_at", 5)]) nd (show blkC N_law (defScope s_law) _ _ = true from by decide +kernel) rfl (irng1 T.b_range dI) (fun _ _ _ _ _ => (gN nd)) (fun _ _ _ _ _ => tsnil) (fun _ _ _ _ _ => (dtup (dcons (dop rAdd dI (dop rMod dV dI)) (dcons (dop rSub (dop rMul (dop rPow dI dI) (dop rPow dI dI)) dI) dnil)))))) (dfr (dlc (own := [("_law_at", 5)]) nd (show blkC N_law (defScope s_law) _ _ = true from by decide +kernel) rfl (irng1 T.b_range dI) (fun _ _ _ _ _ => (gN nd)) (fun _ _ _ _ _ => tsnil) (fun _ _ _ _ _ => (dtup (dcons (dop rAdd dI (dop rMod dV dI)) (dcons dI dnil))))))))
  (sone (sret (dand (dcallGLX (c__law_word_right T) (hr.mono (by decide)) hg tk (dccel dcnil)) (done (dcm (rEqX hr) (dcall0 (c_write_word T) (hr.mono (by decide)) (dcval (dfr (dlst (dcons (dtup (dcons dI (dcons dI dnil))) (dcons (dtup (dcons dI (dcons dI dnil))) dnil)))) dcnil)) dS)))))))), rfl⟩
end
theorem top_of {K : PySem.W.Frag} {h : Heap} {mg : Str → Option Value} (X : K.In h) (G : h.Ns mainGlobals mg) (c : SaysY fa fn K) : Top PySem.Challenge.pw_signsheets_k81_texts_both_ways K mg where
  b_abs := He.free_ok X G (c.fact 0 (f := fun K => (He.Fa.free "abs").ok K) rfl)
  b_all := He.free_ok X G (c.fact 1 (f := fun K => (He.Fa.free "all").ok K) rfl)
  b_bool := He.free_ok X G (c.fact 2 (f := fun K => (He.Fa.free "bool").ok K) rfl)
  b_enumerate := He.free_ok X G (c.fact 3 (f := fun K => (He.Fa.free "enumerate").ok K) rfl)
  b_int := He.free_ok X G (c.fact 4 (f := fun K => (He.Fa.free "int").ok K) rfl)
  b_isinstance := He.free_ok X G (c.fact 5 (f := fun K => (He.Fa.free "isinstance").ok K) rfl)
  b_len := He.free_ok X G (c.fact 6 (f := fun K => (He.Fa.free "len").ok K) rfl)
  b_list := He.free_ok X G (c.fact 7 (f := fun K => (He.Fa.free "list").ok K) rfl)
  b_max := He.free_ok X G (c.fact 8 (f := fun K => (He.Fa.free "max").ok K) rfl)
  b_min := He.free_ok X G (c.fact 9 (f := fun K => (He.Fa.free "min").ok K) rfl)
  b_range := He.free_ok X G (c.fact 10 (f := fun K => (He.Fa.free "range").ok K) rfl)
  b_repr := He.free_ok X G (c.fact 11 (f := fun K => (He.Fa.free "repr").ok K) rfl)
  b_sorted := He.free_ok X G (c.fact 12 (f := fun K => (He.Fa.free "sorted").ok K) rfl)
  b_str := He.free_ok X G (c.fact 13 (f := fun K => (He.Fa.free "str").ok K) rfl)
  b_zip := He.free_ok X G (c.fact 14 (f := fun K => (He.Fa.free "zip").ok K) rfl)
  c_DIGITS := He.str_ok X G (c.fact 15 (f := fun K => (He.Fa.str "DIGITS" "0123456789").ok K) rfl)
  c_GREATEST_SIGN := He.int_ok X G (c.fact 16 (f := fun K => (He.Fa.int "GREATEST_SIGN" 60).ok K) rfl)
  c_MOST_DIGITS := He.int_ok X G (c.fact 17 (f := fun K => (He.Fa.int "MOST_DIGITS" 60).ok K) rfl)
  c_MOST_RUNS := He.int_ok X G (c.fact 18 (f := fun K => (He.Fa.int "MOST_RUNS" 200).ok K) rfl)
  c_MOST_VALUE := He.int_ok X G (c.fact 19 (f := fun K => (He.Fa.int "MOST_VALUE" 60).ok K) rfl)
  cm_System_of := cmet_ok (c.fact 20 (f := fun K => cmetB K "System" "of") rfl)
  eqc_System := (c.fact 21 (f := fun K => eqcB K "System") rfl)
  f_InvalidText___init__ := fun_of (d := fn[11]) (c.def_ 11 rfl).1 (c.def_ 11 rfl).2 rfl
  f_System___init__ := fun_of (d := fn[9]) (c.def_ 9 rfl).1 (c.def_ 9 rfl).2 rfl
  f_System_divisor := fun_of (d := fn[17]) (c.def_ 17 rfl).1 (c.def_ 17 rfl).2 rfl
  f_System_greatest := fun_of (d := fn[18]) (c.def_ 18 rfl).1 (c.def_ 18 rfl).2 rfl
  f_System_of := fun_of (d := fn[10]) (c.def_ 10 rfl).1 (c.def_ 10 rfl).2 rfl
  f_System_row := fun_of (d := fn[13]) (c.def_ 13 rfl).1 (c.def_ 13 rfl).2 rfl
  f_System_rule := fun_of (d := fn[14]) (c.def_ 14 rfl).1 (c.def_ 14 rfl).2 rfl
  f_System_with_rule := fun_of (d := fn[20]) (c.def_ 20 rfl).1 (c.def_ 20 rfl).2 rfl
  f__law_kind := fun_of (d := fn[1]) (c.def_ 1 rfl).1 (c.def_ 1 rfl).2 rfl
  f__law_next := fun_of (d := fn[0]) (c.def_ 0 rfl).1 (c.def_ 0 rfl).2 rfl
  f__law_runs := fun_of (d := fn[2]) (c.def_ 2 rfl).1 (c.def_ 2 rfl).2 rfl
  f__law_scale := fun_of (d := fn[3]) (c.def_ 3 rfl).1 (c.def_ 3 rfl).2 rfl
  f__law_shown := fun_of (d := fn[19]) (c.def_ 19 rfl).1 (c.def_ 19 rfl).2 rfl
  f__law_system_right := fun_of (d := fn[21]) (c.def_ 21 rfl).1 (c.def_ 21 rfl).2 rfl
  f__law_tape := fun_of (d := fn[22]) (c.def_ 22 rfl).1 (c.def_ 22 rfl).2 rfl
  f__law_text := fun_of (d := fn[27]) (c.def_ 27 rfl).1 (c.def_ 27 rfl).2 rfl
  f__law_word_right := fun_of (d := fn[28]) (c.def_ 28 rfl).1 (c.def_ 28 rfl).2 rfl
  f_are_values := fun_of (d := fn[7]) (c.def_ 7 rfl).1 (c.def_ 7 rfl).2 rfl
  f_common_divisor := fun_of (d := fn[16]) (c.def_ 16 rfl).1 (c.def_ 16 rfl).2 rfl
  f_is_integer := fun_of (d := fn[6]) (c.def_ 6 rfl).1 (c.def_ 6 rfl).2 rfl
  f_is_rule := fun_of (d := fn[8]) (c.def_ 8 rfl).1 (c.def_ 8 rfl).2 rfl
  f_law := fun_of (d := fn[29]) (c.def_ 29 rfl).1 (c.def_ 29 rfl).2 rfl
  f_number_in := fun_of (d := fn[4]) (c.def_ 4 rfl).1 (c.def_ 4 rfl).2 rfl
  f_read_system := fun_of (d := fn[12]) (c.def_ 12 rfl).1 (c.def_ 12 rfl).2 rfl
  f_read_word := fun_of (d := fn[24]) (c.def_ 24 rfl).1 (c.def_ 24 rfl).2 rfl
  f_run_in := fun_of (d := fn[23]) (c.def_ 23 rfl).1 (c.def_ 23 rfl).2 rfl
  f_run_text := fun_of (d := fn[25]) (c.def_ 25 rfl).1 (c.def_ 25 rfl).2 rfl
  f_sign_in := fun_of (d := fn[5]) (c.def_ 5 rfl).1 (c.def_ 5 rfl).2 rfl
  f_write_system := fun_of (d := fn[15]) (c.def_ 15 rfl).1 (c.def_ 15 rfl).2 rfl
  f_write_word := fun_of (d := fn[26]) (c.def_ 26 rfl).1 (c.def_ 26 rfl).2 rfl
  g_InvalidText := He.glo_ok X G (c.fact 22 (f := fun K => (He.Fa.glo "InvalidText").ok K) rfl)
  g_InvalidValues := He.glo_ok X G (c.fact 23 (f := fun K => (He.Fa.glo "InvalidValues").ok K) rfl)
  g_Rule := He.glo_ok X G (c.fact 24 (f := fun K => (He.Fa.glo "Rule").ok K) rfl)
  g_SignError := He.glo_ok X G (c.fact 25 (f := fun K => (He.Fa.glo "SignError").ok K) rfl)
  g_System := He.glo_ok X G (c.fact 26 (f := fun K => (He.Fa.glo "System").ok K) rfl)
  g__law_kind := He.glo_ok X G (c.fact 27 (f := fun K => (He.Fa.glo "_law_kind").ok K) rfl)
  g__law_next := He.glo_ok X G (c.fact 28 (f := fun K => (He.Fa.glo "_law_next").ok K) rfl)
  g__law_runs := He.glo_ok X G (c.fact 29 (f := fun K => (He.Fa.glo "_law_runs").ok K) rfl)
  g__law_scale := He.glo_ok X G (c.fact 30 (f := fun K => (He.Fa.glo "_law_scale").ok K) rfl)
  g__law_shown := He.glo_ok X G (c.fact 31 (f := fun K => (He.Fa.glo "_law_shown").ok K) rfl)
  g__law_system_right := He.glo_ok X G (c.fact 32 (f := fun K => (He.Fa.glo "_law_system_right").ok K) rfl)
  g__law_tape := He.glo_ok X G (c.fact 33 (f := fun K => (He.Fa.glo "_law_tape").ok K) rfl)
  g__law_text := He.glo_ok X G (c.fact 34 (f := fun K => (He.Fa.glo "_law_text").ok K) rfl)
  g__law_word_right := He.glo_ok X G (c.fact 35 (f := fun K => (He.Fa.glo "_law_word_right").ok K) rfl)
  g_are_values := He.glo_ok X G (c.fact 36 (f := fun K => (He.Fa.glo "are_values").ok K) rfl)
  g_common_divisor := He.glo_ok X G (c.fact 37 (f := fun K => (He.Fa.glo "common_divisor").ok K) rfl)
  g_is_integer := He.glo_ok X G (c.fact 38 (f := fun K => (He.Fa.glo "is_integer").ok K) rfl)
  g_is_rule := He.glo_ok X G (c.fact 39 (f := fun K => (He.Fa.glo "is_rule").ok K) rfl)
  g_law := He.glo_ok X G (c.fact 40 (f := fun K => (He.Fa.glo "law").ok K) rfl)
  g_number_in := He.glo_ok X G (c.fact 41 (f := fun K => (He.Fa.glo "number_in").ok K) rfl)
  g_read_system := He.glo_ok X G (c.fact 42 (f := fun K => (He.Fa.glo "read_system").ok K) rfl)
  g_read_word := He.glo_ok X G (c.fact 43 (f := fun K => (He.Fa.glo "read_word").ok K) rfl)
  g_run_in := He.glo_ok X G (c.fact 44 (f := fun K => (He.Fa.glo "run_in").ok K) rfl)
  g_run_text := He.glo_ok X G (c.fact 45 (f := fun K => (He.Fa.glo "run_text").ok K) rfl)
  g_sign_in := He.glo_ok X G (c.fact 46 (f := fun K => (He.Fa.glo "sign_in").ok K) rfl)
  g_write_system := He.glo_ok X G (c.fact 47 (f := fun K => (He.Fa.glo "write_system").ok K) rfl)
  g_write_word := He.glo_ok X G (c.fact 48 (f := fun K => (He.Fa.glo "write_word").ok K) rfl)
  k_System := He.cls_ok (c.fact 49 (f := fun K => (He.Fa.cls "System").ok K) rfl)
  kp_System := He.keep_ok (c.fact 50 (f := fun K => (He.Fa.keep "System").ok K) rfl)
  mk_System := mk_ok (c.fact 51 (f := fun K => mkB K "System" "System") rfl)
  na_System_held_rule := noat_ok (c.fact 52 (f := fun K => noatB K "System" "held_rule") rfl)
  na_System_held_values := noat_ok (c.fact 53 (f := fun K => noatB K "System" "held_values") rfl)
  o_Rule_ALL := con_ok (c.fact 54 (f := fun K => creadB K "Rule") rfl) (c.fact 55 (f := fun K => conB K "Rule" "ALL" ["plain", "single", "next", "block", "later"]) rfl)
  o_System_MOST := conI_ok (c.fact 56 (f := fun K => creadB K "System") rfl) (c.fact 57 (f := fun K => conIB K "System" "MOST" 6) rfl)
  pr_System_divisor := prop_ok (c.fact 58 (f := fun K => propB K "System" "divisor" "System") rfl)
  pr_System_greatest := prop_ok (c.fact 59 (f := fun K => propB K "System" "greatest" "System") rfl)
  pr_System_row := prop_ok (c.fact 60 (f := fun K => propB K "System" "row" "System") rfl)
  pr_System_rule := prop_ok (c.fact 61 (f := fun K => propB K "System" "rule" "System") rfl)
  r_System := cread_ok (c.fact 56 (f := fun K => creadB K "System") rfl)
  sm_K := smK_ok (c.fact 62 (f := fun K => smB K) rfl)
  t_System_with_rule := methB_ok (c.fact 63 (f := fun K => methB K "System" "with_rule" "System") rfl)
  x_InvalidValues := xf_ok (He.glo_ok X G (c.fact 23 (f := fun K => (He.Fa.glo "InvalidValues").ok K) rfl)) (c.fact 64 (f := fun K => (He.Fa.exc "InvalidValues").ok K) rfl)
  xb_SignError := xfbB_ok (c.fact 65 (f := fun K => xfbB K "SignError") rfl)
  xk_InvalidText := xfkB_ok (c.fact 66 (f := fun K => xfkB K "InvalidText" "index" (He.ma K (He.ga K "InvalidText") "__init__")) rfl)
end Sg
set_option Elab.async false
set_option linter.all false
set_option maxRecDepth 100000
set_option maxHeartbeats 1000000
namespace Sg
open PySem L2
variable {K : PySem.W.Frag}
inductive Kd where
  | plain | single | next | block | later
  deriving DecidableEq
def Kd.s : Kd → Str
  | .plain => "plain" | .single => "single" | .next => "next" | .block => "block" | .later => "later"
def Kd.c : Kd → Str
  | .plain => "Plain" | .single => "Single" | .next => "Next" | .block => "Block" | .later => "Later"
end Sg
set_option Elab.async false
set_option linter.all false
set_option maxRecDepth 100000
set_option maxHeartbeats 1000000
namespace Sg
open PySem L2
variable {K : PySem.W.Frag}
local macro_rules | `(tactic| trivial) => `(tactic| simp -implicitDefEqProofs (disch := omega) only [*, mC_m, mVar_m, mLook_m, mLet_m, mSc_m, mNil_m, msNil_m, msSeq_m, msAsgF_m, msDrop_m, msRet_m, msRetF_m, msRetC_m, msRaise_m, msFor_m, mtYes_m, mLc_m, mcNil_m, mcCel_m, mCall_m, moNone_m, moSome_m, mSlL_m, mBi_m, mBiF_m, miList_m, miRng1_m, miEnum_m, miZip_m, mMeth_m, mMeth0_m, msSet_m, mCat_m, mChain_m, mIsi_m, mListRng_m, mCallF_m, msParVV_m, msParFV_m, mMethD_m, mCMeth_m, mConC_m, okE_some, okE_none, opE_ok, opE_ex, opF_ok, opF_ex, mOp_e, mIx_e, unE_ok, mUn_e, coE_ok, coE_ex, coF_ok, coF_ex, mCons_e, bindAE_ok, bindAE_ex, mTup_e, tupF_e, mFr_e, lstF_ok, mLst_e, tsE_ok, tsE_ex, mTest_e, okT_some, truE_ok, truE_ex, mTru_e, anE_t, anE_f, anE_ok, orE_t, orE_f, orE_ok, mAnd_e, mOr_e, noE_ok, noE_ex, mNot_e, blV_ok, blV_ex, anV_t, anV_f, anV_ok, mAndV_e, noV_ok, noV_ex, mNotV_e, ifV_t, ifV_f, ifV_ok, mIf_e, ifS_t, ifS_f, ifS_ok, ifS_ex, msIf_e, nxO_some, asE_ok, asE_ex, msAsg_e, gcE_some, mgCons_e, mgNil_e, mgTup_e, mgName_e, cvE_ok, cvE_ex, consC_ok, mcVal_e, thenS_nx, thenS_bk, thenS_ct, thenS_rt, thenS_ex, bindES_ok, bindES_ex, bindAS_ok, bindAS_ex, bindE_ok, bindE_ex, mfOf_e, mfOf0_e, noX_val, noX_cel, coM_some, fin_val, fin_cel, fin_nx, fin_ex, oAdd_i, oSub_i, oMul_l, oMul_r, oMod_i, oDiv_i, oPow_i, oLt_i, oLe_i, oGt_i, oGe_i, oIx_l, oIx_f, oIx_t, at1_0, at2_0, at2_1, at3_0, at3_1, at3_2, at4_0, at4_1, at4_2, at4_3, ix3_0, ix3_1, ix3_2, oIsN_non, oNotN_non, oNotN_lst, oIsN_lst, oMax2_i, oMin2_i, oAbs_i, oLen_l, oLen_f, oLen_t, oNeg_i, truU_i, truU_l, truU_b, truU_n, lstU_l, lstU_f, oAppend_u, lstF_0, tupF_0, lstF_1, tupF_1, lstF_2, tupF_2, lstF_3, tupF_3, lstF_4, tupF_4, lstF_5, tupF_5, lstF_6, tupF_6, isi_NoneType_bool, isi_NoneType_int, isi_NoneType_str, isi_NoneType_list, isi_NoneType_tuple, isi_NoneType_dict, isi_bool_bool, isi_bool_int, isi_bool_str, isi_bool_list, isi_bool_tuple, isi_bool_dict, isi_int_bool, isi_int_int, isi_int_str, isi_int_list, isi_int_tuple, isi_int_dict, isi_str_bool, isi_str_int, isi_str_str, isi_str_list, isi_str_tuple, isi_str_dict, isi_list_bool, isi_list_int, isi_list_str, isi_list_list, isi_list_tuple, isi_list_dict, isi_tuple_bool, isi_tuple_int, isi_tuple_str, isi_tuple_list, isi_tuple_tuple, isi_tuple_dict, isi_dict_bool, isi_dict_int, isi_dict_str, isi_dict_list, isi_dict_tuple, isi_dict_dict, tyU_n, tyU_b, tyU_i, tyU_s, tyU_l, tyU_t, rngOk_i, zipU_map, intsU_map, blsU_map, oAll_l, cutU_1, cutU_m1, drop_map, reverse_map, length_map', dropLast_map, oEq_i, oNe_i, oEq_b, oNe_b, oEq_nn, oNe_nn, oEq_pp, oNe_pp, oEq_ii, oNe_ii, mCallL_m, lendM_ok, lendM_ex, lendA_some, lendR_b, lendR_i, lendR_n, lendR_ex, resolveL_nil, resolveL_v, resolveL_c, resC_c, List.zip_cons_cons, List.zip_nil_left, oEqS_s, oNeS_s, mCallF_m, oMul_s, oIsN_i, oIsN_b, oIsN_t, oPowX_i, mMakeS_m, mMakeL_m, mFld_m, mProp_m, mnSeq_m, mnS_m, mnF_m, at0_e, allX_const, seqU_l, seqU_f, seqU_t, msWhile_m, mCallK_m, pm_nil, pm_cons, List.mem_singleton, and_self, resC_d, scV_b, scV_i, scV_s, scV_n, Option.isSome_some, tyU_d, mgTup_2, mgTup_3, mgTup_4, or_false, false_or, or_self, or_true, true_or, Nat.reduceBEq, bindEA_ok, bindEA_ex, mLstL_m, unown, kills, cellAt, List.map_cons, List.map_nil, List.length_cons, List.length_nil, List.cons_append, List.nil_append, List.replicate, List.getElem?_cons_succ, List.getElem?_cons_zero, List.set_cons_zero, List.set_cons_succ, Option.map_some, Option.map_none, Option.bind_some, Option.bind_none, Nat.reduceAdd, Nat.reduceSub, Nat.reduceLeDiff, Int.reduceLT, Int.reduceLE, Int.reduceNeg, Int.reduceToNat, Int.reducePow, decide_eq_true_eq, reduceIte, eq_self, ite_true, ite_false, Bool.false_eq_true, reduceCtorEq, resolve, celJ, nCel, Slot.isC, List.filter, putJ, callM, callMF, List.append_eq, Nat.reduceLT, Int.reduceMul, Int.reduceAdd, Int.reduceSub, ne_eq, not_true_eq_false, not_false_eq_true, Bool.not_false, Bool.not_true, decide_true, decide_false, frF, Int.cast_ofNat_Int, Bool.and_true, Bool.true_and, Bool.false_and, Bool.and_false, Bool.or_false, Bool.false_or, Bool.true_or, Bool.or_true])
local macro_rules | `(tactic| ac_rfl) => `(tactic| (simp -implicitDefEqProofs (disch := omega) only [*, mC_m, mVar_m, mLook_m, mLet_m, mSc_m, mNil_m, msNil_m, msSeq_m, msAsgF_m, msDrop_m, msRet_m, msRetF_m, msRetC_m, msRaise_m, msFor_m, mtYes_m, mLc_m, mcNil_m, mcCel_m, mCall_m, moNone_m, moSome_m, mSlL_m, mBi_m, mBiF_m, miList_m, miRng1_m, miEnum_m, miZip_m, mMeth_m, mMeth0_m, msSet_m, mCat_m, mChain_m, mIsi_m, mListRng_m, mCallF_m, msParVV_m, msParFV_m, mMethD_m, mCMeth_m, mConC_m, okE_some, okE_none, opE_ok, opE_ex, opF_ok, opF_ex, mOp_e, mIx_e, unE_ok, mUn_e, coE_ok, coE_ex, coF_ok, coF_ex, mCons_e, bindAE_ok, bindAE_ex, mTup_e, tupF_e, mFr_e, lstF_ok, mLst_e, tsE_ok, tsE_ex, mTest_e, okT_some, truE_ok, truE_ex, mTru_e, anE_t, anE_f, anE_ok, orE_t, orE_f, orE_ok, mAnd_e, mOr_e, noE_ok, noE_ex, mNot_e, blV_ok, blV_ex, anV_t, anV_f, anV_ok, mAndV_e, noV_ok, noV_ex, mNotV_e, ifV_t, ifV_f, ifV_ok, mIf_e, ifS_t, ifS_f, ifS_ok, ifS_ex, msIf_e, nxO_some, asE_ok, asE_ex, msAsg_e, gcE_some, mgCons_e, mgNil_e, mgTup_e, mgName_e, cvE_ok, cvE_ex, consC_ok, mcVal_e, thenS_nx, thenS_bk, thenS_ct, thenS_rt, thenS_ex, bindES_ok, bindES_ex, bindAS_ok, bindAS_ex, bindE_ok, bindE_ex, mfOf_e, mfOf0_e, noX_val, noX_cel, coM_some, fin_val, fin_cel, fin_nx, fin_ex, oAdd_i, oSub_i, oMul_l, oMul_r, oMod_i, oDiv_i, oPow_i, oLt_i, oLe_i, oGt_i, oGe_i, oIx_l, oIx_f, oIx_t, at1_0, at2_0, at2_1, at3_0, at3_1, at3_2, at4_0, at4_1, at4_2, at4_3, ix3_0, ix3_1, ix3_2, oIsN_non, oNotN_non, oNotN_lst, oIsN_lst, oMax2_i, oMin2_i, oAbs_i, oLen_l, oLen_f, oLen_t, oNeg_i, truU_i, truU_l, truU_b, truU_n, lstU_l, lstU_f, oAppend_u, lstF_0, tupF_0, lstF_1, tupF_1, lstF_2, tupF_2, lstF_3, tupF_3, lstF_4, tupF_4, lstF_5, tupF_5, lstF_6, tupF_6, isi_NoneType_bool, isi_NoneType_int, isi_NoneType_str, isi_NoneType_list, isi_NoneType_tuple, isi_NoneType_dict, isi_bool_bool, isi_bool_int, isi_bool_str, isi_bool_list, isi_bool_tuple, isi_bool_dict, isi_int_bool, isi_int_int, isi_int_str, isi_int_list, isi_int_tuple, isi_int_dict, isi_str_bool, isi_str_int, isi_str_str, isi_str_list, isi_str_tuple, isi_str_dict, isi_list_bool, isi_list_int, isi_list_str, isi_list_list, isi_list_tuple, isi_list_dict, isi_tuple_bool, isi_tuple_int, isi_tuple_str, isi_tuple_list, isi_tuple_tuple, isi_tuple_dict, isi_dict_bool, isi_dict_int, isi_dict_str, isi_dict_list, isi_dict_tuple, isi_dict_dict, tyU_n, tyU_b, tyU_i, tyU_s, tyU_l, tyU_t, rngOk_i, zipU_map, intsU_map, blsU_map, oAll_l, cutU_1, cutU_m1, drop_map, reverse_map, length_map', dropLast_map, oEq_i, oNe_i, oEq_b, oNe_b, oEq_nn, oNe_nn, oEq_pp, oNe_pp, oEq_ii, oNe_ii, mCallL_m, lendM_ok, lendM_ex, lendA_some, lendR_b, lendR_i, lendR_n, lendR_ex, resolveL_nil, resolveL_v, resolveL_c, resC_c, List.zip_cons_cons, List.zip_nil_left, oEqS_s, oNeS_s, mCallF_m, oMul_s, oIsN_i, oIsN_b, oIsN_t, oPowX_i, mMakeS_m, mMakeL_m, mFld_m, mProp_m, mnSeq_m, mnS_m, mnF_m, at0_e, allX_const, seqU_l, seqU_f, seqU_t, msWhile_m, mCallK_m, pm_nil, pm_cons, List.mem_singleton, and_self, resC_d, scV_b, scV_i, scV_s, scV_n, Option.isSome_some, tyU_d, mgTup_2, mgTup_3, mgTup_4, or_false, false_or, or_self, or_true, true_or, Nat.reduceBEq, bindEA_ok, bindEA_ex, mLstL_m, unown, kills, cellAt, List.map_cons, List.map_nil, List.length_cons, List.length_nil, List.cons_append, List.nil_append, List.replicate, List.getElem?_cons_succ, List.getElem?_cons_zero, List.set_cons_zero, List.set_cons_succ, Option.map_some, Option.map_none, Option.bind_some, Option.bind_none, Nat.reduceAdd, Nat.reduceSub, Nat.reduceLeDiff, Int.reduceLT, Int.reduceLE, Int.reduceNeg, Int.reduceToNat, Int.reducePow, decide_eq_true_eq, reduceIte, eq_self, ite_true, ite_false, Bool.false_eq_true, reduceCtorEq, resolve, celJ, nCel, Slot.isC, List.filter, putJ, callM, callMF, List.append_eq, Nat.reduceLT, Int.reduceMul, Int.reduceAdd, Int.reduceSub, ne_eq, not_true_eq_false, not_false_eq_true, Bool.not_false, Bool.not_true, decide_true, decide_false, frF, Int.cast_ofNat_Int, Bool.and_true, Bool.true_and, Bool.false_and, Bool.and_false, Bool.or_false, Bool.false_or, Bool.true_or, Bool.or_true, G__law_runs_0, G__law_scale_0, T__law_scale_1, E__law_scale_2, G_number_in_0, T_number_in_1, E_number_in_2, G_are_values_0, T_are_values_1, E_are_values_2, G_are_values_3, T_are_values_4, E_are_values_5, G_read_system_0, G_write_system_0, T_write_system_1, E_write_system_2, G_common_divisor_2, G__law_system_right_0, T__law_system_right_1, E__law_system_right_2, G_read_word_0, G_write_word_0, T_write_word_1, E_write_word_2, G__law_text_0, T__law_text_1, E__law_text_2, G_law_0, G_law_2, G_law_4, T_law_5, E_law_6, G_law_7, T_law_8, E_law_9]; try rfl))
theorem is_integer_i (i l : Int) : mf_is_integer K [.val (.int i), .val (.int l)] = some (.val (.bl (decide (l ≤ i))) none) := by
  unfold mf_is_integer M_is_integer
  trivial
theorem all_true {α : Type} (xs : List α) : (oAll (K := K)).f [.lst (xs.map fun _ => U.bl true)] = some (.bl true) := by
  have z := oAll_l (K := K) (xs.map fun _ => true)
  rw [List.map_map] at z
  rw [show (xs.map fun _ => U.bl true) = xs.map (U.bl ∘ fun _ => true) from rfl, z]
  simp
end Sg
set_option Elab.async false
set_option linter.all false
set_option maxRecDepth 100000
set_option maxHeartbeats 1000000
namespace Sg
open PySem L2
variable {K : PySem.W.Frag}
theorem look_hv (u v : U) : List.lookup ("held_values" : Str) [(("held_values" : Str), u), (("held_rule" : Str), v)] = some u := rfl
theorem look_hr (u v : U) : List.lookup ("held_rule" : Str) [(("held_values" : Str), u), (("held_rule" : Str), v)] = some v := rfl
theorem ptab_row_S : List.lookup ("System" : Str) (ptab_row K) = some (mf_System_row K) := rfl
theorem ptab_rule_S : List.lookup ("System" : Str) (ptab_rule K) = some (mf_System_rule K) := rfl
theorem put_2 (u v : U) : putU ("held_rule" : Str) v [(("held_values" : Str), u)] = [(("held_values" : Str), u), (("held_rule" : Str), v)] := rfl
theorem inR_plain : (oIn (K := K) false).f (.str "plain") (.tup [.str "plain", .str "single", .str "next", .str "block", .str "later"]) = some (.bl true) := rfl
theorem inR_single : (oIn (K := K) false).f (.str "single") (.tup [.str "plain", .str "single", .str "next", .str "block", .str "later"]) = some (.bl true) := rfl
theorem inR_next : (oIn (K := K) false).f (.str "next") (.tup [.str "plain", .str "single", .str "next", .str "block", .str "later"]) = some (.bl true) := rfl
theorem inR_block : (oIn (K := K) false).f (.str "block") (.tup [.str "plain", .str "single", .str "next", .str "block", .str "later"]) = some (.bl true) := rfl
theorem inR_later : (oIn (K := K) false).f (.str "later") (.tup [.str "plain", .str "single", .str "next", .str "block", .str "later"]) = some (.bl true) := rfl
theorem oList_l (us : List U) : (oList (K := K)).f [.lst us] = some us := rfl
theorem oList_t (us : List U) : (oList (K := K)).f [.tup us] = some us := rfl
local macro_rules | `(tactic| trivial) => `(tactic| simp -implicitDefEqProofs (disch := omega) only [*, mC_m, mVar_m, mLook_m, mLet_m, mSc_m, mNil_m, msNil_m, msSeq_m, msAsgF_m, msDrop_m, msRet_m, msRetF_m, msRetC_m, msRaise_m, msFor_m, mtYes_m, mLc_m, mcNil_m, mcCel_m, mCall_m, moNone_m, moSome_m, mSlL_m, mBi_m, mBiF_m, miList_m, miRng1_m, miEnum_m, miZip_m, mMeth_m, mMeth0_m, msSet_m, mCat_m, mChain_m, mIsi_m, mListRng_m, mCallF_m, msParVV_m, msParFV_m, mMethD_m, mCMeth_m, mConC_m, okE_some, okE_none, opE_ok, opE_ex, opF_ok, opF_ex, mOp_e, mIx_e, unE_ok, mUn_e, coE_ok, coE_ex, coF_ok, coF_ex, mCons_e, bindAE_ok, bindAE_ex, mTup_e, tupF_e, mFr_e, lstF_ok, mLst_e, tsE_ok, tsE_ex, mTest_e, okT_some, truE_ok, truE_ex, mTru_e, anE_t, anE_f, anE_ok, orE_t, orE_f, orE_ok, mAnd_e, mOr_e, noE_ok, noE_ex, mNot_e, blV_ok, blV_ex, anV_t, anV_f, anV_ok, mAndV_e, noV_ok, noV_ex, mNotV_e, ifV_t, ifV_f, ifV_ok, mIf_e, ifS_t, ifS_f, ifS_ok, ifS_ex, msIf_e, nxO_some, asE_ok, asE_ex, msAsg_e, gcE_some, mgCons_e, mgNil_e, mgTup_e, mgName_e, cvE_ok, cvE_ex, consC_ok, mcVal_e, thenS_nx, thenS_bk, thenS_ct, thenS_rt, thenS_ex, bindES_ok, bindES_ex, bindAS_ok, bindAS_ex, bindE_ok, bindE_ex, mfOf_e, mfOf0_e, noX_val, noX_cel, coM_some, fin_val, fin_cel, fin_nx, fin_ex, oAdd_i, oSub_i, oMul_l, oMul_r, oMod_i, oDiv_i, oPow_i, oLt_i, oLe_i, oGt_i, oGe_i, oIx_l, oIx_f, oIx_t, at1_0, at2_0, at2_1, at3_0, at3_1, at3_2, at4_0, at4_1, at4_2, at4_3, ix3_0, ix3_1, ix3_2, oIsN_non, oNotN_non, oNotN_lst, oIsN_lst, oMax2_i, oMin2_i, oAbs_i, oLen_l, oLen_f, oLen_t, oNeg_i, truU_i, truU_l, truU_b, truU_n, lstU_l, lstU_f, oAppend_u, lstF_0, tupF_0, lstF_1, tupF_1, lstF_2, tupF_2, lstF_3, tupF_3, lstF_4, tupF_4, lstF_5, tupF_5, lstF_6, tupF_6, isi_NoneType_bool, isi_NoneType_int, isi_NoneType_str, isi_NoneType_list, isi_NoneType_tuple, isi_NoneType_dict, isi_bool_bool, isi_bool_int, isi_bool_str, isi_bool_list, isi_bool_tuple, isi_bool_dict, isi_int_bool, isi_int_int, isi_int_str, isi_int_list, isi_int_tuple, isi_int_dict, isi_str_bool, isi_str_int, isi_str_str, isi_str_list, isi_str_tuple, isi_str_dict, isi_list_bool, isi_list_int, isi_list_str, isi_list_list, isi_list_tuple, isi_list_dict, isi_tuple_bool, isi_tuple_int, isi_tuple_str, isi_tuple_list, isi_tuple_tuple, isi_tuple_dict, isi_dict_bool, isi_dict_int, isi_dict_str, isi_dict_list, isi_dict_tuple, isi_dict_dict, tyU_n, tyU_b, tyU_i, tyU_s, tyU_l, tyU_t, rngOk_i, zipU_map, intsU_map, blsU_map, oAll_l, cutU_1, cutU_m1, drop_map, reverse_map, length_map', dropLast_map, oEq_i, oNe_i, oEq_b, oNe_b, oEq_nn, oNe_nn, oEq_pp, oNe_pp, oEq_ii, oNe_ii, mCallL_m, lendM_ok, lendM_ex, lendA_some, lendR_b, lendR_i, lendR_n, lendR_ex, resolveL_nil, resolveL_v, resolveL_c, resC_c, List.zip_cons_cons, List.zip_nil_left, oEqS_s, oNeS_s, mCallF_m, oMul_s, oIsN_i, oIsN_b, oIsN_t, oPowX_i, mMakeS_m, mMakeL_m, mFld_m, mProp_m, mnSeq_m, mnS_m, mnF_m, at0_e, allX_const, seqU_l, seqU_f, seqU_t, msWhile_m, mCallK_m, pm_nil, pm_cons, List.mem_singleton, and_self, resC_d, scV_b, scV_i, scV_s, scV_n, Option.isSome_some, tyU_d, mgTup_2, mgTup_3, mgTup_4, or_false, false_or, or_self, or_true, true_or, Nat.reduceBEq, bindEA_ok, bindEA_ex, mLstL_m, unown, kills, cellAt, List.map_cons, List.map_nil, List.length_cons, List.length_nil, List.cons_append, List.nil_append, List.replicate, List.getElem?_cons_succ, List.getElem?_cons_zero, List.set_cons_zero, List.set_cons_succ, Option.map_some, Option.map_none, Option.bind_some, Option.bind_none, Nat.reduceAdd, Nat.reduceSub, Nat.reduceLeDiff, Int.reduceLT, Int.reduceLE, Int.reduceNeg, Int.reduceToNat, Int.reducePow, decide_eq_true_eq, reduceIte, eq_self, ite_true, ite_false, Bool.false_eq_true, reduceCtorEq, resolve, celJ, nCel, Slot.isC, List.filter, putJ, callM, callMF, List.append_eq, Nat.reduceLT, Int.reduceMul, Int.reduceAdd, Int.reduceSub, ne_eq, not_true_eq_false, not_false_eq_true, Bool.not_false, Bool.not_true, decide_true, decide_false, frF, Int.cast_ofNat_Int, Bool.and_true, Bool.true_and, Bool.false_and, Bool.and_false, Bool.or_false, Bool.false_or, Bool.true_or, Bool.or_true, oList_l, oList_t, look_hv, look_hr, ptab_row_S, ptab_rule_S, put_0, put_2, inR_plain, inR_single, inR_next, inR_block, inR_later])
local macro_rules | `(tactic| ac_rfl) => `(tactic| (simp -implicitDefEqProofs (disch := omega) only [*, mC_m, mVar_m, mLook_m, mLet_m, mSc_m, mNil_m, msNil_m, msSeq_m, msAsgF_m, msDrop_m, msRet_m, msRetF_m, msRetC_m, msRaise_m, msFor_m, mtYes_m, mLc_m, mcNil_m, mcCel_m, mCall_m, moNone_m, moSome_m, mSlL_m, mBi_m, mBiF_m, miList_m, miRng1_m, miEnum_m, miZip_m, mMeth_m, mMeth0_m, msSet_m, mCat_m, mChain_m, mIsi_m, mListRng_m, mCallF_m, msParVV_m, msParFV_m, mMethD_m, mCMeth_m, mConC_m, okE_some, okE_none, opE_ok, opE_ex, opF_ok, opF_ex, mOp_e, mIx_e, unE_ok, mUn_e, coE_ok, coE_ex, coF_ok, coF_ex, mCons_e, bindAE_ok, bindAE_ex, mTup_e, tupF_e, mFr_e, lstF_ok, mLst_e, tsE_ok, tsE_ex, mTest_e, okT_some, truE_ok, truE_ex, mTru_e, anE_t, anE_f, anE_ok, orE_t, orE_f, orE_ok, mAnd_e, mOr_e, noE_ok, noE_ex, mNot_e, blV_ok, blV_ex, anV_t, anV_f, anV_ok, mAndV_e, noV_ok, noV_ex, mNotV_e, ifV_t, ifV_f, ifV_ok, mIf_e, ifS_t, ifS_f, ifS_ok, ifS_ex, msIf_e, nxO_some, asE_ok, asE_ex, msAsg_e, gcE_some, mgCons_e, mgNil_e, mgTup_e, mgName_e, cvE_ok, cvE_ex, consC_ok, mcVal_e, thenS_nx, thenS_bk, thenS_ct, thenS_rt, thenS_ex, bindES_ok, bindES_ex, bindAS_ok, bindAS_ex, bindE_ok, bindE_ex, mfOf_e, mfOf0_e, noX_val, noX_cel, coM_some, fin_val, fin_cel, fin_nx, fin_ex, oAdd_i, oSub_i, oMul_l, oMul_r, oMod_i, oDiv_i, oPow_i, oLt_i, oLe_i, oGt_i, oGe_i, oIx_l, oIx_f, oIx_t, at1_0, at2_0, at2_1, at3_0, at3_1, at3_2, at4_0, at4_1, at4_2, at4_3, ix3_0, ix3_1, ix3_2, oIsN_non, oNotN_non, oNotN_lst, oIsN_lst, oMax2_i, oMin2_i, oAbs_i, oLen_l, oLen_f, oLen_t, oNeg_i, truU_i, truU_l, truU_b, truU_n, lstU_l, lstU_f, oAppend_u, lstF_0, tupF_0, lstF_1, tupF_1, lstF_2, tupF_2, lstF_3, tupF_3, lstF_4, tupF_4, lstF_5, tupF_5, lstF_6, tupF_6, isi_NoneType_bool, isi_NoneType_int, isi_NoneType_str, isi_NoneType_list, isi_NoneType_tuple, isi_NoneType_dict, isi_bool_bool, isi_bool_int, isi_bool_str, isi_bool_list, isi_bool_tuple, isi_bool_dict, isi_int_bool, isi_int_int, isi_int_str, isi_int_list, isi_int_tuple, isi_int_dict, isi_str_bool, isi_str_int, isi_str_str, isi_str_list, isi_str_tuple, isi_str_dict, isi_list_bool, isi_list_int, isi_list_str, isi_list_list, isi_list_tuple, isi_list_dict, isi_tuple_bool, isi_tuple_int, isi_tuple_str, isi_tuple_list, isi_tuple_tuple, isi_tuple_dict, isi_dict_bool, isi_dict_int, isi_dict_str, isi_dict_list, isi_dict_tuple, isi_dict_dict, tyU_n, tyU_b, tyU_i, tyU_s, tyU_l, tyU_t, rngOk_i, zipU_map, intsU_map, blsU_map, oAll_l, cutU_1, cutU_m1, drop_map, reverse_map, length_map', dropLast_map, oEq_i, oNe_i, oEq_b, oNe_b, oEq_nn, oNe_nn, oEq_pp, oNe_pp, oEq_ii, oNe_ii, mCallL_m, lendM_ok, lendM_ex, lendA_some, lendR_b, lendR_i, lendR_n, lendR_ex, resolveL_nil, resolveL_v, resolveL_c, resC_c, List.zip_cons_cons, List.zip_nil_left, oEqS_s, oNeS_s, mCallF_m, oMul_s, oIsN_i, oIsN_b, oIsN_t, oPowX_i, mMakeS_m, mMakeL_m, mFld_m, mProp_m, mnSeq_m, mnS_m, mnF_m, at0_e, allX_const, seqU_l, seqU_f, seqU_t, msWhile_m, mCallK_m, pm_nil, pm_cons, List.mem_singleton, and_self, resC_d, scV_b, scV_i, scV_s, scV_n, Option.isSome_some, tyU_d, mgTup_2, mgTup_3, mgTup_4, or_false, false_or, or_self, or_true, true_or, Nat.reduceBEq, bindEA_ok, bindEA_ex, mLstL_m, unown, kills, cellAt, List.map_cons, List.map_nil, List.length_cons, List.length_nil, List.cons_append, List.nil_append, List.replicate, List.getElem?_cons_succ, List.getElem?_cons_zero, List.set_cons_zero, List.set_cons_succ, Option.map_some, Option.map_none, Option.bind_some, Option.bind_none, Nat.reduceAdd, Nat.reduceSub, Nat.reduceLeDiff, Int.reduceLT, Int.reduceLE, Int.reduceNeg, Int.reduceToNat, Int.reducePow, decide_eq_true_eq, reduceIte, eq_self, ite_true, ite_false, Bool.false_eq_true, reduceCtorEq, resolve, celJ, nCel, Slot.isC, List.filter, putJ, callM, callMF, List.append_eq, Nat.reduceLT, Int.reduceMul, Int.reduceAdd, Int.reduceSub, ne_eq, not_true_eq_false, not_false_eq_true, Bool.not_false, Bool.not_true, decide_true, decide_false, frF, Int.cast_ofNat_Int, Bool.and_true, Bool.true_and, Bool.false_and, Bool.and_false, Bool.or_false, Bool.false_or, Bool.true_or, Bool.or_true, G__law_runs_0, G__law_scale_0, T__law_scale_1, E__law_scale_2, G_number_in_0, T_number_in_1, E_number_in_2, G_are_values_0, T_are_values_1, E_are_values_2, G_are_values_3, T_are_values_4, E_are_values_5, G_read_system_0, G_write_system_0, T_write_system_1, E_write_system_2, G_common_divisor_2, G__law_system_right_0, T__law_system_right_1, E__law_system_right_2, G_read_word_0, G_write_word_0, T_write_word_1, E_write_word_2, G__law_text_0, T__law_text_1, E__law_text_2, G_law_0, G_law_2, G_law_4, T_law_5, E_law_6, G_law_7, T_law_8, E_law_9, oList_l, oList_t, look_hv, look_hr, ptab_row_S, ptab_rule_S, put_0, put_2, inR_plain, inR_single, inR_next, inR_block, inR_later]; try rfl))
structure ValsOk (vs : List Int) : Prop where
  pos : 1 ≤ vs.length
  top : vs.length ≤ 6
  bd : ∀ x ∈ vs, 1 ≤ x ∧ x ≤ 60
  asc : ∀ p ∈ vs.zip (vs.drop 1), p.1 < p.2
abbrev sysU (vs : List Int) (k : Kd) : U := .ins "System" [(("held_values" : Str), .lst (vs.map U.int)), (("held_rule" : Str), .str k.s)]
theorem are_values_k (vs : List Int) (h : ValsOk vs) : mf_are_values K [.val (.lst (vs.map U.int))] = some (.val (.bl true) none) := by
  have h1 := h.pos
  have h2 := h.top
  have e2 := all_true (K := K) vs
  have e5 := all_true (K := K) (vs.zip (vs.drop 1))
  have e3 : decide ((vs.length : Int) ≤ 6) = true := by simp; omega
  have e4 : decide (1 ≤ (vs.length : Int)) = true := by simp; omega
  unfold mf_are_values M_are_values
  trivial
  rw [lcM_all U.int (fun _ => U.bl true) vs ?hl ?hh]
  case hl => omega
  case hh =>
    intro x hx
    have e := is_integer_i (K := K) x 1
    have c1 : decide (1 ≤ x) = true := by simp; exact (h.bd x hx).1
    have c2 : decide (x ≤ 60) = true := by simp; exact (h.bd x hx).2
    clear e2 e5 e3 e4 h1 h2 h hx
    exact ⟨_, _, _, (by ac_rfl), (by ac_rfl), (by ac_rfl), rfl⟩
  trivial
  rw [lcM_all _ (fun _ => U.bl true) (vs.zip (vs.drop 1)) ?hl ?hh]
  case hl => rw [List.length_zip]; omega
  case hh =>
    intro x hx
    have e := h.asc x hx
    have e6 : decide (x.1 < x.2) = true := by simp [e]
    clear e2 e5 e3 e4 h1 h2 h hx e
    exact ⟨_, _, _, (by ac_rfl), (by ac_rfl), (by ac_rfl), rfl⟩
  trivial
theorem is_rule_k (k : Kd) : mf_is_rule K [.val (.str k.s)] = some (.val (.bl true) none) := by
  unfold mf_is_rule M_is_rule
  cases k <;> (dsimp only [Kd.s]; trivial)
theorem init_k (vs : List Int) (k : Kd) (h : ValsOk vs) (x : Addr) : initM (MN_System K) 3 x (.str k.s) (vs.map U.int) = some (.ok [(("held_values" : Str), .lst (vs.map U.int)), (("held_rule" : Str), .str k.s)]) := by
  have e1 := are_values_k (K := K) vs h
  have e2 := is_rule_k (K := K) k
  rw [initM_e]
  unfold MN_System
  clear h
  trivial
theorem of_k (vs : List Int) (k : Kd) (h : ValsOk vs) : mf_System_of K [.val (.ref (He.ga K "System")), .val (.lst (vs.map U.int)), .val (.str k.s)] = some (.val (sysU vs k) none) := by
  have e1 := are_values_k (K := K) vs h
  have e2 := init_k (K := K) vs k h
  unfold mf_System_of M_System_of
  clear h
  trivial
theorem row_k (vs : List Int) (k : Kd) : mf_System_row K [.val (sysU vs k)] = some (.val (.lst (vs.map U.int)) none) := by
  unfold mf_System_row M_System_row
  trivial
  try rfl
theorem ruleP_k (vs : List Int) (k : Kd) : mf_System_rule K [.val (sysU vs k)] = some (.val (.str k.s) none) := by
  unfold mf_System_rule M_System_rule
  trivial
end Sg
set_option Elab.async false
set_option linter.all false
set_option maxRecDepth 100000
set_option maxHeartbeats 1000000
namespace Sg
open PySem L2
variable {K : PySem.W.Frag}
local macro_rules | `(tactic| trivial) => `(tactic| simp -implicitDefEqProofs (disch := omega) only [*, mC_m, mVar_m, mLook_m, mLet_m, mSc_m, mNil_m, msNil_m, msSeq_m, msAsgF_m, msDrop_m, msRet_m, msRetF_m, msRetC_m, msRaise_m, msFor_m, mtYes_m, mLc_m, mcNil_m, mcCel_m, mCall_m, moNone_m, moSome_m, mSlL_m, mBi_m, mBiF_m, miList_m, miRng1_m, miEnum_m, miZip_m, mMeth_m, mMeth0_m, msSet_m, mCat_m, mChain_m, mIsi_m, mListRng_m, mCallF_m, msParVV_m, msParFV_m, mMethD_m, mCMeth_m, mConC_m, okE_some, okE_none, opE_ok, opE_ex, opF_ok, opF_ex, mOp_e, mIx_e, unE_ok, mUn_e, coE_ok, coE_ex, coF_ok, coF_ex, mCons_e, bindAE_ok, bindAE_ex, mTup_e, tupF_e, mFr_e, lstF_ok, mLst_e, tsE_ok, tsE_ex, mTest_e, okT_some, truE_ok, truE_ex, mTru_e, anE_t, anE_f, anE_ok, orE_t, orE_f, orE_ok, mAnd_e, mOr_e, noE_ok, noE_ex, mNot_e, blV_ok, blV_ex, anV_t, anV_f, anV_ok, mAndV_e, noV_ok, noV_ex, mNotV_e, ifV_t, ifV_f, ifV_ok, mIf_e, ifS_t, ifS_f, ifS_ok, ifS_ex, msIf_e, nxO_some, asE_ok, asE_ex, msAsg_e, gcE_some, mgCons_e, mgNil_e, mgTup_e, mgName_e, cvE_ok, cvE_ex, consC_ok, mcVal_e, thenS_nx, thenS_bk, thenS_ct, thenS_rt, thenS_ex, bindES_ok, bindES_ex, bindAS_ok, bindAS_ex, bindE_ok, bindE_ex, mfOf_e, mfOf0_e, noX_val, noX_cel, coM_some, fin_val, fin_cel, fin_nx, fin_ex, oAdd_i, oSub_i, oMul_l, oMul_r, oMod_i, oDiv_i, oPow_i, oLt_i, oLe_i, oGt_i, oGe_i, oIx_l, oIx_f, oIx_t, at1_0, at2_0, at2_1, at3_0, at3_1, at3_2, at4_0, at4_1, at4_2, at4_3, ix3_0, ix3_1, ix3_2, oIsN_non, oNotN_non, oNotN_lst, oIsN_lst, oMax2_i, oMin2_i, oAbs_i, oLen_l, oLen_f, oLen_t, oNeg_i, truU_i, truU_l, truU_b, truU_n, lstU_l, lstU_f, oAppend_u, lstF_0, tupF_0, lstF_1, tupF_1, lstF_2, tupF_2, lstF_3, tupF_3, lstF_4, tupF_4, lstF_5, tupF_5, lstF_6, tupF_6, isi_NoneType_bool, isi_NoneType_int, isi_NoneType_str, isi_NoneType_list, isi_NoneType_tuple, isi_NoneType_dict, isi_bool_bool, isi_bool_int, isi_bool_str, isi_bool_list, isi_bool_tuple, isi_bool_dict, isi_int_bool, isi_int_int, isi_int_str, isi_int_list, isi_int_tuple, isi_int_dict, isi_str_bool, isi_str_int, isi_str_str, isi_str_list, isi_str_tuple, isi_str_dict, isi_list_bool, isi_list_int, isi_list_str, isi_list_list, isi_list_tuple, isi_list_dict, isi_tuple_bool, isi_tuple_int, isi_tuple_str, isi_tuple_list, isi_tuple_tuple, isi_tuple_dict, isi_dict_bool, isi_dict_int, isi_dict_str, isi_dict_list, isi_dict_tuple, isi_dict_dict, tyU_n, tyU_b, tyU_i, tyU_s, tyU_l, tyU_t, rngOk_i, zipU_map, intsU_map, blsU_map, oAll_l, cutU_1, cutU_m1, drop_map, reverse_map, length_map', dropLast_map, oEq_i, oNe_i, oEq_b, oNe_b, oEq_nn, oNe_nn, oEq_pp, oNe_pp, oEq_ii, oNe_ii, mCallL_m, lendM_ok, lendM_ex, lendA_some, lendR_b, lendR_i, lendR_n, lendR_ex, resolveL_nil, resolveL_v, resolveL_c, resC_c, List.zip_cons_cons, List.zip_nil_left, oEqS_s, oNeS_s, mCallF_m, oMul_s, oIsN_i, oIsN_b, oIsN_t, oPowX_i, mMakeS_m, mMakeL_m, mFld_m, mProp_m, mnSeq_m, mnS_m, mnF_m, at0_e, allX_const, seqU_l, seqU_f, seqU_t, msWhile_m, mCallK_m, pm_nil, pm_cons, List.mem_singleton, and_self, resC_d, scV_b, scV_i, scV_s, scV_n, Option.isSome_some, tyU_d, mgTup_2, mgTup_3, mgTup_4, or_false, false_or, or_self, or_true, true_or, Nat.reduceBEq, bindEA_ok, bindEA_ex, mLstL_m, unown, kills, cellAt, List.map_cons, List.map_nil, List.length_cons, List.length_nil, List.cons_append, List.nil_append, List.replicate, List.getElem?_cons_succ, List.getElem?_cons_zero, List.set_cons_zero, List.set_cons_succ, Option.map_some, Option.map_none, Option.bind_some, Option.bind_none, Nat.reduceAdd, Nat.reduceSub, Nat.reduceLeDiff, Int.reduceLT, Int.reduceLE, Int.reduceNeg, Int.reduceToNat, Int.reducePow, decide_eq_true_eq, reduceIte, eq_self, ite_true, ite_false, Bool.false_eq_true, reduceCtorEq, resolve, celJ, nCel, Slot.isC, List.filter, putJ, callM, callMF, List.append_eq, Nat.reduceLT, Int.reduceMul, Int.reduceAdd, Int.reduceSub, ne_eq, not_true_eq_false, not_false_eq_true, Bool.not_false, Bool.not_true, decide_true, decide_false, frF, Int.cast_ofNat_Int, Bool.and_true, Bool.true_and, Bool.false_and, Bool.and_false, Bool.or_false, Bool.false_or, Bool.true_or, Bool.or_true])
local macro_rules | `(tactic| ac_rfl) => `(tactic| (simp -implicitDefEqProofs (disch := omega) only [*, mC_m, mVar_m, mLook_m, mLet_m, mSc_m, mNil_m, msNil_m, msSeq_m, msAsgF_m, msDrop_m, msRet_m, msRetF_m, msRetC_m, msRaise_m, msFor_m, mtYes_m, mLc_m, mcNil_m, mcCel_m, mCall_m, moNone_m, moSome_m, mSlL_m, mBi_m, mBiF_m, miList_m, miRng1_m, miEnum_m, miZip_m, mMeth_m, mMeth0_m, msSet_m, mCat_m, mChain_m, mIsi_m, mListRng_m, mCallF_m, msParVV_m, msParFV_m, mMethD_m, mCMeth_m, mConC_m, okE_some, okE_none, opE_ok, opE_ex, opF_ok, opF_ex, mOp_e, mIx_e, unE_ok, mUn_e, coE_ok, coE_ex, coF_ok, coF_ex, mCons_e, bindAE_ok, bindAE_ex, mTup_e, tupF_e, mFr_e, lstF_ok, mLst_e, tsE_ok, tsE_ex, mTest_e, okT_some, truE_ok, truE_ex, mTru_e, anE_t, anE_f, anE_ok, orE_t, orE_f, orE_ok, mAnd_e, mOr_e, noE_ok, noE_ex, mNot_e, blV_ok, blV_ex, anV_t, anV_f, anV_ok, mAndV_e, noV_ok, noV_ex, mNotV_e, ifV_t, ifV_f, ifV_ok, mIf_e, ifS_t, ifS_f, ifS_ok, ifS_ex, msIf_e, nxO_some, asE_ok, asE_ex, msAsg_e, gcE_some, mgCons_e, mgNil_e, mgTup_e, mgName_e, cvE_ok, cvE_ex, consC_ok, mcVal_e, thenS_nx, thenS_bk, thenS_ct, thenS_rt, thenS_ex, bindES_ok, bindES_ex, bindAS_ok, bindAS_ex, bindE_ok, bindE_ex, mfOf_e, mfOf0_e, noX_val, noX_cel, coM_some, fin_val, fin_cel, fin_nx, fin_ex, oAdd_i, oSub_i, oMul_l, oMul_r, oMod_i, oDiv_i, oPow_i, oLt_i, oLe_i, oGt_i, oGe_i, oIx_l, oIx_f, oIx_t, at1_0, at2_0, at2_1, at3_0, at3_1, at3_2, at4_0, at4_1, at4_2, at4_3, ix3_0, ix3_1, ix3_2, oIsN_non, oNotN_non, oNotN_lst, oIsN_lst, oMax2_i, oMin2_i, oAbs_i, oLen_l, oLen_f, oLen_t, oNeg_i, truU_i, truU_l, truU_b, truU_n, lstU_l, lstU_f, oAppend_u, lstF_0, tupF_0, lstF_1, tupF_1, lstF_2, tupF_2, lstF_3, tupF_3, lstF_4, tupF_4, lstF_5, tupF_5, lstF_6, tupF_6, isi_NoneType_bool, isi_NoneType_int, isi_NoneType_str, isi_NoneType_list, isi_NoneType_tuple, isi_NoneType_dict, isi_bool_bool, isi_bool_int, isi_bool_str, isi_bool_list, isi_bool_tuple, isi_bool_dict, isi_int_bool, isi_int_int, isi_int_str, isi_int_list, isi_int_tuple, isi_int_dict, isi_str_bool, isi_str_int, isi_str_str, isi_str_list, isi_str_tuple, isi_str_dict, isi_list_bool, isi_list_int, isi_list_str, isi_list_list, isi_list_tuple, isi_list_dict, isi_tuple_bool, isi_tuple_int, isi_tuple_str, isi_tuple_list, isi_tuple_tuple, isi_tuple_dict, isi_dict_bool, isi_dict_int, isi_dict_str, isi_dict_list, isi_dict_tuple, isi_dict_dict, tyU_n, tyU_b, tyU_i, tyU_s, tyU_l, tyU_t, rngOk_i, zipU_map, intsU_map, blsU_map, oAll_l, cutU_1, cutU_m1, drop_map, reverse_map, length_map', dropLast_map, oEq_i, oNe_i, oEq_b, oNe_b, oEq_nn, oNe_nn, oEq_pp, oNe_pp, oEq_ii, oNe_ii, mCallL_m, lendM_ok, lendM_ex, lendA_some, lendR_b, lendR_i, lendR_n, lendR_ex, resolveL_nil, resolveL_v, resolveL_c, resC_c, List.zip_cons_cons, List.zip_nil_left, oEqS_s, oNeS_s, mCallF_m, oMul_s, oIsN_i, oIsN_b, oIsN_t, oPowX_i, mMakeS_m, mMakeL_m, mFld_m, mProp_m, mnSeq_m, mnS_m, mnF_m, at0_e, allX_const, seqU_l, seqU_f, seqU_t, msWhile_m, mCallK_m, pm_nil, pm_cons, List.mem_singleton, and_self, resC_d, scV_b, scV_i, scV_s, scV_n, Option.isSome_some, tyU_d, mgTup_2, mgTup_3, mgTup_4, or_false, false_or, or_self, or_true, true_or, Nat.reduceBEq, bindEA_ok, bindEA_ex, mLstL_m, unown, kills, cellAt, List.map_cons, List.map_nil, List.length_cons, List.length_nil, List.cons_append, List.nil_append, List.replicate, List.getElem?_cons_succ, List.getElem?_cons_zero, List.set_cons_zero, List.set_cons_succ, Option.map_some, Option.map_none, Option.bind_some, Option.bind_none, Nat.reduceAdd, Nat.reduceSub, Nat.reduceLeDiff, Int.reduceLT, Int.reduceLE, Int.reduceNeg, Int.reduceToNat, Int.reducePow, decide_eq_true_eq, reduceIte, eq_self, ite_true, ite_false, Bool.false_eq_true, reduceCtorEq, resolve, celJ, nCel, Slot.isC, List.filter, putJ, callM, callMF, List.append_eq, Nat.reduceLT, Int.reduceMul, Int.reduceAdd, Int.reduceSub, ne_eq, not_true_eq_false, not_false_eq_true, Bool.not_false, Bool.not_true, decide_true, decide_false, frF, Int.cast_ofNat_Int, Bool.and_true, Bool.true_and, Bool.false_and, Bool.and_false, Bool.or_false, Bool.false_or, Bool.true_or, Bool.or_true, G__law_runs_0, G__law_scale_0, T__law_scale_1, E__law_scale_2, G_number_in_0, T_number_in_1, E_number_in_2, G_are_values_0, T_are_values_1, E_are_values_2, G_are_values_3, T_are_values_4, E_are_values_5, G_read_system_0, G_write_system_0, T_write_system_1, E_write_system_2, G_common_divisor_2, G__law_system_right_0, T__law_system_right_1, E__law_system_right_2, G_read_word_0, G_write_word_0, T_write_word_1, E_write_word_2, G__law_text_0, T__law_text_1, E__law_text_2, G_law_0, G_law_2, G_law_4, T_law_5, E_law_6, G_law_7, T_law_8, E_law_9]; try rfl))
def Well (n : Nat) (f : List U) : Prop := ∃ a b c : Int, f = [.int a, .int b, .int c] ∧ 0 ≤ b ∧ b < 10000000000000000000000000000000000000000 ∧ 0 ≤ c ∧ c ≤ (n : Int)
theorem Well.mono {n m : Nat} {f : List U} (h : Well n f) (l : n ≤ m) : Well m f := by
  obtain ⟨a, b, c, e, h1, h2, h3, h4⟩ := h
  exact ⟨a, b, c, e, h1, h2, h3, by omega⟩
theorem next_k (own : Bool) (n : Nat) (f : List U) (wide : Int) (hf : Well n f) (hn : n < 1000000) (h1 : 0 < wide) (h2 : wide < 1000000000000000000000000000000000000000000000000000000000000000000000000) :
    ∃ d f', 0 ≤ d ∧ d < wide ∧ Well (n + 1) f' ∧ mf__law_next K [.cel own f, .val (.int wide)] = some (.val (.int d) (some f')) := by
  obtain ⟨a, b, c, rfl, b0, b1, c0, c1⟩ := hf
  by_cases ha : 0 < a
  · refine ⟨a % wide, [.int (a / wide), .int b, .int c], Int.emod_nonneg _ (by omega), Int.emod_lt_of_pos _ h1, ⟨_, _, _, rfl, b0, b1, c0, by omega⟩, ?_⟩
    unfold mf__law_next M__law_next
    clear b0 b1 c0 c1 hn
    ac_rfl
  · have key : ∀ r, mf__law_next K [.cel own [.int a, .int b, .int c], .val (.int wide)] = r → ∃ m, r = some (.val (.int (m % wide)) (some [.int a, .int b, .int (c + 1)])) := by
      intro r
      unfold mf__law_next M__law_next
      have c2 : 0 ≤ c + 1 := by omega
      have c3 : c + 1 ≤ 1000001 := by omega
      clear hn c0 c1
      trivial
      intro hr
      exact ⟨_, hr.symm⟩
    obtain ⟨m, e⟩ := key _ rfl
    exact ⟨m % wide, _, Int.emod_nonneg _ (by omega), Int.emod_lt_of_pos _ h1, ⟨_, _, _, rfl, b0, b1, by omega, by omega⟩, e⟩
theorem tape_k (ns : List Int) (k : Int) (hk : 0 ≤ k) (hk2 : k < 1000) : ∃ f, Well 0 f ∧ mf__law_tape K [.val (.frl (ns.map U.int)), .val (.int k)] = some (.cel f none) := by
  have key : ∃ x : Int, ∀ r, mf__law_tape K [.val (.frl (ns.map U.int)), .val (.int k)] = r → ∃ a : Int, r = some (.cel [.int a, .int (x % 100000000000000000000000000000000000133 * 83 + k), .int 0] none) := by
    by_cases h : k < ns.length
    · obtain ⟨x, hx, _, e⟩ := atI_map U.int (xs := ns) hk h
      refine ⟨if x < 0 then -x else x, fun r => ?_⟩
      unfold mf__law_tape M__law_tape
      trivial
      intro hr
      exact ⟨_, hr.symm⟩
    · refine ⟨0, fun r => ?_⟩
      unfold mf__law_tape M__law_tape
      trivial
      intro hr
      exact ⟨_, hr.symm⟩
  obtain ⟨x, key⟩ := key
  obtain ⟨a, e⟩ := key _ rfl
  exact ⟨_, ⟨a, _, _, rfl, by omega, by omega, Int.le_refl 0, by omega⟩, e⟩
end Sg
set_option Elab.async false
set_option linter.all false
set_option maxRecDepth 100000
set_option maxHeartbeats 1000000
namespace Sg
open PySem L2
variable {K : PySem.W.Frag}
local macro_rules | `(tactic| trivial) => `(tactic| simp -implicitDefEqProofs (disch := omega) only [*, mC_m, mVar_m, mLook_m, mLet_m, mSc_m, mNil_m, msNil_m, msSeq_m, msAsgF_m, msDrop_m, msRet_m, msRetF_m, msRetC_m, msRaise_m, msFor_m, mtYes_m, mLc_m, mcNil_m, mcCel_m, mCall_m, moNone_m, moSome_m, mSlL_m, mBi_m, mBiF_m, miList_m, miRng1_m, miEnum_m, miZip_m, mMeth_m, mMeth0_m, msSet_m, mCat_m, mChain_m, mIsi_m, mListRng_m, mCallF_m, msParVV_m, msParFV_m, mMethD_m, mCMeth_m, mConC_m, okE_some, okE_none, opE_ok, opE_ex, opF_ok, opF_ex, mOp_e, mIx_e, unE_ok, mUn_e, coE_ok, coE_ex, coF_ok, coF_ex, mCons_e, bindAE_ok, bindAE_ex, mTup_e, tupF_e, mFr_e, lstF_ok, mLst_e, tsE_ok, tsE_ex, mTest_e, okT_some, truE_ok, truE_ex, mTru_e, anE_t, anE_f, anE_ok, orE_t, orE_f, orE_ok, mAnd_e, mOr_e, noE_ok, noE_ex, mNot_e, blV_ok, blV_ex, anV_t, anV_f, anV_ok, mAndV_e, noV_ok, noV_ex, mNotV_e, ifV_t, ifV_f, ifV_ok, mIf_e, ifS_t, ifS_f, ifS_ok, ifS_ex, msIf_e, nxO_some, asE_ok, asE_ex, msAsg_e, gcE_some, mgCons_e, mgNil_e, mgTup_e, mgName_e, cvE_ok, cvE_ex, consC_ok, mcVal_e, thenS_nx, thenS_bk, thenS_ct, thenS_rt, thenS_ex, bindES_ok, bindES_ex, bindAS_ok, bindAS_ex, bindE_ok, bindE_ex, mfOf_e, mfOf0_e, noX_val, noX_cel, coM_some, fin_val, fin_cel, fin_nx, fin_ex, oAdd_i, oSub_i, oMul_l, oMul_r, oMod_i, oDiv_i, oPow_i, oLt_i, oLe_i, oGt_i, oGe_i, oIx_l, oIx_f, oIx_t, at1_0, at2_0, at2_1, at3_0, at3_1, at3_2, at4_0, at4_1, at4_2, at4_3, ix3_0, ix3_1, ix3_2, oIsN_non, oNotN_non, oNotN_lst, oIsN_lst, oMax2_i, oMin2_i, oAbs_i, oLen_l, oLen_f, oLen_t, oNeg_i, truU_i, truU_l, truU_b, truU_n, lstU_l, lstU_f, oAppend_u, lstF_0, tupF_0, lstF_1, tupF_1, lstF_2, tupF_2, lstF_3, tupF_3, lstF_4, tupF_4, lstF_5, tupF_5, lstF_6, tupF_6, isi_NoneType_bool, isi_NoneType_int, isi_NoneType_str, isi_NoneType_list, isi_NoneType_tuple, isi_NoneType_dict, isi_bool_bool, isi_bool_int, isi_bool_str, isi_bool_list, isi_bool_tuple, isi_bool_dict, isi_int_bool, isi_int_int, isi_int_str, isi_int_list, isi_int_tuple, isi_int_dict, isi_str_bool, isi_str_int, isi_str_str, isi_str_list, isi_str_tuple, isi_str_dict, isi_list_bool, isi_list_int, isi_list_str, isi_list_list, isi_list_tuple, isi_list_dict, isi_tuple_bool, isi_tuple_int, isi_tuple_str, isi_tuple_list, isi_tuple_tuple, isi_tuple_dict, isi_dict_bool, isi_dict_int, isi_dict_str, isi_dict_list, isi_dict_tuple, isi_dict_dict, tyU_n, tyU_b, tyU_i, tyU_s, tyU_l, tyU_t, rngOk_i, zipU_map, intsU_map, blsU_map, oAll_l, cutU_1, cutU_m1, drop_map, reverse_map, length_map', dropLast_map, oEq_i, oNe_i, oEq_b, oNe_b, oEq_nn, oNe_nn, oEq_pp, oNe_pp, oEq_ii, oNe_ii, mCallL_m, lendM_ok, lendM_ex, lendA_some, lendR_b, lendR_i, lendR_n, lendR_ex, resolveL_nil, resolveL_v, resolveL_c, resC_c, List.zip_cons_cons, List.zip_nil_left, oEqS_s, oNeS_s, mCallF_m, oMul_s, oIsN_i, oIsN_b, oIsN_t, oPowX_i, mMakeS_m, mMakeL_m, mFld_m, mProp_m, mnSeq_m, mnS_m, mnF_m, at0_e, allX_const, seqU_l, seqU_f, seqU_t, msWhile_m, mCallK_m, pm_nil, pm_cons, List.mem_singleton, and_self, resC_d, scV_b, scV_i, scV_s, scV_n, Option.isSome_some, tyU_d, mgTup_2, mgTup_3, mgTup_4, or_false, false_or, or_self, or_true, true_or, Nat.reduceBEq, bindEA_ok, bindEA_ex, mLstL_m, unown, kills, cellAt, List.map_cons, List.map_nil, List.length_cons, List.length_nil, List.cons_append, List.nil_append, List.replicate, List.getElem?_cons_succ, List.getElem?_cons_zero, List.set_cons_zero, List.set_cons_succ, Option.map_some, Option.map_none, Option.bind_some, Option.bind_none, Nat.reduceAdd, Nat.reduceSub, Nat.reduceLeDiff, Int.reduceLT, Int.reduceLE, Int.reduceNeg, Int.reduceToNat, Int.reducePow, decide_eq_true_eq, reduceIte, eq_self, ite_true, ite_false, Bool.false_eq_true, reduceCtorEq, resolve, celJ, nCel, Slot.isC, List.filter, putJ, callM, callMF, List.append_eq, Nat.reduceLT, Int.reduceMul, Int.reduceAdd, Int.reduceSub, ne_eq, not_true_eq_false, not_false_eq_true, Bool.not_false, Bool.not_true, decide_true, decide_false, frF, Int.cast_ofNat_Int, Bool.and_true, Bool.true_and, Bool.false_and, Bool.and_false, Bool.or_false, Bool.false_or, Bool.true_or, Bool.or_true])
local macro_rules | `(tactic| ac_rfl) => `(tactic| (simp -implicitDefEqProofs (disch := omega) only [*, mC_m, mVar_m, mLook_m, mLet_m, mSc_m, mNil_m, msNil_m, msSeq_m, msAsgF_m, msDrop_m, msRet_m, msRetF_m, msRetC_m, msRaise_m, msFor_m, mtYes_m, mLc_m, mcNil_m, mcCel_m, mCall_m, moNone_m, moSome_m, mSlL_m, mBi_m, mBiF_m, miList_m, miRng1_m, miEnum_m, miZip_m, mMeth_m, mMeth0_m, msSet_m, mCat_m, mChain_m, mIsi_m, mListRng_m, mCallF_m, msParVV_m, msParFV_m, mMethD_m, mCMeth_m, mConC_m, okE_some, okE_none, opE_ok, opE_ex, opF_ok, opF_ex, mOp_e, mIx_e, unE_ok, mUn_e, coE_ok, coE_ex, coF_ok, coF_ex, mCons_e, bindAE_ok, bindAE_ex, mTup_e, tupF_e, mFr_e, lstF_ok, mLst_e, tsE_ok, tsE_ex, mTest_e, okT_some, truE_ok, truE_ex, mTru_e, anE_t, anE_f, anE_ok, orE_t, orE_f, orE_ok, mAnd_e, mOr_e, noE_ok, noE_ex, mNot_e, blV_ok, blV_ex, anV_t, anV_f, anV_ok, mAndV_e, noV_ok, noV_ex, mNotV_e, ifV_t, ifV_f, ifV_ok, mIf_e, ifS_t, ifS_f, ifS_ok, ifS_ex, msIf_e, nxO_some, asE_ok, asE_ex, msAsg_e, gcE_some, mgCons_e, mgNil_e, mgTup_e, mgName_e, cvE_ok, cvE_ex, consC_ok, mcVal_e, thenS_nx, thenS_bk, thenS_ct, thenS_rt, thenS_ex, bindES_ok, bindES_ex, bindAS_ok, bindAS_ex, bindE_ok, bindE_ex, mfOf_e, mfOf0_e, noX_val, noX_cel, coM_some, fin_val, fin_cel, fin_nx, fin_ex, oAdd_i, oSub_i, oMul_l, oMul_r, oMod_i, oDiv_i, oPow_i, oLt_i, oLe_i, oGt_i, oGe_i, oIx_l, oIx_f, oIx_t, at1_0, at2_0, at2_1, at3_0, at3_1, at3_2, at4_0, at4_1, at4_2, at4_3, ix3_0, ix3_1, ix3_2, oIsN_non, oNotN_non, oNotN_lst, oIsN_lst, oMax2_i, oMin2_i, oAbs_i, oLen_l, oLen_f, oLen_t, oNeg_i, truU_i, truU_l, truU_b, truU_n, lstU_l, lstU_f, oAppend_u, lstF_0, tupF_0, lstF_1, tupF_1, lstF_2, tupF_2, lstF_3, tupF_3, lstF_4, tupF_4, lstF_5, tupF_5, lstF_6, tupF_6, isi_NoneType_bool, isi_NoneType_int, isi_NoneType_str, isi_NoneType_list, isi_NoneType_tuple, isi_NoneType_dict, isi_bool_bool, isi_bool_int, isi_bool_str, isi_bool_list, isi_bool_tuple, isi_bool_dict, isi_int_bool, isi_int_int, isi_int_str, isi_int_list, isi_int_tuple, isi_int_dict, isi_str_bool, isi_str_int, isi_str_str, isi_str_list, isi_str_tuple, isi_str_dict, isi_list_bool, isi_list_int, isi_list_str, isi_list_list, isi_list_tuple, isi_list_dict, isi_tuple_bool, isi_tuple_int, isi_tuple_str, isi_tuple_list, isi_tuple_tuple, isi_tuple_dict, isi_dict_bool, isi_dict_int, isi_dict_str, isi_dict_list, isi_dict_tuple, isi_dict_dict, tyU_n, tyU_b, tyU_i, tyU_s, tyU_l, tyU_t, rngOk_i, zipU_map, intsU_map, blsU_map, oAll_l, cutU_1, cutU_m1, drop_map, reverse_map, length_map', dropLast_map, oEq_i, oNe_i, oEq_b, oNe_b, oEq_nn, oNe_nn, oEq_pp, oNe_pp, oEq_ii, oNe_ii, mCallL_m, lendM_ok, lendM_ex, lendA_some, lendR_b, lendR_i, lendR_n, lendR_ex, resolveL_nil, resolveL_v, resolveL_c, resC_c, List.zip_cons_cons, List.zip_nil_left, oEqS_s, oNeS_s, mCallF_m, oMul_s, oIsN_i, oIsN_b, oIsN_t, oPowX_i, mMakeS_m, mMakeL_m, mFld_m, mProp_m, mnSeq_m, mnS_m, mnF_m, at0_e, allX_const, seqU_l, seqU_f, seqU_t, msWhile_m, mCallK_m, pm_nil, pm_cons, List.mem_singleton, and_self, resC_d, scV_b, scV_i, scV_s, scV_n, Option.isSome_some, tyU_d, mgTup_2, mgTup_3, mgTup_4, or_false, false_or, or_self, or_true, true_or, Nat.reduceBEq, bindEA_ok, bindEA_ex, mLstL_m, unown, kills, cellAt, List.map_cons, List.map_nil, List.length_cons, List.length_nil, List.cons_append, List.nil_append, List.replicate, List.getElem?_cons_succ, List.getElem?_cons_zero, List.set_cons_zero, List.set_cons_succ, Option.map_some, Option.map_none, Option.bind_some, Option.bind_none, Nat.reduceAdd, Nat.reduceSub, Nat.reduceLeDiff, Int.reduceLT, Int.reduceLE, Int.reduceNeg, Int.reduceToNat, Int.reducePow, decide_eq_true_eq, reduceIte, eq_self, ite_true, ite_false, Bool.false_eq_true, reduceCtorEq, resolve, celJ, nCel, Slot.isC, List.filter, putJ, callM, callMF, List.append_eq, Nat.reduceLT, Int.reduceMul, Int.reduceAdd, Int.reduceSub, ne_eq, not_true_eq_false, not_false_eq_true, Bool.not_false, Bool.not_true, decide_true, decide_false, frF, Int.cast_ofNat_Int, Bool.and_true, Bool.true_and, Bool.false_and, Bool.and_false, Bool.or_false, Bool.false_or, Bool.true_or, Bool.or_true, G__law_runs_0, G__law_scale_0, T__law_scale_1, E__law_scale_2, G_number_in_0, T_number_in_1, E_number_in_2, G_are_values_0, T_are_values_1, E_are_values_2, G_are_values_3, T_are_values_4, E_are_values_5, G_read_system_0, G_write_system_0, T_write_system_1, E_write_system_2, G_common_divisor_2, G__law_system_right_0, T__law_system_right_1, E__law_system_right_2, G_read_word_0, G_write_word_0, T_write_word_1, E_write_word_2, G__law_text_0, T__law_text_1, E__law_text_2, G_law_0, G_law_2, G_law_4, T_law_5, E_law_6, G_law_7, T_law_8, E_law_9]; try rfl))
theorem oSorted_l (is : List Int) : (oSorted (K := K)).f [.lst (is.map U.int)] = some ((sortI is).map U.int) := by
  show (intsU (is.map U.int)).map _ = _
  rw [intsU_map]
  rfl
end Sg
set_option Elab.async false
set_option linter.all false
set_option maxRecDepth 100000
set_option maxHeartbeats 1000000
namespace Sg
open PySem L2
variable {K : PySem.W.Frag}
local macro_rules | `(tactic| trivial) => `(tactic| simp -implicitDefEqProofs (disch := omega) only [*, mC_m, mVar_m, mLook_m, mLet_m, mSc_m, mNil_m, msNil_m, msSeq_m, msAsgF_m, msDrop_m, msRet_m, msRetF_m, msRetC_m, msRaise_m, msFor_m, mtYes_m, mLc_m, mcNil_m, mcCel_m, mCall_m, moNone_m, moSome_m, mSlL_m, mBi_m, mBiF_m, miList_m, miRng1_m, miEnum_m, miZip_m, mMeth_m, mMeth0_m, msSet_m, mCat_m, mChain_m, mIsi_m, mListRng_m, mCallF_m, msParVV_m, msParFV_m, mMethD_m, mCMeth_m, mConC_m, okE_some, okE_none, opE_ok, opE_ex, opF_ok, opF_ex, mOp_e, mIx_e, unE_ok, mUn_e, coE_ok, coE_ex, coF_ok, coF_ex, mCons_e, bindAE_ok, bindAE_ex, mTup_e, tupF_e, mFr_e, lstF_ok, mLst_e, tsE_ok, tsE_ex, mTest_e, okT_some, truE_ok, truE_ex, mTru_e, anE_t, anE_f, anE_ok, orE_t, orE_f, orE_ok, mAnd_e, mOr_e, noE_ok, noE_ex, mNot_e, blV_ok, blV_ex, anV_t, anV_f, anV_ok, mAndV_e, noV_ok, noV_ex, mNotV_e, ifV_t, ifV_f, ifV_ok, mIf_e, ifS_t, ifS_f, ifS_ok, ifS_ex, msIf_e, nxO_some, asE_ok, asE_ex, msAsg_e, gcE_some, mgCons_e, mgNil_e, mgTup_e, mgName_e, cvE_ok, cvE_ex, consC_ok, mcVal_e, thenS_nx, thenS_bk, thenS_ct, thenS_rt, thenS_ex, bindES_ok, bindES_ex, bindAS_ok, bindAS_ex, bindE_ok, bindE_ex, mfOf_e, mfOf0_e, noX_val, noX_cel, coM_some, fin_val, fin_cel, fin_nx, fin_ex, oAdd_i, oSub_i, oMul_l, oMul_r, oMod_i, oDiv_i, oPow_i, oLt_i, oLe_i, oGt_i, oGe_i, oIx_l, oIx_f, oIx_t, at1_0, at2_0, at2_1, at3_0, at3_1, at3_2, at4_0, at4_1, at4_2, at4_3, ix3_0, ix3_1, ix3_2, oIsN_non, oNotN_non, oNotN_lst, oIsN_lst, oMax2_i, oMin2_i, oAbs_i, oLen_l, oLen_f, oLen_t, oNeg_i, truU_i, truU_l, truU_b, truU_n, lstU_l, lstU_f, oAppend_u, lstF_0, tupF_0, lstF_1, tupF_1, lstF_2, tupF_2, lstF_3, tupF_3, lstF_4, tupF_4, lstF_5, tupF_5, lstF_6, tupF_6, isi_NoneType_bool, isi_NoneType_int, isi_NoneType_str, isi_NoneType_list, isi_NoneType_tuple, isi_NoneType_dict, isi_bool_bool, isi_bool_int, isi_bool_str, isi_bool_list, isi_bool_tuple, isi_bool_dict, isi_int_bool, isi_int_int, isi_int_str, isi_int_list, isi_int_tuple, isi_int_dict, isi_str_bool, isi_str_int, isi_str_str, isi_str_list, isi_str_tuple, isi_str_dict, isi_list_bool, isi_list_int, isi_list_str, isi_list_list, isi_list_tuple, isi_list_dict, isi_tuple_bool, isi_tuple_int, isi_tuple_str, isi_tuple_list, isi_tuple_tuple, isi_tuple_dict, isi_dict_bool, isi_dict_int, isi_dict_str, isi_dict_list, isi_dict_tuple, isi_dict_dict, tyU_n, tyU_b, tyU_i, tyU_s, tyU_l, tyU_t, rngOk_i, zipU_map, intsU_map, blsU_map, oAll_l, cutU_1, cutU_m1, drop_map, reverse_map, length_map', dropLast_map, oEq_i, oNe_i, oEq_b, oNe_b, oEq_nn, oNe_nn, oEq_pp, oNe_pp, oEq_ii, oNe_ii, mCallL_m, lendM_ok, lendM_ex, lendA_some, lendR_b, lendR_i, lendR_n, lendR_ex, resolveL_nil, resolveL_v, resolveL_c, resC_c, List.zip_cons_cons, List.zip_nil_left, oEqS_s, oNeS_s, mCallF_m, oMul_s, oIsN_i, oIsN_b, oIsN_t, oPowX_i, mMakeS_m, mMakeL_m, mFld_m, mProp_m, mnSeq_m, mnS_m, mnF_m, at0_e, allX_const, seqU_l, seqU_f, seqU_t, msWhile_m, mCallK_m, pm_nil, pm_cons, List.mem_singleton, and_self, resC_d, scV_b, scV_i, scV_s, scV_n, Option.isSome_some, tyU_d, mgTup_2, mgTup_3, mgTup_4, or_false, false_or, or_self, or_true, true_or, Nat.reduceBEq, bindEA_ok, bindEA_ex, mLstL_m, unown, kills, cellAt, List.map_cons, List.map_nil, List.length_cons, List.length_nil, List.cons_append, List.nil_append, List.replicate, List.getElem?_cons_succ, List.getElem?_cons_zero, List.set_cons_zero, List.set_cons_succ, Option.map_some, Option.map_none, Option.bind_some, Option.bind_none, Nat.reduceAdd, Nat.reduceSub, Nat.reduceLeDiff, Int.reduceLT, Int.reduceLE, Int.reduceNeg, Int.reduceToNat, Int.reducePow, decide_eq_true_eq, reduceIte, eq_self, ite_true, ite_false, Bool.false_eq_true, reduceCtorEq, resolve, celJ, nCel, Slot.isC, List.filter, putJ, callM, callMF, List.append_eq, Nat.reduceLT, Int.reduceMul, Int.reduceAdd, Int.reduceSub, ne_eq, not_true_eq_false, not_false_eq_true, Bool.not_false, Bool.not_true, decide_true, decide_false, frF, Int.cast_ofNat_Int, Bool.and_true, Bool.true_and, Bool.false_and, Bool.and_false, Bool.or_false, Bool.false_or, Bool.true_or, Bool.or_true, oList_l, lstF_5, lstF_6])
local macro_rules | `(tactic| ac_rfl) => `(tactic| (simp -implicitDefEqProofs (disch := omega) only [*, mC_m, mVar_m, mLook_m, mLet_m, mSc_m, mNil_m, msNil_m, msSeq_m, msAsgF_m, msDrop_m, msRet_m, msRetF_m, msRetC_m, msRaise_m, msFor_m, mtYes_m, mLc_m, mcNil_m, mcCel_m, mCall_m, moNone_m, moSome_m, mSlL_m, mBi_m, mBiF_m, miList_m, miRng1_m, miEnum_m, miZip_m, mMeth_m, mMeth0_m, msSet_m, mCat_m, mChain_m, mIsi_m, mListRng_m, mCallF_m, msParVV_m, msParFV_m, mMethD_m, mCMeth_m, mConC_m, okE_some, okE_none, opE_ok, opE_ex, opF_ok, opF_ex, mOp_e, mIx_e, unE_ok, mUn_e, coE_ok, coE_ex, coF_ok, coF_ex, mCons_e, bindAE_ok, bindAE_ex, mTup_e, tupF_e, mFr_e, lstF_ok, mLst_e, tsE_ok, tsE_ex, mTest_e, okT_some, truE_ok, truE_ex, mTru_e, anE_t, anE_f, anE_ok, orE_t, orE_f, orE_ok, mAnd_e, mOr_e, noE_ok, noE_ex, mNot_e, blV_ok, blV_ex, anV_t, anV_f, anV_ok, mAndV_e, noV_ok, noV_ex, mNotV_e, ifV_t, ifV_f, ifV_ok, mIf_e, ifS_t, ifS_f, ifS_ok, ifS_ex, msIf_e, nxO_some, asE_ok, asE_ex, msAsg_e, gcE_some, mgCons_e, mgNil_e, mgTup_e, mgName_e, cvE_ok, cvE_ex, consC_ok, mcVal_e, thenS_nx, thenS_bk, thenS_ct, thenS_rt, thenS_ex, bindES_ok, bindES_ex, bindAS_ok, bindAS_ex, bindE_ok, bindE_ex, mfOf_e, mfOf0_e, noX_val, noX_cel, coM_some, fin_val, fin_cel, fin_nx, fin_ex, oAdd_i, oSub_i, oMul_l, oMul_r, oMod_i, oDiv_i, oPow_i, oLt_i, oLe_i, oGt_i, oGe_i, oIx_l, oIx_f, oIx_t, at1_0, at2_0, at2_1, at3_0, at3_1, at3_2, at4_0, at4_1, at4_2, at4_3, ix3_0, ix3_1, ix3_2, oIsN_non, oNotN_non, oNotN_lst, oIsN_lst, oMax2_i, oMin2_i, oAbs_i, oLen_l, oLen_f, oLen_t, oNeg_i, truU_i, truU_l, truU_b, truU_n, lstU_l, lstU_f, oAppend_u, lstF_0, tupF_0, lstF_1, tupF_1, lstF_2, tupF_2, lstF_3, tupF_3, lstF_4, tupF_4, lstF_5, tupF_5, lstF_6, tupF_6, isi_NoneType_bool, isi_NoneType_int, isi_NoneType_str, isi_NoneType_list, isi_NoneType_tuple, isi_NoneType_dict, isi_bool_bool, isi_bool_int, isi_bool_str, isi_bool_list, isi_bool_tuple, isi_bool_dict, isi_int_bool, isi_int_int, isi_int_str, isi_int_list, isi_int_tuple, isi_int_dict, isi_str_bool, isi_str_int, isi_str_str, isi_str_list, isi_str_tuple, isi_str_dict, isi_list_bool, isi_list_int, isi_list_str, isi_list_list, isi_list_tuple, isi_list_dict, isi_tuple_bool, isi_tuple_int, isi_tuple_str, isi_tuple_list, isi_tuple_tuple, isi_tuple_dict, isi_dict_bool, isi_dict_int, isi_dict_str, isi_dict_list, isi_dict_tuple, isi_dict_dict, tyU_n, tyU_b, tyU_i, tyU_s, tyU_l, tyU_t, rngOk_i, zipU_map, intsU_map, blsU_map, oAll_l, cutU_1, cutU_m1, drop_map, reverse_map, length_map', dropLast_map, oEq_i, oNe_i, oEq_b, oNe_b, oEq_nn, oNe_nn, oEq_pp, oNe_pp, oEq_ii, oNe_ii, mCallL_m, lendM_ok, lendM_ex, lendA_some, lendR_b, lendR_i, lendR_n, lendR_ex, resolveL_nil, resolveL_v, resolveL_c, resC_c, List.zip_cons_cons, List.zip_nil_left, oEqS_s, oNeS_s, mCallF_m, oMul_s, oIsN_i, oIsN_b, oIsN_t, oPowX_i, mMakeS_m, mMakeL_m, mFld_m, mProp_m, mnSeq_m, mnS_m, mnF_m, at0_e, allX_const, seqU_l, seqU_f, seqU_t, msWhile_m, mCallK_m, pm_nil, pm_cons, List.mem_singleton, and_self, resC_d, scV_b, scV_i, scV_s, scV_n, Option.isSome_some, tyU_d, mgTup_2, mgTup_3, mgTup_4, or_false, false_or, or_self, or_true, true_or, Nat.reduceBEq, bindEA_ok, bindEA_ex, mLstL_m, unown, kills, cellAt, List.map_cons, List.map_nil, List.length_cons, List.length_nil, List.cons_append, List.nil_append, List.replicate, List.getElem?_cons_succ, List.getElem?_cons_zero, List.set_cons_zero, List.set_cons_succ, Option.map_some, Option.map_none, Option.bind_some, Option.bind_none, Nat.reduceAdd, Nat.reduceSub, Nat.reduceLeDiff, Int.reduceLT, Int.reduceLE, Int.reduceNeg, Int.reduceToNat, Int.reducePow, decide_eq_true_eq, reduceIte, eq_self, ite_true, ite_false, Bool.false_eq_true, reduceCtorEq, resolve, celJ, nCel, Slot.isC, List.filter, putJ, callM, callMF, List.append_eq, Nat.reduceLT, Int.reduceMul, Int.reduceAdd, Int.reduceSub, ne_eq, not_true_eq_false, not_false_eq_true, Bool.not_false, Bool.not_true, decide_true, decide_false, frF, Int.cast_ofNat_Int, Bool.and_true, Bool.true_and, Bool.false_and, Bool.and_false, Bool.or_false, Bool.false_or, Bool.true_or, Bool.or_true, G__law_runs_0, G__law_scale_0, T__law_scale_1, E__law_scale_2, G_number_in_0, T_number_in_1, E_number_in_2, G_are_values_0, T_are_values_1, E_are_values_2, G_are_values_3, T_are_values_4, E_are_values_5, G_read_system_0, G_write_system_0, T_write_system_1, E_write_system_2, G_common_divisor_2, G__law_system_right_0, T__law_system_right_1, E__law_system_right_2, G_read_word_0, G_write_word_0, T_write_word_1, E_write_word_2, G__law_text_0, T__law_text_1, E__law_text_2, G_law_0, G_law_2, G_law_4, T_law_5, E_law_6, G_law_7, T_law_8, E_law_9, oList_l, lstF_5, lstF_6]; try rfl))
theorem sortI_perm' : ∀ l : List Int, (sortI l).Perm l
  | [] => .refl _
  | x :: r => (insI_perm x (sortI r)).trans ((sortI_perm' r).cons x)
theorem sortI_le : ∀ l : List Int, (sortI l).Pairwise (· ≤ ·)
  | [] => List.Pairwise.nil
  | x :: r => insI_sorted x (sortI_le r)
theorem eraseIdx_map' {α : Type} (r : α → U) (xs : List α) (k : Nat) : (xs.map r).eraseIdx k = (xs.eraseIdx k).map r := by
  induction xs generalizing k with
  | nil => rfl
  | cons x xs ih =>
    cases k with
    | zero => rfl
    | succ k => simp [ih]
theorem oPopAt_l (xs : List Int) (i : Int) (h0 : 0 ≤ i) (h1 : i < xs.length) (h2 : xs.length < 1000000) : ∃ x ∈ xs, xs[i.toNat]? = some x ∧ (oPopAt (K := K)).f (xs.map U.int) [.int i] = some (.int x, (xs.eraseIdx i.toNat).map U.int) := by
  have hl : i.toNat < xs.length := by omega
  refine ⟨xs[i.toNat], List.getElem_mem hl, List.getElem?_eq_getElem hl, ?_⟩
  show (if -(2 ^ 63) ≤ i ∧ i < 2 ^ 63 then (seqIndex? i (xs.map U.int).length).bind fun k => (xs.map U.int)[k]?.map fun u => (u, (xs.map U.int).eraseIdx k) else none) = _
  rw [if_pos (by omega)]
  have e : seqIndex? i (xs.map U.int).length = some i.toNat := by
    have n0 : ¬ i < 0 := by omega
    unfold seqIndex?
    simp [n0, h0, h1]
  rw [e, Option.bind_some, List.getElem?_map, List.getElem?_eq_getElem hl, eraseIdx_map']
  rfl
theorem zip_asc : ∀ l : List Int, l.Pairwise (· ≤ ·) → l.Nodup → ∀ p ∈ l.zip (l.drop 1), p.1 < p.2
  | [], _, _, p, h => by simp at h
  | [x], _, _, p, h => by simp at h
  | x :: y :: r, h1, h2, p, h => by
    rw [List.drop_succ_cons, List.drop_zero, List.zip_cons_cons] at h
    rcases List.mem_cons.mp h with e | h
    · rw [e]
      have a := (List.pairwise_cons.mp h1).1 y List.mem_cons_self
      have b := (List.pairwise_cons.mp h2).1 y List.mem_cons_self
      show x < y
      have b' : x ≠ y := b
      have a' : x ≤ y := a
      omega
    · exact zip_asc (y :: r) (List.pairwise_cons.mp h1).2 (List.pairwise_cons.mp h2).2 p (by rw [List.drop_succ_cons, List.drop_zero]; exact h)
theorem take_zip58 : ∀ (ws : List Int) (c : Nat), ∀ p ∈ (ws.take c).zip ((ws.take c).drop 1), p ∈ ws.zip (ws.drop 1)
  | [], c, p, h => by simp at h
  | x :: r, 0, p, h => by simp at h
  | [x], c + 1, p, h => by simp at h
  | x :: y :: t, 1, p, h => by simp at h
  | x :: y :: t, c + 2, p, h => by
    have h' : p ∈ (x, y) :: ((y :: t).take (c + 1)).zip (((y :: t).take (c + 1)).drop 1) := h
    show p ∈ (x, y) :: (y :: t).zip ((y :: t).drop 1)
    rcases List.mem_cons.mp h' with e | e
    · rw [e]; exact List.mem_cons_self
    · exact List.mem_cons_of_mem _ (take_zip58 (y :: t) (c + 1) p e)
theorem take_ok {ws : List Int} (h : ValsOk ws) (c : Nat) (hc : 1 ≤ c) : ValsOk (ws.take c) := by
  have h0 := h.pos
  exact ⟨by rw [List.length_take]; omega, by have := h.top; rw [List.length_take]; omega, fun x hx => h.bd x (List.mem_of_mem_take hx), fun p hp => h.asc p (take_zip58 ws c p hp)⟩
theorem row4 (d : Int) (h0 : 0 ≤ d) (h1 : d < 4) : ∃ ws : List Int, ValsOk ws ∧ ws.length = 6 ∧ atI [U.lst [.int 1, .int 2, .int 3, .int 4, .int 5, .int 6], .lst [.int 1, .int 2, .int 4, .int 8, .int 16, .int 32], .lst [.int 1, .int 5, .int 10, .int 20, .int 50, .int 60], .lst [.int 2, .int 3, .int 4, .int 5, .int 9, .int 60]] d = some (.lst (ws.map U.int)) := by
  have : d = 0 ∨ d = 1 ∨ d = 2 ∨ d = 3 := by omega
  rcases this with rfl | rfl | rfl | rfl
  · exact ⟨[1, 2, 3, 4, 5, 6], ⟨by decide, by decide, by decide, by decide⟩, rfl, rfl⟩
  · exact ⟨[1, 2, 4, 8, 16, 32], ⟨by decide, by decide, by decide, by decide⟩, rfl, rfl⟩
  · exact ⟨[1, 5, 10, 20, 50, 60], ⟨by decide, by decide, by decide, by decide⟩, rfl, rfl⟩
  · exact ⟨[2, 3, 4, 5, 9, 60], ⟨by decide, by decide, by decide, by decide⟩, rfl, rfl⟩
theorem cutU_to (us : List U) (i : Int) (h : 0 ≤ i) (h2 : i ≤ us.length) : cutU us none (some i) = us.take i.toNat := by
  have e : i = ((i.toNat : Nat) : Int) := (Int.toNat_of_nonneg h).symm
  unfold cutU
  rw [e, HT.sIx_nat, HT.sIx_none, List.drop_zero, Int.toNat_natCast]
  congr 1
  omega
theorem top2 (d : Int) (h0 : 4 ≤ d) (h1 : d < 6) : ∃ top : Int, 15 ≤ top ∧ top ≤ 60 ∧ atI [U.int 16, .int 61] (d - 4) = some (.int (top + 1)) := by
  have : d = 4 ∨ d = 5 := by omega
  rcases this with rfl | rfl
  · exact ⟨15, by omega, by omega, rfl⟩
  · exact ⟨60, by omega, by omega, rfl⟩
theorem scale_k (own : Bool) (n : Nat) (f : List U) (hf : Well n f) (hn : n < 900000) (most : Int) (hy1 : 1 ≤ most) (hy2 : most ≤ 6) :
    ∃ (vs : List Int) (f' : List U), ValsOk vs ∧ (vs.length : Int) ≤ most ∧ Well (n + 8) f' ∧ mf__law_scale K [.cel own f, .val (.int most)] = some (.val (.lst (vs.map U.int)) (some f')) := by
  obtain ⟨d0, f0, p0, p1, hf0, e0⟩ := next_k (K := K) false n f most hf (by omega) (by omega) (by omega)
  obtain ⟨d1, f1, q0, q1, hf1, e1⟩ := next_k (K := K) false (n + 1) f0 6 hf0 (by omega) (by omega) (by omega)
  by_cases c : d1 < 4
  · obtain ⟨ws, hw, hl, ea⟩ := row4 d1 q0 c
    have cd : decide (d1 < 4) = true := decide_eq_true c
    have ec : cutU (ws.map U.int) none (some (1 + d0)) = (ws.take (1 + d0).toNat).map U.int := by
      rw [cutU_to _ _ (by omega) (by rw [List.length_map]; omega), List.map_take]
    refine ⟨ws.take (1 + d0).toNat, f1, take_ok hw _ (by omega), by rw [List.length_take]; omega, hf1.mono (by omega), ?_⟩
    clear hw hl hf hf0 hf1 p0 p1 q0 q1 hn hy1 hy2 c
    generalize (ws.take (1 + d0).toNat).map U.int = R at *
    generalize ws.map U.int = WS at *
    unfold mf__law_scale M__law_scale
    trivial
  · obtain ⟨top, t0, t1, et⟩ := top2 d1 (by omega) q1
    have cd : decide (d1 < 4) = false := decide_eq_false c
    have hr : rgLok 1 (top + 1) = true := decide_eq_true ⟨by omega, by omega, by omega, by omega, by omega⟩
    generalize hsz : 1 + d0 = sz at *
    have s1 : 1 ≤ sz ∧ sz ≤ most ∧ sz ≤ top := by omega
    have hr2 : rngOk 0 sz = true := rngOk_i 0 sz (by omega) (by omega) (by omega) (by omega)
    have hrange : rangeU 1 (top + 1 - 1).toNat = ((List.range top.toNat).map fun i => (1 + (i : Nat) : Int)).map U.int := by
      rw [rangeU_map, List.map_map, show top + 1 - 1 = top from by omega]
      rfl
    have hnd : (((List.range top.toNat).map fun i => (1 + (i : Nat) : Int)) ++ []).Nodup := by
      rw [List.append_nil]
      exact List.Pairwise.map _ (fun x y (h : x ≠ y) => by omega) List.nodup_range
    generalize hSM : U.lst [.lst [.int 1, .int 2, .int 3, .int 4, .int 5, .int 6], .lst [.int 1, .int 2, .int 4, .int 8, .int 16, .int 32], .lst [.int 1, .int 5, .int 10, .int 20, .int 50, .int 60], .lst [.int 2, .int 3, .int 4, .int 5, .int 9, .int 60]] = SM
    have st := @lcM_inv (G__law_scale_0 K).m (T__law_scale_1 K).m (E__law_scale_2 K).m [6]
      (fun us acc ρ => ∃ (g : List U) (l a : List Int), Well (n + 2 + a.length) g ∧ (us.length : Int) + a.length = sz ∧ (l.length : Int) + a.length = top ∧ (∀ n ∈ l, 1 ≤ n ∧ n ≤ top) ∧ (∀ n ∈ a, 1 ≤ n ∧ n ≤ top) ∧ (l ++ a).Nodup ∧ acc = a.map U.int ∧ ρ = [.cel false g, .val (.int most), .val (.int sz), .val SM, .val (.int d1), .cel true (l.map U.int), .non])
    obtain ⟨acc', ρ', e2, g, l, a, hg, r1, r2, r3, r4, r5, rfl, rfl⟩ := st (by
      rintro u us acc ρ ⟨g, l, a, hg, q1, q2, q3, q4, q5, rfl, rfl⟩
      have q1' : (us.length : Int) + 1 + a.length = sz := by rw [List.length_cons] at q1; omega
      obtain ⟨d, g', d1', d2, hg', e⟩ := next_k (K := K) false (n + 2 + a.length) g (l.length : Int) hg (by omega) (by omega) (by omega)
      obtain ⟨x, hx, hxi, ep⟩ := oPopAt_l (K := K) l d d1' d2 (by omega)
      have hlen : (l.eraseIdx d.toNat).length = l.length - 1 := List.length_eraseIdx_of_lt (by omega)
      clear st
      have e3 : (E__law_scale_2 K).m [.cel false g, .val (.int most), .val (.int sz), .val SM, .val (.int d1), .cel true (l.map U.int), .val u] = some (.ok (.int x) [.cel false g', .val (.int most), .val (.int sz), .val SM, .val (.int d1), .cel true ((l.eraseIdx d.toNat).map U.int), .val u]) := by
        clear q1 q1' q2 q3 q4 q5 hlen hxi hsz hrange hnd s1 hy1 hy2 hSM
        ac_rfl
      refine ⟨[.cel false g, .val (.int most), .val (.int sz), .val SM, .val (.int d1), .cel true (l.map U.int), .val u], rfl, .inr ⟨_, .int x, [.cel false g', .val (.int most), .val (.int sz), .val SM, .val (.int d1), .cel true ((l.eraseIdx d.toNat).map U.int), .val u], rfl, e3, by rw [List.length_map]; omega,
        g', l.eraseIdx d.toNat, a ++ [x], by rw [List.length_append, List.length_singleton]; exact hg', ?_, ?_, fun n hn => q3 n (List.mem_of_mem_eraseIdx hn), fun n hn => ?_, ?_, by simp, rfl⟩⟩
      · rw [List.length_append, List.length_singleton]; omega
      · rw [List.length_append, List.length_singleton, hlen]; omega
      · rcases List.mem_append.mp hn with z | z
        · exact q4 n z
        · rw [List.mem_singleton.mp z]; exact q3 x hx
      · have p1 := L2.erase_perm l d.toNat x hxi
        have p2 : (l.eraseIdx d.toNat ++ (a ++ [x])).Perm (l ++ a) := by
          rw [← List.append_assoc]
          refine (List.perm_append_comm (l₁ := l.eraseIdx d.toNat ++ a) (l₂ := [x])).trans ?_
          exact (p1.append_right a)
        exact p2.nodup_iff.mpr q5)
      (rangeU 0 sz.toNat) [] [.cel false f1, .val (.int most), .val (.int sz), .val SM, .val (.int d1), .cel true (((List.range top.toNat).map fun i => (1 + (i : Nat) : Int)).map U.int), .non]
      ⟨f1, (List.range top.toNat).map fun i => (1 + (i : Nat) : Int), [], hf1, by rw [rangeU_map]; simp; omega, by simp; omega, by simp; omega, by simp, hnd, rfl, rfl⟩
    clear st
    have la : (a.length : Int) = sz := by rw [List.length_nil] at r1; omega
    have nda : a.Nodup := (List.nodup_append.mp r5).2.1
    refine ⟨sortI a, g, ⟨?_, ?_, fun x hx => ?_, zip_asc _ (sortI_le a) ((sortI_perm' a).nodup_iff.mpr nda)⟩, ?_, hg.mono (by omega), ?_⟩
    · rw [(sortI_perm' a).length_eq]; omega
    · rw [(sortI_perm' a).length_eq]; omega
    · have := r4 x ((sortI_perm' a).mem_iff.mp hx); omega
    · rw [(sortI_perm' a).length_eq]; omega
    · have e5 := oSorted_l (K := K) a
      subst hSM
      clear r1 r2 r3 r4 r5 la nda hg hf0 hf1 hf hnd p0 p1 q0 q1 hn s1 hy1 hy2 t0 t1 c
      unfold mf__law_scale M__law_scale
      trivial
end Sg
set_option Elab.async false
set_option linter.all false
set_option maxRecDepth 100000
set_option maxHeartbeats 1000000
namespace Sg
open PySem L2
variable {K : PySem.W.Frag}
open TL in
theorem len_tl' (s : Str) : s.length = s.cps.toList.length := len_tl s
abbrev digsT : Str := "0123456789"
def dig (c : Nat) : Bool := decide (c ∈ digsT.cps.toList)
theorem digs_l : digsT.cps.toList = [48, 49, 50, 51, 52, 53, 54, 55, 56, 57] := by decide +kernel
theorem dig_iff (c : Nat) : dig c = true ↔ 48 ≤ c ∧ c ≤ 57 := by
  unfold dig
  rw [digs_l, decide_eq_true_iff]
  simp only [List.mem_cons, List.mem_nil_iff, or_false]
  omega
def numP (l : List Nat) (most : Nat) : Option Int := if 1 ≤ l.length ∧ l.length ≤ most ∧ l.head? ≠ some 48 ∧ l.all dig = true then some ((NumText.digitsVal l : Nat) : Int) else none
def signP (l : List Nat) : Option Int := (numP l 2).bind fun n => if n ≤ 60 then some n else none
def runL (ps : List Str) : Option (Int × Int) := match ps with
  | [a] => (signP (TL.tl a)).map fun v => (v, 1)
  | [a, b] => (signP (TL.tl a)).bind fun v => (numP (TL.tl b) 60).bind fun c => if c = 1 then none else some (v, c)
  | _ => none
def runP (s : Str) : Option (Int × Int) := runL (Txt.split s "*")
theorem numL_head {n : Nat} (h : 1 ≤ n) : (TL.numL n).head? ≠ some 48 := by
  induction n using Nat.strongRecOn with
  | _ n ih =>
    by_cases c : n < 10
    · rw [TL.numL_lt c]
      simp
      omega
    · rw [TL.numL_step (by omega)]
      have h2 := ih (n / 10) (by omega) (by omega)
      rw [List.head?_append]
      cases e : (TL.numL (n / 10)).head? with
      | none => exact absurd (List.head?_eq_none_iff.mp e) (TL.numL_ne _)
      | some x => rw [e] at h2; exact h2
theorem numP_num (n : Int) (k : Nat) (hk : 0 < k) (h1 : 1 ≤ n) (h2 : n < 10 ^ k) : numP (TL.tl (toString n : String)) k = some n := by
  obtain ⟨m, rfl⟩ := Int.eq_ofNat_of_zero_le (show 0 ≤ n by omega)
  have hm : 1 ≤ m := by omega
  have h2' : m < 10 ^ k := by
    have : ((m : Nat) : Int) < ((10 ^ k : Nat) : Int) := by
      rw [Int.natCast_pow]
      exact h2
    omega
  have e : TL.tl (Str.ofString (toString ((m : Nat) : Int))) = TL.numL m := TL.tl_num m
  rw [e]
  unfold numP
  have hd := TL.numL_digits m
  have hl := TL.numL_len hk h2'
  have hne := TL.numL_ne m
  rw [if_pos ⟨by cases h : TL.numL m with
    | nil => exact absurd h hne
    | cons a b => simp, hl, numL_head hm, List.all_eq_true.mpr fun c hc => (dig_iff c).mpr (hd c hc)⟩, TL.numL_val]
theorem signP_num (n : Int) (h1 : 1 ≤ n) (h2 : n ≤ 60) : signP (TL.tl (toString n : String)) = some n := by
  unfold signP
  rw [numP_num n 2 (by decide) h1 (by omega)]
  show (if n ≤ 60 then some n else none) = _
  rw [if_pos h2]
def rtx (p : Int × Int) : Str := if 1 < p.2 then ((Str.empty ++ Str.ofString (toString p.1)) ++ "*") ++ Str.ofString (toString p.2) else Str.ofString (toString p.1)
theorem star_tl : TL.tl ("*" : Str) = [42] := by decide +kernel
theorem blank_tl : TL.tl (" " : Str) = [32] := by decide +kernel
theorem tl_empty : TL.tl Str.empty = [] := rfl
theorem num_free (n : Int) (h : 0 ≤ n) (c : Nat) (hc : c < 48 ∨ 57 < c) : c ∉ TL.tl (Str.ofString (toString n)) := by
  obtain ⟨m, rfl⟩ := Int.eq_ofNat_of_zero_le h
  rw [TL.tl_num]
  exact TL.numL_free hc
theorem tl_two (a b : Str) : TL.tl (((Str.empty ++ a) ++ "*") ++ b) = TL.tl a ++ ([42] ++ TL.tl b) := by
  rw [TL.tl_append, TL.tl_append, TL.tl_append, star_tl, tl_empty, List.nil_append, List.append_assoc]
theorem rtx_join (p : Int × Int) : rtx p = Txt.join "*" (if 1 < p.2 then [Str.ofString (toString p.1), Str.ofString (toString p.2)] else [Str.ofString (toString p.1)]) := by
  unfold rtx
  rw [TL.join_eq]
  split
  · refine TL.ext_tl ?_
    rw [tl_two, TL.tl_join, star_tl]
    rfl
  · rfl
theorem kind_blank : (" " : Str).cps.all (· < 256) = true := by decide +kernel
theorem kind_star : ("*" : Str).cps.all (· < 256) = true := by decide +kernel
theorem runP_rtx (p : Int × Int) (h1 : 1 ≤ p.1) (h2 : p.1 ≤ 60) (h3 : 1 ≤ p.2) (h4 : p.2 < 10 ^ 60) : runP (rtx p) = some p := by
  unfold runP
  rw [rtx_join]
  split
  · rename_i h
    rw [TL.split_join star_tl kind_star (by simp) (fun q hq => by
      simp only [List.mem_cons, List.mem_nil_iff, or_false] at hq
      rcases hq with rfl | rfl
      · exact num_free _ (by omega) _ (by omega)
      · exact num_free _ (by omega) _ (by omega))]
    show (signP _).bind _ = _
    rw [signP_num _ h1 h2, Option.bind_some, numP_num _ 60 (by decide) h3 h4, Option.bind_some, if_neg (by omega)]
  · rename_i h
    rw [TL.split_join star_tl kind_star (by simp) (fun q hq => by
      rw [List.mem_singleton.mp hq]
      exact num_free _ (by omega) _ (by omega))]
    show (signP _).map _ = _
    rw [signP_num _ h1 h2]
    have : p.2 = 1 := by omega
    rw [Option.map_some, ← this]
theorem rtx_free (p : Int × Int) (h1 : 1 ≤ p.1) (h3 : 1 ≤ p.2) : 32 ∉ TL.tl (rtx p) := by
  unfold rtx
  split
  · rw [tl_two]
    intro hm
    rcases List.mem_append.mp hm with z | z
    · exact num_free _ (by omega) _ (by omega) z
    · rcases List.mem_append.mp z with z | z
      · simp at z
      · exact num_free _ (by omega) _ (by omega) z
  · exact num_free _ (by omega) _ (by omega)
theorem tl_joinT (c : Str) (ps : List Str) : TL.tl (Txt.join c ps) = TL.joinL (TL.tl c) (ps.map TL.tl) := by rw [TL.join_eq, TL.tl_join]
theorem split_words {ps : List Str} (h0 : ps ≠ []) (h : ∀ p ∈ ps, 32 ∉ TL.tl p) : Txt.split (Txt.join " " ps) " " = ps := TL.split_join blank_tl kind_blank h0 h
end Sg
set_option Elab.async false
set_option linter.all false
set_option maxRecDepth 100000
set_option maxHeartbeats 1000000
namespace Sg
open PySem L2
variable {K : PySem.W.Frag}
theorem oLen_s (s : Str) (h : s.length ≤ 16777216) : (oLen (K := K)).f [.str s] = some (.int (s.length : Nat)) := by
  show Option.map U.int (if s.length ≤ 16777216 then some ((s.length : Nat) : Int) else none) = _
  rw [if_pos h]
  rfl
theorem oIxS_0 (s : Str) (c : Nat) (r : List Nat) (hs : s.cps.toList = c :: r) (h : s.length ≤ 16777216) : (oIxS (K := K)).f (.str s) (.int 0) = some (.str ⟨#[c]⟩) := by
  show (if s.length ≤ 16777216 then (atI s.cps.toList 0).map fun c => U.str ⟨#[c]⟩ else none) = _
  rw [if_pos h, hs]
  unfold atI ixN
  simp
theorem oInS_d (c : Nat) (z : Str) : (oInS (K := K) false).f (.str ⟨#[c]⟩) (.str z) = some (.bl (decide (c ∈ z.cps.toList))) := rfl
theorem oIntS_e (s : Str) (n : Int) (h : s.length ≤ 640) (e : PySem.intText? s = some n) : (oIntS (K := K)).f [.str s] = some (.int n) := by
  show (if s.length ≤ 640 then (PySem.intText? s).map U.int else none) = _
  rw [if_pos h, e]
  rfl
theorem zero_iff (c : Nat) : decide ((⟨#[c]⟩ : Str) = "0") = decide (c = 48) := by
  rw [decide_eq_decide]
  constructor
  · intro e
    have := congrArg TL.tl e
    have e2 : TL.tl (⟨#[c]⟩ : Str) = [c] := rfl
    rw [e2, show TL.tl ("0" : Str) = [48] by decide +kernel] at this
    exact (List.cons.inj this).1
  · rintro rfl
    rfl
theorem all_map {α : Type} (q : α → Bool) (xs : List α) : (oAll (K := K)).f [.lst (xs.map fun x => U.bl (q x))] = some (.bl (xs.all q)) := by
  have z := oAll_l (K := K) (xs.map q)
  rw [List.map_map] at z
  rw [show (xs.map fun x => U.bl (q x)) = xs.map (U.bl ∘ q) from rfl, z]
  simp
theorem oNotN_i (i : Int) : (oNotN (K := K)).f (.int i) .non = some (.bl true) := rfl
theorem oNe_n1 : (oNe (K := K)).f .non (.int 1) = some (.bl true) := oNe_u .non (.int 1) false rfl
theorem oNe_11 (i : Int) : (oNe (K := K)).f (.int i) (.int 1) = some (.bl (!decide (i = 1))) := oNe_i i 1
def optI : Option Int → U
  | some n => .int n
  | none => .non
local macro_rules | `(tactic| trivial) => `(tactic| simp -implicitDefEqProofs (disch := omega) only [*, mC_m, mVar_m, mLook_m, mLet_m, mSc_m, mNil_m, msNil_m, msSeq_m, msAsgF_m, msDrop_m, msRet_m, msRetF_m, msRetC_m, msRaise_m, msFor_m, mtYes_m, mLc_m, mcNil_m, mcCel_m, mCall_m, moNone_m, moSome_m, mSlL_m, mBi_m, mBiF_m, miList_m, miRng1_m, miEnum_m, miZip_m, mMeth_m, mMeth0_m, msSet_m, mCat_m, mChain_m, mIsi_m, mListRng_m, mCallF_m, msParVV_m, msParFV_m, mMethD_m, mCMeth_m, mConC_m, okE_some, okE_none, opE_ok, opE_ex, opF_ok, opF_ex, mOp_e, mIx_e, unE_ok, mUn_e, coE_ok, coE_ex, coF_ok, coF_ex, mCons_e, bindAE_ok, bindAE_ex, mTup_e, tupF_e, mFr_e, lstF_ok, mLst_e, tsE_ok, tsE_ex, mTest_e, okT_some, truE_ok, truE_ex, mTru_e, anE_t, anE_f, anE_ok, orE_t, orE_f, orE_ok, mAnd_e, mOr_e, noE_ok, noE_ex, mNot_e, blV_ok, blV_ex, anV_t, anV_f, anV_ok, mAndV_e, noV_ok, noV_ex, mNotV_e, ifV_t, ifV_f, ifV_ok, mIf_e, ifS_t, ifS_f, ifS_ok, ifS_ex, msIf_e, nxO_some, asE_ok, asE_ex, msAsg_e, gcE_some, mgCons_e, mgNil_e, mgTup_e, mgName_e, cvE_ok, cvE_ex, consC_ok, mcVal_e, thenS_nx, thenS_bk, thenS_ct, thenS_rt, thenS_ex, bindES_ok, bindES_ex, bindAS_ok, bindAS_ex, bindE_ok, bindE_ex, mfOf_e, mfOf0_e, noX_val, noX_cel, coM_some, fin_val, fin_cel, fin_nx, fin_ex, oAdd_i, oSub_i, oMul_l, oMul_r, oMod_i, oDiv_i, oPow_i, oLt_i, oLe_i, oGt_i, oGe_i, oIx_l, oIx_f, oIx_t, at1_0, at2_0, at2_1, at3_0, at3_1, at3_2, at4_0, at4_1, at4_2, at4_3, ix3_0, ix3_1, ix3_2, oIsN_non, oNotN_non, oNotN_lst, oIsN_lst, oMax2_i, oMin2_i, oAbs_i, oLen_l, oLen_f, oLen_t, oNeg_i, truU_i, truU_l, truU_b, truU_n, lstU_l, lstU_f, oAppend_u, lstF_0, tupF_0, lstF_1, tupF_1, lstF_2, tupF_2, lstF_3, tupF_3, lstF_4, tupF_4, lstF_5, tupF_5, lstF_6, tupF_6, isi_NoneType_bool, isi_NoneType_int, isi_NoneType_str, isi_NoneType_list, isi_NoneType_tuple, isi_NoneType_dict, isi_bool_bool, isi_bool_int, isi_bool_str, isi_bool_list, isi_bool_tuple, isi_bool_dict, isi_int_bool, isi_int_int, isi_int_str, isi_int_list, isi_int_tuple, isi_int_dict, isi_str_bool, isi_str_int, isi_str_str, isi_str_list, isi_str_tuple, isi_str_dict, isi_list_bool, isi_list_int, isi_list_str, isi_list_list, isi_list_tuple, isi_list_dict, isi_tuple_bool, isi_tuple_int, isi_tuple_str, isi_tuple_list, isi_tuple_tuple, isi_tuple_dict, isi_dict_bool, isi_dict_int, isi_dict_str, isi_dict_list, isi_dict_tuple, isi_dict_dict, tyU_n, tyU_b, tyU_i, tyU_s, tyU_l, tyU_t, rngOk_i, zipU_map, intsU_map, blsU_map, oAll_l, cutU_1, cutU_m1, drop_map, reverse_map, length_map', dropLast_map, oEq_i, oNe_i, oEq_b, oNe_b, oEq_nn, oNe_nn, oEq_pp, oNe_pp, oEq_ii, oNe_ii, mCallL_m, lendM_ok, lendM_ex, lendA_some, lendR_b, lendR_i, lendR_n, lendR_ex, resolveL_nil, resolveL_v, resolveL_c, resC_c, List.zip_cons_cons, List.zip_nil_left, oEqS_s, oNeS_s, mCallF_m, oMul_s, oIsN_i, oIsN_b, oIsN_t, oPowX_i, mMakeS_m, mMakeL_m, mFld_m, mProp_m, mnSeq_m, mnS_m, mnF_m, at0_e, allX_const, seqU_l, seqU_f, seqU_t, msWhile_m, mCallK_m, pm_nil, pm_cons, List.mem_singleton, and_self, resC_d, scV_b, scV_i, scV_s, scV_n, Option.isSome_some, tyU_d, mgTup_2, mgTup_3, mgTup_4, or_false, false_or, or_self, or_true, true_or, Nat.reduceBEq, bindEA_ok, bindEA_ex, mLstL_m, unown, kills, cellAt, List.map_cons, List.map_nil, List.length_cons, List.length_nil, List.cons_append, List.nil_append, List.replicate, List.getElem?_cons_succ, List.getElem?_cons_zero, List.set_cons_zero, List.set_cons_succ, Option.map_some, Option.map_none, Option.bind_some, Option.bind_none, Nat.reduceAdd, Nat.reduceSub, Nat.reduceLeDiff, Int.reduceLT, Int.reduceLE, Int.reduceNeg, Int.reduceToNat, Int.reducePow, decide_eq_true_eq, reduceIte, eq_self, ite_true, ite_false, Bool.false_eq_true, reduceCtorEq, resolve, celJ, nCel, Slot.isC, List.filter, putJ, callM, callMF, List.append_eq, Nat.reduceLT, Int.reduceMul, Int.reduceAdd, Int.reduceSub, ne_eq, not_true_eq_false, not_false_eq_true, Bool.not_false, Bool.not_true, decide_true, decide_false, frF, Int.cast_ofNat_Int, Bool.and_true, Bool.true_and, Bool.false_and, Bool.and_false, Bool.or_false, Bool.false_or, Bool.true_or, Bool.or_true, mSplit_m, mJoin_m, mFmt_m, mJs_m, mjNil_m, mjCons_m, miStr_m, miEnumF_m, msStar_m, msMatch_m])
local macro_rules | `(tactic| ac_rfl) => `(tactic| (simp -implicitDefEqProofs (disch := omega) only [*, mC_m, mVar_m, mLook_m, mLet_m, mSc_m, mNil_m, msNil_m, msSeq_m, msAsgF_m, msDrop_m, msRet_m, msRetF_m, msRetC_m, msRaise_m, msFor_m, mtYes_m, mLc_m, mcNil_m, mcCel_m, mCall_m, moNone_m, moSome_m, mSlL_m, mBi_m, mBiF_m, miList_m, miRng1_m, miEnum_m, miZip_m, mMeth_m, mMeth0_m, msSet_m, mCat_m, mChain_m, mIsi_m, mListRng_m, mCallF_m, msParVV_m, msParFV_m, mMethD_m, mCMeth_m, mConC_m, okE_some, okE_none, opE_ok, opE_ex, opF_ok, opF_ex, mOp_e, mIx_e, unE_ok, mUn_e, coE_ok, coE_ex, coF_ok, coF_ex, mCons_e, bindAE_ok, bindAE_ex, mTup_e, tupF_e, mFr_e, lstF_ok, mLst_e, tsE_ok, tsE_ex, mTest_e, okT_some, truE_ok, truE_ex, mTru_e, anE_t, anE_f, anE_ok, orE_t, orE_f, orE_ok, mAnd_e, mOr_e, noE_ok, noE_ex, mNot_e, blV_ok, blV_ex, anV_t, anV_f, anV_ok, mAndV_e, noV_ok, noV_ex, mNotV_e, ifV_t, ifV_f, ifV_ok, mIf_e, ifS_t, ifS_f, ifS_ok, ifS_ex, msIf_e, nxO_some, asE_ok, asE_ex, msAsg_e, gcE_some, mgCons_e, mgNil_e, mgTup_e, mgName_e, cvE_ok, cvE_ex, consC_ok, mcVal_e, thenS_nx, thenS_bk, thenS_ct, thenS_rt, thenS_ex, bindES_ok, bindES_ex, bindAS_ok, bindAS_ex, bindE_ok, bindE_ex, mfOf_e, mfOf0_e, noX_val, noX_cel, coM_some, fin_val, fin_cel, fin_nx, fin_ex, oAdd_i, oSub_i, oMul_l, oMul_r, oMod_i, oDiv_i, oPow_i, oLt_i, oLe_i, oGt_i, oGe_i, oIx_l, oIx_f, oIx_t, at1_0, at2_0, at2_1, at3_0, at3_1, at3_2, at4_0, at4_1, at4_2, at4_3, ix3_0, ix3_1, ix3_2, oIsN_non, oNotN_non, oNotN_lst, oIsN_lst, oMax2_i, oMin2_i, oAbs_i, oLen_l, oLen_f, oLen_t, oNeg_i, truU_i, truU_l, truU_b, truU_n, lstU_l, lstU_f, oAppend_u, lstF_0, tupF_0, lstF_1, tupF_1, lstF_2, tupF_2, lstF_3, tupF_3, lstF_4, tupF_4, lstF_5, tupF_5, lstF_6, tupF_6, isi_NoneType_bool, isi_NoneType_int, isi_NoneType_str, isi_NoneType_list, isi_NoneType_tuple, isi_NoneType_dict, isi_bool_bool, isi_bool_int, isi_bool_str, isi_bool_list, isi_bool_tuple, isi_bool_dict, isi_int_bool, isi_int_int, isi_int_str, isi_int_list, isi_int_tuple, isi_int_dict, isi_str_bool, isi_str_int, isi_str_str, isi_str_list, isi_str_tuple, isi_str_dict, isi_list_bool, isi_list_int, isi_list_str, isi_list_list, isi_list_tuple, isi_list_dict, isi_tuple_bool, isi_tuple_int, isi_tuple_str, isi_tuple_list, isi_tuple_tuple, isi_tuple_dict, isi_dict_bool, isi_dict_int, isi_dict_str, isi_dict_list, isi_dict_tuple, isi_dict_dict, tyU_n, tyU_b, tyU_i, tyU_s, tyU_l, tyU_t, rngOk_i, zipU_map, intsU_map, blsU_map, oAll_l, cutU_1, cutU_m1, drop_map, reverse_map, length_map', dropLast_map, oEq_i, oNe_i, oEq_b, oNe_b, oEq_nn, oNe_nn, oEq_pp, oNe_pp, oEq_ii, oNe_ii, mCallL_m, lendM_ok, lendM_ex, lendA_some, lendR_b, lendR_i, lendR_n, lendR_ex, resolveL_nil, resolveL_v, resolveL_c, resC_c, List.zip_cons_cons, List.zip_nil_left, oEqS_s, oNeS_s, mCallF_m, oMul_s, oIsN_i, oIsN_b, oIsN_t, oPowX_i, mMakeS_m, mMakeL_m, mFld_m, mProp_m, mnSeq_m, mnS_m, mnF_m, at0_e, allX_const, seqU_l, seqU_f, seqU_t, msWhile_m, mCallK_m, pm_nil, pm_cons, List.mem_singleton, and_self, resC_d, scV_b, scV_i, scV_s, scV_n, Option.isSome_some, tyU_d, mgTup_2, mgTup_3, mgTup_4, or_false, false_or, or_self, or_true, true_or, Nat.reduceBEq, bindEA_ok, bindEA_ex, mLstL_m, unown, kills, cellAt, List.map_cons, List.map_nil, List.length_cons, List.length_nil, List.cons_append, List.nil_append, List.replicate, List.getElem?_cons_succ, List.getElem?_cons_zero, List.set_cons_zero, List.set_cons_succ, Option.map_some, Option.map_none, Option.bind_some, Option.bind_none, Nat.reduceAdd, Nat.reduceSub, Nat.reduceLeDiff, Int.reduceLT, Int.reduceLE, Int.reduceNeg, Int.reduceToNat, Int.reducePow, decide_eq_true_eq, reduceIte, eq_self, ite_true, ite_false, Bool.false_eq_true, reduceCtorEq, resolve, celJ, nCel, Slot.isC, List.filter, putJ, callM, callMF, List.append_eq, Nat.reduceLT, Int.reduceMul, Int.reduceAdd, Int.reduceSub, ne_eq, not_true_eq_false, not_false_eq_true, Bool.not_false, Bool.not_true, decide_true, decide_false, frF, Int.cast_ofNat_Int, Bool.and_true, Bool.true_and, Bool.false_and, Bool.and_false, Bool.or_false, Bool.false_or, Bool.true_or, Bool.or_true, G__law_runs_0, G__law_scale_0, T__law_scale_1, E__law_scale_2, G_number_in_0, T_number_in_1, E_number_in_2, G_are_values_0, T_are_values_1, E_are_values_2, G_are_values_3, T_are_values_4, E_are_values_5, G_read_system_0, G_write_system_0, T_write_system_1, E_write_system_2, G_common_divisor_2, G__law_system_right_0, T__law_system_right_1, E__law_system_right_2, G_read_word_0, G_write_word_0, T_write_word_1, E_write_word_2, G__law_text_0, T__law_text_1, E__law_text_2, G_law_0, G_law_2, G_law_4, T_law_5, E_law_6, G_law_7, T_law_8, E_law_9, mSplit_m, mJoin_m, mFmt_m, mJs_m, mjNil_m, mjCons_m, miStr_m, miEnumF_m, msStar_m, msMatch_m]; try rfl))
theorem dig_all (s : Str) (m : Int) (hl : s.length ≤ 16777216) : lcM (G_number_in_0 K).m (T_number_in_1 K).m (E_number_in_2 K).m [2] (signsU s) [] [.val (.str s), .val (.int m), .non] = some (.ok (s.cps.toList.map fun c => U.bl (dig c)) [.val (.str s), .val (.int m), .non]) := by
  refine lcM_all (g := (G_number_in_0 K).m) (tt := (T_number_in_1 K).m) (e := (E_number_in_2 K).m) (vs := [2]) (ρ := [.val (.str s), .val (.int m), .non]) (fun c => U.str ⟨#[c]⟩) (fun c => U.bl (dig c)) s.cps.toList (by rw [← len_tl']; exact hl) (fun c hc => ?_)
  have e := oInS_d (K := K) c digsT
  rw [show decide (c ∈ digsT.cps.toList) = dig c from rfl] at e
  clear hc hl
  exact ⟨_, _, _, (by ac_rfl), (by ac_rfl), (by ac_rfl), rfl⟩
theorem number_in_k (s : Str) (m : Nat) (hm : m ≤ 640) (hl : s.length ≤ 16777216) : mf_number_in K [.val (.str s), .val (.int m)] = some (.val (optI (numP s.cps.toList m)) none) := by
  have el := oLen_s (K := K) s hl
  have hlen := len_tl' s
  by_cases h1 : 1 ≤ s.length
  · have d1 : decide ((1 : Int) ≤ (s.length : Nat)) = true := decide_eq_true (by omega)
    by_cases h2 : s.length ≤ m
    · have d2 : decide (((s.length : Nat) : Int) ≤ (m : Int)) = true := decide_eq_true (by omega)
      cases hs : s.cps.toList with
      | nil => rw [hs] at hlen; simp at hlen; omega
      | cons c r =>
        have e0 := oIxS_0 (K := K) s c r hs hl
        have ez := zero_iff c
        by_cases hz : c = 48
        · have en : numP (c :: r) m = none := by unfold numP; rw [if_neg (by rw [hz]; simp)]
          rw [en]
          rw [decide_eq_true hz] at ez
          clear hs hlen h1 h2 hl hm hz en
          unfold mf_number_in M_number_in optI
          trivial
        · rw [decide_eq_false hz] at ez
          have lc := dig_all (K := K) s m hl
          have ea := all_map (K := K) dig s.cps.toList
          rw [hs] at lc ea
          cases hd : (c :: r).all dig with
          | false =>
            have en : numP (c :: r) m = none := by unfold numP; rw [if_neg (by rw [hd]; simp)]
            rw [en]
            rw [hd] at ea
            generalize (c :: r).map (fun c => U.bl (dig c)) = bs at *
            clear hs hlen h1 h2 hl hm hz en hd
            unfold mf_number_in M_number_in optI
            trivial
          | true =>
            have en : numP (c :: r) m = some ((NumText.digitsVal (c :: r) : Nat) : Int) := by unfold numP; rw [if_pos ⟨by simp, by rw [← hs, ← hlen]; exact h2, by simpa using hz, hd⟩]
            have ei : PySem.intText? s = some ((NumText.digitsVal (c :: r) : Nat) : Int) := by
              rw [← hs]
              refine PySem.intText_digits ?_ (by rw [hs]; simp) (by omega)
              rw [hs]
              exact fun x hx => (dig_iff x).mp (List.all_eq_true.mp hd x hx)
            have eI := oIntS_e (K := K) s _ (by omega) ei
            rw [en]
            rw [hd] at ea
            generalize (c :: r).map (fun c => U.bl (dig c)) = bs at *
            generalize ((NumText.digitsVal (c :: r) : Nat) : Int) = N at *
            clear hs hlen h1 h2 hl hm hz en hd ei
            unfold mf_number_in M_number_in optI
            trivial
    · have d2 : decide (((s.length : Nat) : Int) ≤ (m : Int)) = false := decide_eq_false (by omega)
      have en : numP s.cps.toList m = none := by unfold numP; rw [if_neg (by rw [← hlen]; omega)]
      rw [en]
      clear hlen h1 h2 hl hm en
      unfold mf_number_in M_number_in optI
      trivial
  · have d1 : decide ((1 : Int) ≤ (s.length : Nat)) = false := decide_eq_false (by omega)
    have en : numP s.cps.toList m = none := by unfold numP; rw [if_neg (by rw [← hlen]; omega)]
    rw [en]
    clear hlen h1 hl hm en
    unfold mf_number_in M_number_in optI
    trivial
theorem str60_len : (oStrI (K := K)).f [.int 60] = some (.str "60") := by
  rw [oStrI_i 60 (by unfold Big; omega)]
  rfl
theorem len60 : (oLen (K := K)).f [.str "60"] = some (.int 2) := rfl
theorem sign_in_k (s : Str) (hl : s.length ≤ 16777216) : mf_sign_in K [.val (.str s)] = some (.val (optI (signP s.cps.toList)) none) := by
  have e := number_in_k (K := K) s 2 (by decide) hl
  have e1 := str60_len (K := K)
  have e2 := len60 (K := K)
  rw [show (((2 : Nat) : Int)) = 2 from rfl] at e
  unfold signP
  cases hn : numP s.cps.toList 2 with
  | none =>
    rw [hn] at e
    rw [Option.bind_none]
    unfold optI at *
    clear hn hl
    unfold mf_sign_in M_sign_in
    trivial
  | some n =>
    rw [hn] at e
    rw [Option.bind_some]
    have e3 := oNotN_i (K := K) n
    by_cases h : n ≤ 60
    · rw [if_pos h]
      have d := decide_eq_true h
      unfold optI at *
      clear hn hl h
      unfold mf_sign_in M_sign_in
      trivial
    · rw [if_neg h]
      have d := decide_eq_false h
      unfold optI at *
      clear hn hl h
      unfold mf_sign_in M_sign_in
      trivial
end Sg
set_option Elab.async false
set_option linter.all false
set_option maxRecDepth 100000
set_option maxHeartbeats 1000000
namespace Sg
open PySem L2
variable {K : PySem.W.Frag}
local macro_rules | `(tactic| trivial) => `(tactic| simp -implicitDefEqProofs (disch := omega) only [*, mC_m, mVar_m, mLook_m, mLet_m, mSc_m, mNil_m, msNil_m, msSeq_m, msAsgF_m, msDrop_m, msRet_m, msRetF_m, msRetC_m, msRaise_m, msFor_m, mtYes_m, mLc_m, mcNil_m, mcCel_m, mCall_m, moNone_m, moSome_m, mSlL_m, mBi_m, mBiF_m, miList_m, miRng1_m, miEnum_m, miZip_m, mMeth_m, mMeth0_m, msSet_m, mCat_m, mChain_m, mIsi_m, mListRng_m, mCallF_m, msParVV_m, msParFV_m, mMethD_m, mCMeth_m, mConC_m, okE_some, okE_none, opE_ok, opE_ex, opF_ok, opF_ex, mOp_e, mIx_e, unE_ok, mUn_e, coE_ok, coE_ex, coF_ok, coF_ex, mCons_e, bindAE_ok, bindAE_ex, mTup_e, tupF_e, mFr_e, lstF_ok, mLst_e, tsE_ok, tsE_ex, mTest_e, okT_some, truE_ok, truE_ex, mTru_e, anE_t, anE_f, anE_ok, orE_t, orE_f, orE_ok, mAnd_e, mOr_e, noE_ok, noE_ex, mNot_e, blV_ok, blV_ex, anV_t, anV_f, anV_ok, mAndV_e, noV_ok, noV_ex, mNotV_e, ifV_t, ifV_f, ifV_ok, mIf_e, ifS_t, ifS_f, ifS_ok, ifS_ex, msIf_e, nxO_some, asE_ok, asE_ex, msAsg_e, gcE_some, mgCons_e, mgNil_e, mgTup_e, mgName_e, cvE_ok, cvE_ex, consC_ok, mcVal_e, thenS_nx, thenS_bk, thenS_ct, thenS_rt, thenS_ex, bindES_ok, bindES_ex, bindAS_ok, bindAS_ex, bindE_ok, bindE_ex, mfOf_e, mfOf0_e, noX_val, noX_cel, coM_some, fin_val, fin_cel, fin_nx, fin_ex, oAdd_i, oSub_i, oMul_l, oMul_r, oMod_i, oDiv_i, oPow_i, oLt_i, oLe_i, oGt_i, oGe_i, oIx_l, oIx_f, oIx_t, at1_0, at2_0, at2_1, at3_0, at3_1, at3_2, at4_0, at4_1, at4_2, at4_3, ix3_0, ix3_1, ix3_2, oIsN_non, oNotN_non, oNotN_lst, oIsN_lst, oMax2_i, oMin2_i, oAbs_i, oLen_l, oLen_f, oLen_t, oNeg_i, truU_i, truU_l, truU_b, truU_n, lstU_l, lstU_f, oAppend_u, lstF_0, tupF_0, lstF_1, tupF_1, lstF_2, tupF_2, lstF_3, tupF_3, lstF_4, tupF_4, lstF_5, tupF_5, lstF_6, tupF_6, isi_NoneType_bool, isi_NoneType_int, isi_NoneType_str, isi_NoneType_list, isi_NoneType_tuple, isi_NoneType_dict, isi_bool_bool, isi_bool_int, isi_bool_str, isi_bool_list, isi_bool_tuple, isi_bool_dict, isi_int_bool, isi_int_int, isi_int_str, isi_int_list, isi_int_tuple, isi_int_dict, isi_str_bool, isi_str_int, isi_str_str, isi_str_list, isi_str_tuple, isi_str_dict, isi_list_bool, isi_list_int, isi_list_str, isi_list_list, isi_list_tuple, isi_list_dict, isi_tuple_bool, isi_tuple_int, isi_tuple_str, isi_tuple_list, isi_tuple_tuple, isi_tuple_dict, isi_dict_bool, isi_dict_int, isi_dict_str, isi_dict_list, isi_dict_tuple, isi_dict_dict, tyU_n, tyU_b, tyU_i, tyU_s, tyU_l, tyU_t, rngOk_i, zipU_map, intsU_map, blsU_map, oAll_l, cutU_1, cutU_m1, drop_map, reverse_map, length_map', dropLast_map, oEq_i, oNe_i, oEq_b, oNe_b, oEq_nn, oNe_nn, oEq_pp, oNe_pp, oEq_ii, oNe_ii, mCallL_m, lendM_ok, lendM_ex, lendA_some, lendR_b, lendR_i, lendR_n, lendR_ex, resolveL_nil, resolveL_v, resolveL_c, resC_c, List.zip_cons_cons, List.zip_nil_left, oEqS_s, oNeS_s, mCallF_m, oMul_s, oIsN_i, oIsN_b, oIsN_t, oPowX_i, mMakeS_m, mMakeL_m, mFld_m, mProp_m, mnSeq_m, mnS_m, mnF_m, at0_e, allX_const, seqU_l, seqU_f, seqU_t, msWhile_m, mCallK_m, pm_nil, pm_cons, List.mem_singleton, and_self, resC_d, scV_b, scV_i, scV_s, scV_n, Option.isSome_some, tyU_d, mgTup_2, mgTup_3, mgTup_4, or_false, false_or, or_self, or_true, true_or, Nat.reduceBEq, bindEA_ok, bindEA_ex, mLstL_m, unown, kills, cellAt, List.map_cons, List.map_nil, List.length_cons, List.length_nil, List.cons_append, List.nil_append, List.replicate, List.getElem?_cons_succ, List.getElem?_cons_zero, List.set_cons_zero, List.set_cons_succ, Option.map_some, Option.map_none, Option.bind_some, Option.bind_none, Nat.reduceAdd, Nat.reduceSub, Nat.reduceLeDiff, Int.reduceLT, Int.reduceLE, Int.reduceNeg, Int.reduceToNat, Int.reducePow, decide_eq_true_eq, reduceIte, eq_self, ite_true, ite_false, Bool.false_eq_true, reduceCtorEq, resolve, celJ, nCel, Slot.isC, List.filter, putJ, callM, callMF, List.append_eq, Nat.reduceLT, Int.reduceMul, Int.reduceAdd, Int.reduceSub, ne_eq, not_true_eq_false, not_false_eq_true, Bool.not_false, Bool.not_true, decide_true, decide_false, frF, Int.cast_ofNat_Int, Bool.and_true, Bool.true_and, Bool.false_and, Bool.and_false, Bool.or_false, Bool.false_or, Bool.true_or, Bool.or_true, mSplit_m, mJoin_m, mFmt_m, mJs_m, mjNil_m, mjCons_m, miStr_m, miEnumF_m, msStar_m, msMatch_m])
local macro_rules | `(tactic| ac_rfl) => `(tactic| (simp -implicitDefEqProofs (disch := omega) only [*, mC_m, mVar_m, mLook_m, mLet_m, mSc_m, mNil_m, msNil_m, msSeq_m, msAsgF_m, msDrop_m, msRet_m, msRetF_m, msRetC_m, msRaise_m, msFor_m, mtYes_m, mLc_m, mcNil_m, mcCel_m, mCall_m, moNone_m, moSome_m, mSlL_m, mBi_m, mBiF_m, miList_m, miRng1_m, miEnum_m, miZip_m, mMeth_m, mMeth0_m, msSet_m, mCat_m, mChain_m, mIsi_m, mListRng_m, mCallF_m, msParVV_m, msParFV_m, mMethD_m, mCMeth_m, mConC_m, okE_some, okE_none, opE_ok, opE_ex, opF_ok, opF_ex, mOp_e, mIx_e, unE_ok, mUn_e, coE_ok, coE_ex, coF_ok, coF_ex, mCons_e, bindAE_ok, bindAE_ex, mTup_e, tupF_e, mFr_e, lstF_ok, mLst_e, tsE_ok, tsE_ex, mTest_e, okT_some, truE_ok, truE_ex, mTru_e, anE_t, anE_f, anE_ok, orE_t, orE_f, orE_ok, mAnd_e, mOr_e, noE_ok, noE_ex, mNot_e, blV_ok, blV_ex, anV_t, anV_f, anV_ok, mAndV_e, noV_ok, noV_ex, mNotV_e, ifV_t, ifV_f, ifV_ok, mIf_e, ifS_t, ifS_f, ifS_ok, ifS_ex, msIf_e, nxO_some, asE_ok, asE_ex, msAsg_e, gcE_some, mgCons_e, mgNil_e, mgTup_e, mgName_e, cvE_ok, cvE_ex, consC_ok, mcVal_e, thenS_nx, thenS_bk, thenS_ct, thenS_rt, thenS_ex, bindES_ok, bindES_ex, bindAS_ok, bindAS_ex, bindE_ok, bindE_ex, mfOf_e, mfOf0_e, noX_val, noX_cel, coM_some, fin_val, fin_cel, fin_nx, fin_ex, oAdd_i, oSub_i, oMul_l, oMul_r, oMod_i, oDiv_i, oPow_i, oLt_i, oLe_i, oGt_i, oGe_i, oIx_l, oIx_f, oIx_t, at1_0, at2_0, at2_1, at3_0, at3_1, at3_2, at4_0, at4_1, at4_2, at4_3, ix3_0, ix3_1, ix3_2, oIsN_non, oNotN_non, oNotN_lst, oIsN_lst, oMax2_i, oMin2_i, oAbs_i, oLen_l, oLen_f, oLen_t, oNeg_i, truU_i, truU_l, truU_b, truU_n, lstU_l, lstU_f, oAppend_u, lstF_0, tupF_0, lstF_1, tupF_1, lstF_2, tupF_2, lstF_3, tupF_3, lstF_4, tupF_4, lstF_5, tupF_5, lstF_6, tupF_6, isi_NoneType_bool, isi_NoneType_int, isi_NoneType_str, isi_NoneType_list, isi_NoneType_tuple, isi_NoneType_dict, isi_bool_bool, isi_bool_int, isi_bool_str, isi_bool_list, isi_bool_tuple, isi_bool_dict, isi_int_bool, isi_int_int, isi_int_str, isi_int_list, isi_int_tuple, isi_int_dict, isi_str_bool, isi_str_int, isi_str_str, isi_str_list, isi_str_tuple, isi_str_dict, isi_list_bool, isi_list_int, isi_list_str, isi_list_list, isi_list_tuple, isi_list_dict, isi_tuple_bool, isi_tuple_int, isi_tuple_str, isi_tuple_list, isi_tuple_tuple, isi_tuple_dict, isi_dict_bool, isi_dict_int, isi_dict_str, isi_dict_list, isi_dict_tuple, isi_dict_dict, tyU_n, tyU_b, tyU_i, tyU_s, tyU_l, tyU_t, rngOk_i, zipU_map, intsU_map, blsU_map, oAll_l, cutU_1, cutU_m1, drop_map, reverse_map, length_map', dropLast_map, oEq_i, oNe_i, oEq_b, oNe_b, oEq_nn, oNe_nn, oEq_pp, oNe_pp, oEq_ii, oNe_ii, mCallL_m, lendM_ok, lendM_ex, lendA_some, lendR_b, lendR_i, lendR_n, lendR_ex, resolveL_nil, resolveL_v, resolveL_c, resC_c, List.zip_cons_cons, List.zip_nil_left, oEqS_s, oNeS_s, mCallF_m, oMul_s, oIsN_i, oIsN_b, oIsN_t, oPowX_i, mMakeS_m, mMakeL_m, mFld_m, mProp_m, mnSeq_m, mnS_m, mnF_m, at0_e, allX_const, seqU_l, seqU_f, seqU_t, msWhile_m, mCallK_m, pm_nil, pm_cons, List.mem_singleton, and_self, resC_d, scV_b, scV_i, scV_s, scV_n, Option.isSome_some, tyU_d, mgTup_2, mgTup_3, mgTup_4, or_false, false_or, or_self, or_true, true_or, Nat.reduceBEq, bindEA_ok, bindEA_ex, mLstL_m, unown, kills, cellAt, List.map_cons, List.map_nil, List.length_cons, List.length_nil, List.cons_append, List.nil_append, List.replicate, List.getElem?_cons_succ, List.getElem?_cons_zero, List.set_cons_zero, List.set_cons_succ, Option.map_some, Option.map_none, Option.bind_some, Option.bind_none, Nat.reduceAdd, Nat.reduceSub, Nat.reduceLeDiff, Int.reduceLT, Int.reduceLE, Int.reduceNeg, Int.reduceToNat, Int.reducePow, decide_eq_true_eq, reduceIte, eq_self, ite_true, ite_false, Bool.false_eq_true, reduceCtorEq, resolve, celJ, nCel, Slot.isC, List.filter, putJ, callM, callMF, List.append_eq, Nat.reduceLT, Int.reduceMul, Int.reduceAdd, Int.reduceSub, ne_eq, not_true_eq_false, not_false_eq_true, Bool.not_false, Bool.not_true, decide_true, decide_false, frF, Int.cast_ofNat_Int, Bool.and_true, Bool.true_and, Bool.false_and, Bool.and_false, Bool.or_false, Bool.false_or, Bool.true_or, Bool.or_true, G__law_runs_0, G__law_scale_0, T__law_scale_1, E__law_scale_2, G_number_in_0, T_number_in_1, E_number_in_2, G_are_values_0, T_are_values_1, E_are_values_2, G_are_values_3, T_are_values_4, E_are_values_5, G_read_system_0, G_write_system_0, T_write_system_1, E_write_system_2, G_common_divisor_2, G__law_system_right_0, T__law_system_right_1, E__law_system_right_2, G_read_word_0, G_write_word_0, T_write_word_1, E_write_word_2, G__law_text_0, T__law_text_1, E__law_text_2, G_law_0, G_law_2, G_law_4, T_law_5, E_law_6, G_law_7, T_law_8, E_law_9, mSplit_m, mJoin_m, mFmt_m, mJs_m, mjNil_m, mjCons_m, miStr_m, miEnumF_m, msStar_m, msMatch_m]; try rfl))
theorem spl_len (S : List Nat) : ∀ (l : List Nat) (k : Nat) (acc : List Nat), ∀ p ∈ TL.spl S k acc l, p.length ≤ acc.length + l.length
  | [], k, acc, p, hp => by
    rw [TL.spl_nil] at hp
    rw [List.mem_singleton.mp hp]
    simp
  | c :: r, 0, acc, p, hp => by
    unfold TL.spl at hp
    split at hp
    · rcases List.mem_cons.mp hp with rfl | h
      · simp
      · have := spl_len S r _ _ p h
        simp at this ⊢
        omega
    · have := spl_len S r _ _ p hp
      simp at this ⊢
      omega
  | c :: r, k + 1, acc, p, hp => by
    unfold TL.spl at hp
    have := spl_len S r _ _ p hp
    simp at this ⊢
    omega
theorem part_len {s y : Str} {c : Nat} (ey : TL.tl y = [c]) (hk : y.cps.all (· < 256) = true) : ∀ p ∈ Txt.split s y, p.length ≤ s.length := fun p hp => by
  have e := TL.split_spl s y (by rw [ey]; simp) (TL.kind_ok hk)
  have hm : TL.tl p ∈ (Txt.split s y).map TL.tl := List.mem_map.mpr ⟨p, hp, rfl⟩
  rw [e] at hm
  have := spl_len _ _ _ _ _ hm
  rw [TL.len_tl, TL.len_tl]
  simpa using this
def runO : Option (Int × Int) → U
  | some p => pU p
  | none => .non
theorem nin_ii (v c : Int) : (oIn (K := K) true).f .non (.tup [.int v, .int c]) = some (.bl true) := rfl
theorem nin_nn : (oIn (K := K) true).f .non (.tup [.non, .non]) = some (.bl false) := rfl
theorem nin_ni (c : Int) : (oIn (K := K) true).f .non (.tup [.non, .int c]) = some (.bl false) := rfl
theorem nin_in (c : Int) : (oIn (K := K) true).f .non (.tup [.int c, .non]) = some (.bl false) := rfl
theorem run_in_k (s : Str) (hl : s.length ≤ 16777214) : mf_run_in K [.val (.str s)] = some (.val (runO (runP s)) none) := by
  have hp := part_len (s := s) star_tl kind_star
  have i1 := nin_nn (K := K)
  unfold runP
  obtain ⟨ps, hps⟩ : ∃ ps, Txt.split s "*" = ps := ⟨_, rfl⟩
  rw [hps] at hp ⊢
  rcases ps with _ | ⟨a, _ | ⟨b, _ | ⟨c, r⟩⟩⟩
  · unfold runL runO
    unfold mf_run_in M_run_in
    trivial
  · have e1 := sign_in_k (K := K) a (by have := hp a (by simp); omega)
    show _ = some (CO.val (runO ((signP (TL.tl a)).map fun v => (v, 1))) none)
    cases h : signP (TL.tl a) with
    | none =>
      have e1' : mf_sign_in K [.val (.str a)] = some (.val .non none) := by rw [e1]; show some (CO.val (optI (signP (TL.tl a))) none) = _; rw [h]; rfl
      have i2 := nin_ni (K := K) 1
      clear e1 hp h
      unfold Option.map runO
      unfold mf_run_in M_run_in
      trivial
    | some v =>
      have e1' : mf_sign_in K [.val (.str a)] = some (.val (.int v) none) := by rw [e1]; show some (CO.val (optI (signP (TL.tl a))) none) = _; rw [h]; rfl
      have i2 := nin_ii (K := K) v 1
      clear e1 hp h
      unfold Option.map runO
      unfold mf_run_in M_run_in
      trivial
  · have e1 := sign_in_k (K := K) a (by have := hp a (by simp); omega)
    have e2 := number_in_k (K := K) b 60 (by omega) (by have := hp b (by simp); omega)
    rw [show ((60 : Nat) : Int) = 60 from rfl] at e2
    show _ = some (CO.val (runO ((signP (TL.tl a)).bind fun v => (numP (TL.tl b) 60).bind fun c => if c = 1 then none else some (v, c))) none)
    have n1 := oNe_n1 (K := K)
    cases h : signP (TL.tl a) with
    | none =>
      have e1' : mf_sign_in K [.val (.str a)] = some (.val .non none) := by rw [e1]; show some (CO.val (optI (signP (TL.tl a))) none) = _; rw [h]; rfl
      rw [Option.bind_none]
      cases h2 : numP (TL.tl b) 60 with
      | none =>
        have e2' : mf_number_in K [.val (.str b), .val (.int 60)] = some (.val .non none) := by rw [e2]; show some (CO.val (optI (numP (TL.tl b) 60)) none) = _; rw [h2]; rfl
        clear e1 e2 hp h h2
        unfold runO
        unfold mf_run_in M_run_in
        trivial
      | some c =>
        have e2' : mf_number_in K [.val (.str b), .val (.int 60)] = some (.val (.int c) none) := by rw [e2]; show some (CO.val (optI (numP (TL.tl b) 60)) none) = _; rw [h2]; rfl
        have n2 := oNe_11 (K := K) c
        have i2 := nin_ni (K := K) 1
        have i3 := nin_ni (K := K) c
        clear e1 e2 hp h h2
        by_cases hc : c = 1
        · rw [decide_eq_true hc] at n2
          clear hc
          unfold runO
          unfold mf_run_in M_run_in
          trivial
        · rw [decide_eq_false hc] at n2
          clear hc
          unfold runO
          unfold mf_run_in M_run_in
          trivial
    | some v =>
      have e1' : mf_sign_in K [.val (.str a)] = some (.val (.int v) none) := by rw [e1]; show some (CO.val (optI (signP (TL.tl a))) none) = _; rw [h]; rfl
      rw [Option.bind_some]
      cases h2 : numP (TL.tl b) 60 with
      | none =>
        have e2' : mf_number_in K [.val (.str b), .val (.int 60)] = some (.val .non none) := by rw [e2]; show some (CO.val (optI (numP (TL.tl b) 60)) none) = _; rw [h2]; rfl
        rw [Option.bind_none]
        have i2 := nin_in (K := K) v
        clear e1 e2 hp h h2
        unfold runO
        unfold mf_run_in M_run_in
        trivial
      | some c =>
        have e2' : mf_number_in K [.val (.str b), .val (.int 60)] = some (.val (.int c) none) := by rw [e2]; show some (CO.val (optI (numP (TL.tl b) 60)) none) = _; rw [h2]; rfl
        rw [Option.bind_some]
        have n2 := oNe_11 (K := K) c
        have i2 := nin_ni (K := K) 1
        have i3 := nin_ii (K := K) v c
        clear e1 e2 hp h h2
        by_cases hc : c = 1
        · rw [decide_eq_true hc] at n2
          rw [if_pos hc]
          clear hc
          unfold runO
          unfold mf_run_in M_run_in
          trivial
        · rw [decide_eq_false hc] at n2
          rw [if_neg hc]
          clear hc
          unfold runO
          unfold mf_run_in M_run_in
          trivial
  · unfold runL runO
    unfold mf_run_in M_run_in
    trivial
end Sg
set_option Elab.async false
set_option linter.all false
set_option maxRecDepth 100000
set_option maxHeartbeats 1000000
namespace Sg
open PySem L2
variable {K : PySem.W.Frag}
local macro_rules | `(tactic| trivial) => `(tactic| simp -implicitDefEqProofs (disch := omega) only [*, mC_m, mVar_m, mLook_m, mLet_m, mSc_m, mNil_m, msNil_m, msSeq_m, msAsgF_m, msDrop_m, msRet_m, msRetF_m, msRetC_m, msRaise_m, msFor_m, mtYes_m, mLc_m, mcNil_m, mcCel_m, mCall_m, moNone_m, moSome_m, mSlL_m, mBi_m, mBiF_m, miList_m, miRng1_m, miEnum_m, miZip_m, mMeth_m, mMeth0_m, msSet_m, mCat_m, mChain_m, mIsi_m, mListRng_m, mCallF_m, msParVV_m, msParFV_m, mMethD_m, mCMeth_m, mConC_m, okE_some, okE_none, opE_ok, opE_ex, opF_ok, opF_ex, mOp_e, mIx_e, unE_ok, mUn_e, coE_ok, coE_ex, coF_ok, coF_ex, mCons_e, bindAE_ok, bindAE_ex, mTup_e, tupF_e, mFr_e, lstF_ok, mLst_e, tsE_ok, tsE_ex, mTest_e, okT_some, truE_ok, truE_ex, mTru_e, anE_t, anE_f, anE_ok, orE_t, orE_f, orE_ok, mAnd_e, mOr_e, noE_ok, noE_ex, mNot_e, blV_ok, blV_ex, anV_t, anV_f, anV_ok, mAndV_e, noV_ok, noV_ex, mNotV_e, ifV_t, ifV_f, ifV_ok, mIf_e, ifS_t, ifS_f, ifS_ok, ifS_ex, msIf_e, nxO_some, asE_ok, asE_ex, msAsg_e, gcE_some, mgCons_e, mgNil_e, mgTup_e, mgName_e, cvE_ok, cvE_ex, consC_ok, mcVal_e, thenS_nx, thenS_bk, thenS_ct, thenS_rt, thenS_ex, bindES_ok, bindES_ex, bindAS_ok, bindAS_ex, bindE_ok, bindE_ex, mfOf_e, mfOf0_e, noX_val, noX_cel, coM_some, fin_val, fin_cel, fin_nx, fin_ex, oAdd_i, oSub_i, oMul_l, oMul_r, oMod_i, oDiv_i, oPow_i, oLt_i, oLe_i, oGt_i, oGe_i, oIx_l, oIx_f, oIx_t, at1_0, at2_0, at2_1, at3_0, at3_1, at3_2, at4_0, at4_1, at4_2, at4_3, ix3_0, ix3_1, ix3_2, oIsN_non, oNotN_non, oNotN_lst, oIsN_lst, oMax2_i, oMin2_i, oAbs_i, oLen_l, oLen_f, oLen_t, oNeg_i, truU_i, truU_l, truU_b, truU_n, lstU_l, lstU_f, oAppend_u, lstF_0, tupF_0, lstF_1, tupF_1, lstF_2, tupF_2, lstF_3, tupF_3, lstF_4, tupF_4, lstF_5, tupF_5, lstF_6, tupF_6, isi_NoneType_bool, isi_NoneType_int, isi_NoneType_str, isi_NoneType_list, isi_NoneType_tuple, isi_NoneType_dict, isi_bool_bool, isi_bool_int, isi_bool_str, isi_bool_list, isi_bool_tuple, isi_bool_dict, isi_int_bool, isi_int_int, isi_int_str, isi_int_list, isi_int_tuple, isi_int_dict, isi_str_bool, isi_str_int, isi_str_str, isi_str_list, isi_str_tuple, isi_str_dict, isi_list_bool, isi_list_int, isi_list_str, isi_list_list, isi_list_tuple, isi_list_dict, isi_tuple_bool, isi_tuple_int, isi_tuple_str, isi_tuple_list, isi_tuple_tuple, isi_tuple_dict, isi_dict_bool, isi_dict_int, isi_dict_str, isi_dict_list, isi_dict_tuple, isi_dict_dict, tyU_n, tyU_b, tyU_i, tyU_s, tyU_l, tyU_t, rngOk_i, zipU_map, intsU_map, blsU_map, oAll_l, cutU_1, cutU_m1, drop_map, reverse_map, length_map', dropLast_map, oEq_i, oNe_i, oEq_b, oNe_b, oEq_nn, oNe_nn, oEq_pp, oNe_pp, oEq_ii, oNe_ii, mCallL_m, lendM_ok, lendM_ex, lendA_some, lendR_b, lendR_i, lendR_n, lendR_ex, resolveL_nil, resolveL_v, resolveL_c, resC_c, List.zip_cons_cons, List.zip_nil_left, oEqS_s, oNeS_s, mCallF_m, oMul_s, oIsN_i, oIsN_b, oIsN_t, oPowX_i, mMakeS_m, mMakeL_m, mFld_m, mProp_m, mnSeq_m, mnS_m, mnF_m, at0_e, allX_const, seqU_l, seqU_f, seqU_t, msWhile_m, mCallK_m, pm_nil, pm_cons, List.mem_singleton, and_self, resC_d, scV_b, scV_i, scV_s, scV_n, Option.isSome_some, tyU_d, mgTup_2, mgTup_3, mgTup_4, or_false, false_or, or_self, or_true, true_or, Nat.reduceBEq, bindEA_ok, bindEA_ex, mLstL_m, unown, kills, cellAt, List.map_cons, List.map_nil, List.length_cons, List.length_nil, List.cons_append, List.nil_append, List.replicate, List.getElem?_cons_succ, List.getElem?_cons_zero, List.set_cons_zero, List.set_cons_succ, Option.map_some, Option.map_none, Option.bind_some, Option.bind_none, Nat.reduceAdd, Nat.reduceSub, Nat.reduceLeDiff, Int.reduceLT, Int.reduceLE, Int.reduceNeg, Int.reduceToNat, Int.reducePow, decide_eq_true_eq, reduceIte, eq_self, ite_true, ite_false, Bool.false_eq_true, reduceCtorEq, resolve, celJ, nCel, Slot.isC, List.filter, putJ, callM, callMF, List.append_eq, Nat.reduceLT, Int.reduceMul, Int.reduceAdd, Int.reduceSub, ne_eq, not_true_eq_false, not_false_eq_true, Bool.not_false, Bool.not_true, decide_true, decide_false, frF, Int.cast_ofNat_Int, Bool.and_true, Bool.true_and, Bool.false_and, Bool.and_false, Bool.or_false, Bool.false_or, Bool.true_or, Bool.or_true, mSplit_m, mJoin_m, mFmt_m, mJs_m, mjNil_m, mjCons_m, miStr_m, miEnumF_m, msStar_m, msMatch_m, strsU_map])
local macro_rules | `(tactic| ac_rfl) => `(tactic| (simp -implicitDefEqProofs (disch := omega) only [*, mC_m, mVar_m, mLook_m, mLet_m, mSc_m, mNil_m, msNil_m, msSeq_m, msAsgF_m, msDrop_m, msRet_m, msRetF_m, msRetC_m, msRaise_m, msFor_m, mtYes_m, mLc_m, mcNil_m, mcCel_m, mCall_m, moNone_m, moSome_m, mSlL_m, mBi_m, mBiF_m, miList_m, miRng1_m, miEnum_m, miZip_m, mMeth_m, mMeth0_m, msSet_m, mCat_m, mChain_m, mIsi_m, mListRng_m, mCallF_m, msParVV_m, msParFV_m, mMethD_m, mCMeth_m, mConC_m, okE_some, okE_none, opE_ok, opE_ex, opF_ok, opF_ex, mOp_e, mIx_e, unE_ok, mUn_e, coE_ok, coE_ex, coF_ok, coF_ex, mCons_e, bindAE_ok, bindAE_ex, mTup_e, tupF_e, mFr_e, lstF_ok, mLst_e, tsE_ok, tsE_ex, mTest_e, okT_some, truE_ok, truE_ex, mTru_e, anE_t, anE_f, anE_ok, orE_t, orE_f, orE_ok, mAnd_e, mOr_e, noE_ok, noE_ex, mNot_e, blV_ok, blV_ex, anV_t, anV_f, anV_ok, mAndV_e, noV_ok, noV_ex, mNotV_e, ifV_t, ifV_f, ifV_ok, mIf_e, ifS_t, ifS_f, ifS_ok, ifS_ex, msIf_e, nxO_some, asE_ok, asE_ex, msAsg_e, gcE_some, mgCons_e, mgNil_e, mgTup_e, mgName_e, cvE_ok, cvE_ex, consC_ok, mcVal_e, thenS_nx, thenS_bk, thenS_ct, thenS_rt, thenS_ex, bindES_ok, bindES_ex, bindAS_ok, bindAS_ex, bindE_ok, bindE_ex, mfOf_e, mfOf0_e, noX_val, noX_cel, coM_some, fin_val, fin_cel, fin_nx, fin_ex, oAdd_i, oSub_i, oMul_l, oMul_r, oMod_i, oDiv_i, oPow_i, oLt_i, oLe_i, oGt_i, oGe_i, oIx_l, oIx_f, oIx_t, at1_0, at2_0, at2_1, at3_0, at3_1, at3_2, at4_0, at4_1, at4_2, at4_3, ix3_0, ix3_1, ix3_2, oIsN_non, oNotN_non, oNotN_lst, oIsN_lst, oMax2_i, oMin2_i, oAbs_i, oLen_l, oLen_f, oLen_t, oNeg_i, truU_i, truU_l, truU_b, truU_n, lstU_l, lstU_f, oAppend_u, lstF_0, tupF_0, lstF_1, tupF_1, lstF_2, tupF_2, lstF_3, tupF_3, lstF_4, tupF_4, lstF_5, tupF_5, lstF_6, tupF_6, isi_NoneType_bool, isi_NoneType_int, isi_NoneType_str, isi_NoneType_list, isi_NoneType_tuple, isi_NoneType_dict, isi_bool_bool, isi_bool_int, isi_bool_str, isi_bool_list, isi_bool_tuple, isi_bool_dict, isi_int_bool, isi_int_int, isi_int_str, isi_int_list, isi_int_tuple, isi_int_dict, isi_str_bool, isi_str_int, isi_str_str, isi_str_list, isi_str_tuple, isi_str_dict, isi_list_bool, isi_list_int, isi_list_str, isi_list_list, isi_list_tuple, isi_list_dict, isi_tuple_bool, isi_tuple_int, isi_tuple_str, isi_tuple_list, isi_tuple_tuple, isi_tuple_dict, isi_dict_bool, isi_dict_int, isi_dict_str, isi_dict_list, isi_dict_tuple, isi_dict_dict, tyU_n, tyU_b, tyU_i, tyU_s, tyU_l, tyU_t, rngOk_i, zipU_map, intsU_map, blsU_map, oAll_l, cutU_1, cutU_m1, drop_map, reverse_map, length_map', dropLast_map, oEq_i, oNe_i, oEq_b, oNe_b, oEq_nn, oNe_nn, oEq_pp, oNe_pp, oEq_ii, oNe_ii, mCallL_m, lendM_ok, lendM_ex, lendA_some, lendR_b, lendR_i, lendR_n, lendR_ex, resolveL_nil, resolveL_v, resolveL_c, resC_c, List.zip_cons_cons, List.zip_nil_left, oEqS_s, oNeS_s, mCallF_m, oMul_s, oIsN_i, oIsN_b, oIsN_t, oPowX_i, mMakeS_m, mMakeL_m, mFld_m, mProp_m, mnSeq_m, mnS_m, mnF_m, at0_e, allX_const, seqU_l, seqU_f, seqU_t, msWhile_m, mCallK_m, pm_nil, pm_cons, List.mem_singleton, and_self, resC_d, scV_b, scV_i, scV_s, scV_n, Option.isSome_some, tyU_d, mgTup_2, mgTup_3, mgTup_4, or_false, false_or, or_self, or_true, true_or, Nat.reduceBEq, bindEA_ok, bindEA_ex, mLstL_m, unown, kills, cellAt, List.map_cons, List.map_nil, List.length_cons, List.length_nil, List.cons_append, List.nil_append, List.replicate, List.getElem?_cons_succ, List.getElem?_cons_zero, List.set_cons_zero, List.set_cons_succ, Option.map_some, Option.map_none, Option.bind_some, Option.bind_none, Nat.reduceAdd, Nat.reduceSub, Nat.reduceLeDiff, Int.reduceLT, Int.reduceLE, Int.reduceNeg, Int.reduceToNat, Int.reducePow, decide_eq_true_eq, reduceIte, eq_self, ite_true, ite_false, Bool.false_eq_true, reduceCtorEq, resolve, celJ, nCel, Slot.isC, List.filter, putJ, callM, callMF, List.append_eq, Nat.reduceLT, Int.reduceMul, Int.reduceAdd, Int.reduceSub, ne_eq, not_true_eq_false, not_false_eq_true, Bool.not_false, Bool.not_true, decide_true, decide_false, frF, Int.cast_ofNat_Int, Bool.and_true, Bool.true_and, Bool.false_and, Bool.and_false, Bool.or_false, Bool.false_or, Bool.true_or, Bool.or_true, G__law_runs_0, G__law_scale_0, T__law_scale_1, E__law_scale_2, G_number_in_0, T_number_in_1, E_number_in_2, G_are_values_0, T_are_values_1, E_are_values_2, G_are_values_3, T_are_values_4, E_are_values_5, G_read_system_0, G_write_system_0, T_write_system_1, E_write_system_2, G_common_divisor_2, G__law_system_right_0, T__law_system_right_1, E__law_system_right_2, G_read_word_0, G_write_word_0, T_write_word_1, E_write_word_2, G__law_text_0, T__law_text_1, E__law_text_2, G_law_0, G_law_2, G_law_4, T_law_5, E_law_6, G_law_7, T_law_8, E_law_9, mSplit_m, mJoin_m, mFmt_m, mJs_m, mjNil_m, mjCons_m, miStr_m, miEnumF_m, msStar_m, msMatch_m, strsU_map]; try rfl))
theorem fmt_i (n : Int) (h : Big n) : fmtU (.int n) = some (Str.ofString (toString n)) := if_pos (big_log h)
theorem num_len (n : Int) (h0 : 0 ≤ n) (h : n < 10 ^ 60) : (Str.ofString (toString n)).length ≤ 60 := by
  obtain ⟨m, rfl⟩ := Int.eq_ofNat_of_zero_le h0
  rw [TL.len_tl, TL.tl_num]
  exact TL.numL_len (by decide) (by
    have : ((m : Nat) : Int) < ((10 ^ 60 : Nat) : Int) := by rw [Int.natCast_pow]; exact h
    omega)
structure RunOk (p : Int × Int) : Prop where
  v1 : 1 ≤ p.1
  v2 : p.1 ≤ 60
  c1 : 1 ≤ p.2
  c2 : p.2 < 10 ^ 60
theorem starS_len : ("*" : Str).length = 1 := by decide +kernel
theorem run_text_k (p : Int × Int) (h : RunOk p) : mf_run_text K [.val (pU p)] = some (.val (.str (rtx p)) none) := by
  obtain ⟨v, c⟩ := p
  obtain ⟨h1, h2, h3, h4⟩ := h
  dsimp only at h1 h2 h3 h4
  have f1 := fmt_i v (by unfold Big; omega)
  have f2 := fmt_i c (by unfold Big; omega)
  have l1 := num_len v (by omega) (by omega)
  have l2 := num_len c (by omega) (by omega)
  have ll : ∀ a b : Str, (a ++ b).length = a.length + b.length := fun a b => by rw [TL.len_tl, TL.tl_append, List.length_append, ← TL.len_tl, ← TL.len_tl]
  have le : Str.empty.length = 0 := rfl
  have g1 : (Str.empty ++ Str.ofString (toString v)).length ≤ 16777216 := by rw [ll]; omega
  have ls := starS_len
  have g2 : ((Str.empty ++ Str.ofString (toString v)) ++ "*").length ≤ 16777216 := by rw [ll, ll]; omega
  have g3 : (((Str.empty ++ Str.ofString (toString v)) ++ "*") ++ Str.ofString (toString c)).length ≤ 16777216 := by rw [ll, ll, ll]; omega
  by_cases hc : 1 < c
  · have d : decide (1 < c) = true := decide_eq_true hc
    have er : rtx (v, c) = (((Str.empty ++ Str.ofString (toString v)) ++ "*") ++ Str.ofString (toString c)) := if_pos hc
    rw [er]
    clear er h1 h2 h3 h4 l1 l2 ll le ls hc
    unfold pU
    unfold mf_run_text M_run_text
    trivial
  · have d : decide (1 < c) = false := decide_eq_false hc
    have er : rtx (v, c) = Str.ofString (toString v) := if_neg hc
    rw [er]
    clear er h1 h2 h3 h4 l1 l2 ll le ls hc g1 g2 g3 f2
    unfold pU
    unfold mf_run_text M_run_text
    trivial
theorem rtx_len (p : Int × Int) (h : RunOk p) : (rtx p).length ≤ 121 := by
  have l1 := num_len p.1 (by have := h.v1; omega) (by have := h.v2; omega)
  have l2 := num_len p.2 (by have := h.c1; omega) h.c2
  unfold rtx
  split
  · rw [TL.len_tl, tl_two, List.length_append, List.length_append, ← TL.len_tl, ← TL.len_tl]
    simp only [List.length_singleton]
    omega
  · omega
theorem sum_le {α : Type} (f : α → Nat) (b : Nat) : ∀ xs : List α, (∀ x ∈ xs, f x ≤ b) → (xs.map f).sum ≤ xs.length * b
  | [], _ => by simp
  | x :: xs, h => by
    have ih := sum_le f b xs (fun y hy => h y (List.mem_cons_of_mem _ hy))
    have := h x List.mem_cons_self
    rw [List.map_cons, List.sum_cons, List.length_cons, Nat.succ_mul]
    omega
theorem blankS_len : (" " : Str).length = 1 := by decide +kernel
theorem join_ok (ss : List Str) (h : ∀ s ∈ ss, s.length ≤ 1000) (hl : ss.length ≤ 1000) : joinOk " " ss = true := by
  unfold joinOk
  have := sum_le (fun s : Str => s.length) 1000 ss h
  have : ss.length * 1000 ≤ 1000 * 1000 := Nat.mul_le_mul_right _ hl
  rw [decide_eq_true_iff, blankS_len]
  omega
theorem write_word_k (w : List (Int × Int)) (h : ∀ p ∈ w, RunOk p) (hl : w.length ≤ 1000) : mf_write_word K [.val (.lst (w.map pU))] = some (.val (.str (Txt.join " " (w.map rtx))) none) := by
  have lc : lcM (G_write_word_0 K).m (T_write_word_1 K).m (E_write_word_2 K).m [1] (w.map pU) [] [.val (.lst (w.map pU)), .non] = some (.ok ((w.map rtx).map U.str) [.val (.lst (w.map pU)), .non]) := by
    rw [List.map_map]
    refine lcM_all (g := (G_write_word_0 K).m) (tt := (T_write_word_1 K).m) (e := (E_write_word_2 K).m) (vs := [1]) pU (fun p => U.str (rtx p)) w (by omega) (fun p hp => ?_)
    have e := run_text_k (K := K) p (h p hp)
    clear hp h hl
    generalize pU p = P at e ⊢
    exact ⟨_, _, _, (by ac_rfl), (by ac_rfl), (by ac_rfl), rfl⟩
  have j := join_ok (w.map rtx) (fun s hs => by
    obtain ⟨p, hp, rfl⟩ := List.mem_map.mp hs
    have := rtx_len p (h p hp)
    omega) (by rw [List.length_map]; exact hl)
  have es := strsU_map (w.map rtx)
  clear h hl
  generalize w.map rtx = ws at *
  generalize w.map pU = W at *
  generalize List.map U.str ws = us at *
  unfold mf_write_word M_write_word
  trivial
abbrev numS (n : Int) : Str := Str.ofString (toString n)
theorem write_system_k (vs : List Int) (k : Kd) (h : ValsOk vs) : mf_write_system K [.val (sysU vs k)] = some (.val (.str (Txt.join " " (k.s :: vs.map numS))) none) := by
  have e1 := row_k (K := K) vs k
  have e2 := ruleP_k (K := K) vs k
  have hn := h.top
  have lc : lcM (G_write_system_0 K).m (T_write_system_1 K).m (E_write_system_2 K).m [1] (vs.map U.int) [] [.val (sysU vs k), .non] = some (.ok ((vs.map numS).map U.str) [.val (sysU vs k), .non]) := by
    rw [List.map_map]
    refine lcM_all (g := (G_write_system_0 K).m) (tt := (T_write_system_1 K).m) (e := (E_write_system_2 K).m) (vs := [1]) U.int (fun p => U.str (numS p)) vs (by omega) (fun n hn' => ?_)
    have hb := h.bd n hn'
    have e : (oStrI (K := K)).f [.int n] = some (.str (Str.ofString (toString n))) := oStrI_i n (by unfold Big; omega)
    clear hn hn' h e1 e2 hb
    generalize sysU vs k = S at *
    exact ⟨_, _, _, (by ac_rfl), (by ac_rfl), (by ac_rfl), rfl⟩
  have j := join_ok (k.s :: vs.map numS) (fun s hs => by
    rcases List.mem_cons.mp hs with rfl | hs
    · have : k.s.length ≤ 10 := by cases k <;> decide +kernel
      omega
    · obtain ⟨p, hp, rfl⟩ := List.mem_map.mp hs
      have hb := h.bd p hp
      have : (numS p).length ≤ 60 := num_len p (by omega) (by omega)
      omega) (by rw [List.length_cons, List.length_map]; omega)
  have es := strsU_map (k.s :: vs.map numS)
  rw [List.map_cons] at es
  have hl : 1 + (List.map U.str (vs.map numS)).length ≤ 16777216 := by rw [List.length_map, List.length_map]; omega
  clear h hn
  generalize vs.map numS = ws at *
  have pr := ptab_row_S (K := K)
  have pl := ptab_rule_S (K := K)
  generalize k.s = ks at *
  unfold mf_write_system M_write_system
  trivial
end Sg
set_option Elab.async false
set_option linter.all false
set_option maxRecDepth 100000
set_option maxHeartbeats 1000000
namespace Sg
open PySem L2
variable {K : PySem.W.Frag}
local macro_rules | `(tactic| trivial) => `(tactic| simp -implicitDefEqProofs (disch := omega) only [*, mC_m, mVar_m, mLook_m, mLet_m, mSc_m, mNil_m, msNil_m, msSeq_m, msAsgF_m, msDrop_m, msRet_m, msRetF_m, msRetC_m, msRaise_m, msFor_m, mtYes_m, mLc_m, mcNil_m, mcCel_m, mCall_m, moNone_m, moSome_m, mSlL_m, mBi_m, mBiF_m, miList_m, miRng1_m, miEnum_m, miZip_m, mMeth_m, mMeth0_m, msSet_m, mCat_m, mChain_m, mIsi_m, mListRng_m, mCallF_m, msParVV_m, msParFV_m, mMethD_m, mCMeth_m, mConC_m, okE_some, okE_none, opE_ok, opE_ex, opF_ok, opF_ex, mOp_e, mIx_e, unE_ok, mUn_e, coE_ok, coE_ex, coF_ok, coF_ex, mCons_e, bindAE_ok, bindAE_ex, mTup_e, tupF_e, mFr_e, lstF_ok, mLst_e, tsE_ok, tsE_ex, mTest_e, okT_some, truE_ok, truE_ex, mTru_e, anE_t, anE_f, anE_ok, orE_t, orE_f, orE_ok, mAnd_e, mOr_e, noE_ok, noE_ex, mNot_e, blV_ok, blV_ex, anV_t, anV_f, anV_ok, mAndV_e, noV_ok, noV_ex, mNotV_e, ifV_t, ifV_f, ifV_ok, mIf_e, ifS_t, ifS_f, ifS_ok, ifS_ex, msIf_e, nxO_some, asE_ok, asE_ex, msAsg_e, gcE_some, mgCons_e, mgNil_e, mgTup_e, mgName_e, cvE_ok, cvE_ex, consC_ok, mcVal_e, thenS_nx, thenS_bk, thenS_ct, thenS_rt, thenS_ex, bindES_ok, bindES_ex, bindAS_ok, bindAS_ex, bindE_ok, bindE_ex, mfOf_e, mfOf0_e, noX_val, noX_cel, coM_some, fin_val, fin_cel, fin_nx, fin_ex, oAdd_i, oSub_i, oMul_l, oMul_r, oMod_i, oDiv_i, oPow_i, oLt_i, oLe_i, oGt_i, oGe_i, oIx_l, oIx_f, oIx_t, at1_0, at2_0, at2_1, at3_0, at3_1, at3_2, at4_0, at4_1, at4_2, at4_3, ix3_0, ix3_1, ix3_2, oIsN_non, oNotN_non, oNotN_lst, oIsN_lst, oMax2_i, oMin2_i, oAbs_i, oLen_l, oLen_f, oLen_t, oNeg_i, truU_i, truU_l, truU_b, truU_n, lstU_l, lstU_f, oAppend_u, lstF_0, tupF_0, lstF_1, tupF_1, lstF_2, tupF_2, lstF_3, tupF_3, lstF_4, tupF_4, lstF_5, tupF_5, lstF_6, tupF_6, isi_NoneType_bool, isi_NoneType_int, isi_NoneType_str, isi_NoneType_list, isi_NoneType_tuple, isi_NoneType_dict, isi_bool_bool, isi_bool_int, isi_bool_str, isi_bool_list, isi_bool_tuple, isi_bool_dict, isi_int_bool, isi_int_int, isi_int_str, isi_int_list, isi_int_tuple, isi_int_dict, isi_str_bool, isi_str_int, isi_str_str, isi_str_list, isi_str_tuple, isi_str_dict, isi_list_bool, isi_list_int, isi_list_str, isi_list_list, isi_list_tuple, isi_list_dict, isi_tuple_bool, isi_tuple_int, isi_tuple_str, isi_tuple_list, isi_tuple_tuple, isi_tuple_dict, isi_dict_bool, isi_dict_int, isi_dict_str, isi_dict_list, isi_dict_tuple, isi_dict_dict, tyU_n, tyU_b, tyU_i, tyU_s, tyU_l, tyU_t, rngOk_i, zipU_map, intsU_map, blsU_map, oAll_l, cutU_1, cutU_m1, drop_map, reverse_map, length_map', dropLast_map, oEq_i, oNe_i, oEq_b, oNe_b, oEq_nn, oNe_nn, oEq_pp, oNe_pp, oEq_ii, oNe_ii, mCallL_m, lendM_ok, lendM_ex, lendA_some, lendR_b, lendR_i, lendR_n, lendR_ex, resolveL_nil, resolveL_v, resolveL_c, resC_c, List.zip_cons_cons, List.zip_nil_left, oEqS_s, oNeS_s, mCallF_m, oMul_s, oIsN_i, oIsN_b, oIsN_t, oPowX_i, mMakeS_m, mMakeL_m, mFld_m, mProp_m, mnSeq_m, mnS_m, mnF_m, at0_e, allX_const, seqU_l, seqU_f, seqU_t, msWhile_m, mCallK_m, pm_nil, pm_cons, List.mem_singleton, and_self, resC_d, scV_b, scV_i, scV_s, scV_n, Option.isSome_some, tyU_d, mgTup_2, mgTup_3, mgTup_4, or_false, false_or, or_self, or_true, true_or, Nat.reduceBEq, bindEA_ok, bindEA_ex, mLstL_m, unown, kills, cellAt, List.map_cons, List.map_nil, List.length_cons, List.length_nil, List.cons_append, List.nil_append, List.replicate, List.getElem?_cons_succ, List.getElem?_cons_zero, List.set_cons_zero, List.set_cons_succ, Option.map_some, Option.map_none, Option.bind_some, Option.bind_none, Nat.reduceAdd, Nat.reduceSub, Nat.reduceLeDiff, Int.reduceLT, Int.reduceLE, Int.reduceNeg, Int.reduceToNat, Int.reducePow, decide_eq_true_eq, reduceIte, eq_self, ite_true, ite_false, Bool.false_eq_true, reduceCtorEq, resolve, celJ, nCel, Slot.isC, List.filter, putJ, callM, callMF, List.append_eq, Nat.reduceLT, Int.reduceMul, Int.reduceAdd, Int.reduceSub, ne_eq, not_true_eq_false, not_false_eq_true, Bool.not_false, Bool.not_true, decide_true, decide_false, frF, Int.cast_ofNat_Int, Bool.and_true, Bool.true_and, Bool.false_and, Bool.and_false, Bool.or_false, Bool.false_or, Bool.true_or, Bool.or_true, mSplit_m, mJoin_m, mFmt_m, mJs_m, mjNil_m, mjCons_m, miStr_m, miEnumF_m, msStar_m, msMatch_m, strsU_map, msRaiseF_m])
local macro_rules | `(tactic| ac_rfl) => `(tactic| (simp -implicitDefEqProofs (disch := omega) only [*, mC_m, mVar_m, mLook_m, mLet_m, mSc_m, mNil_m, msNil_m, msSeq_m, msAsgF_m, msDrop_m, msRet_m, msRetF_m, msRetC_m, msRaise_m, msFor_m, mtYes_m, mLc_m, mcNil_m, mcCel_m, mCall_m, moNone_m, moSome_m, mSlL_m, mBi_m, mBiF_m, miList_m, miRng1_m, miEnum_m, miZip_m, mMeth_m, mMeth0_m, msSet_m, mCat_m, mChain_m, mIsi_m, mListRng_m, mCallF_m, msParVV_m, msParFV_m, mMethD_m, mCMeth_m, mConC_m, okE_some, okE_none, opE_ok, opE_ex, opF_ok, opF_ex, mOp_e, mIx_e, unE_ok, mUn_e, coE_ok, coE_ex, coF_ok, coF_ex, mCons_e, bindAE_ok, bindAE_ex, mTup_e, tupF_e, mFr_e, lstF_ok, mLst_e, tsE_ok, tsE_ex, mTest_e, okT_some, truE_ok, truE_ex, mTru_e, anE_t, anE_f, anE_ok, orE_t, orE_f, orE_ok, mAnd_e, mOr_e, noE_ok, noE_ex, mNot_e, blV_ok, blV_ex, anV_t, anV_f, anV_ok, mAndV_e, noV_ok, noV_ex, mNotV_e, ifV_t, ifV_f, ifV_ok, mIf_e, ifS_t, ifS_f, ifS_ok, ifS_ex, msIf_e, nxO_some, asE_ok, asE_ex, msAsg_e, gcE_some, mgCons_e, mgNil_e, mgTup_e, mgName_e, cvE_ok, cvE_ex, consC_ok, mcVal_e, thenS_nx, thenS_bk, thenS_ct, thenS_rt, thenS_ex, bindES_ok, bindES_ex, bindAS_ok, bindAS_ex, bindE_ok, bindE_ex, mfOf_e, mfOf0_e, noX_val, noX_cel, coM_some, fin_val, fin_cel, fin_nx, fin_ex, oAdd_i, oSub_i, oMul_l, oMul_r, oMod_i, oDiv_i, oPow_i, oLt_i, oLe_i, oGt_i, oGe_i, oIx_l, oIx_f, oIx_t, at1_0, at2_0, at2_1, at3_0, at3_1, at3_2, at4_0, at4_1, at4_2, at4_3, ix3_0, ix3_1, ix3_2, oIsN_non, oNotN_non, oNotN_lst, oIsN_lst, oMax2_i, oMin2_i, oAbs_i, oLen_l, oLen_f, oLen_t, oNeg_i, truU_i, truU_l, truU_b, truU_n, lstU_l, lstU_f, oAppend_u, lstF_0, tupF_0, lstF_1, tupF_1, lstF_2, tupF_2, lstF_3, tupF_3, lstF_4, tupF_4, lstF_5, tupF_5, lstF_6, tupF_6, isi_NoneType_bool, isi_NoneType_int, isi_NoneType_str, isi_NoneType_list, isi_NoneType_tuple, isi_NoneType_dict, isi_bool_bool, isi_bool_int, isi_bool_str, isi_bool_list, isi_bool_tuple, isi_bool_dict, isi_int_bool, isi_int_int, isi_int_str, isi_int_list, isi_int_tuple, isi_int_dict, isi_str_bool, isi_str_int, isi_str_str, isi_str_list, isi_str_tuple, isi_str_dict, isi_list_bool, isi_list_int, isi_list_str, isi_list_list, isi_list_tuple, isi_list_dict, isi_tuple_bool, isi_tuple_int, isi_tuple_str, isi_tuple_list, isi_tuple_tuple, isi_tuple_dict, isi_dict_bool, isi_dict_int, isi_dict_str, isi_dict_list, isi_dict_tuple, isi_dict_dict, tyU_n, tyU_b, tyU_i, tyU_s, tyU_l, tyU_t, rngOk_i, zipU_map, intsU_map, blsU_map, oAll_l, cutU_1, cutU_m1, drop_map, reverse_map, length_map', dropLast_map, oEq_i, oNe_i, oEq_b, oNe_b, oEq_nn, oNe_nn, oEq_pp, oNe_pp, oEq_ii, oNe_ii, mCallL_m, lendM_ok, lendM_ex, lendA_some, lendR_b, lendR_i, lendR_n, lendR_ex, resolveL_nil, resolveL_v, resolveL_c, resC_c, List.zip_cons_cons, List.zip_nil_left, oEqS_s, oNeS_s, mCallF_m, oMul_s, oIsN_i, oIsN_b, oIsN_t, oPowX_i, mMakeS_m, mMakeL_m, mFld_m, mProp_m, mnSeq_m, mnS_m, mnF_m, at0_e, allX_const, seqU_l, seqU_f, seqU_t, msWhile_m, mCallK_m, pm_nil, pm_cons, List.mem_singleton, and_self, resC_d, scV_b, scV_i, scV_s, scV_n, Option.isSome_some, tyU_d, mgTup_2, mgTup_3, mgTup_4, or_false, false_or, or_self, or_true, true_or, Nat.reduceBEq, bindEA_ok, bindEA_ex, mLstL_m, unown, kills, cellAt, List.map_cons, List.map_nil, List.length_cons, List.length_nil, List.cons_append, List.nil_append, List.replicate, List.getElem?_cons_succ, List.getElem?_cons_zero, List.set_cons_zero, List.set_cons_succ, Option.map_some, Option.map_none, Option.bind_some, Option.bind_none, Nat.reduceAdd, Nat.reduceSub, Nat.reduceLeDiff, Int.reduceLT, Int.reduceLE, Int.reduceNeg, Int.reduceToNat, Int.reducePow, decide_eq_true_eq, reduceIte, eq_self, ite_true, ite_false, Bool.false_eq_true, reduceCtorEq, resolve, celJ, nCel, Slot.isC, List.filter, putJ, callM, callMF, List.append_eq, Nat.reduceLT, Int.reduceMul, Int.reduceAdd, Int.reduceSub, ne_eq, not_true_eq_false, not_false_eq_true, Bool.not_false, Bool.not_true, decide_true, decide_false, frF, Int.cast_ofNat_Int, Bool.and_true, Bool.true_and, Bool.false_and, Bool.and_false, Bool.or_false, Bool.false_or, Bool.true_or, Bool.or_true, G__law_runs_0, G__law_scale_0, T__law_scale_1, E__law_scale_2, G_number_in_0, T_number_in_1, E_number_in_2, G_are_values_0, T_are_values_1, E_are_values_2, G_are_values_3, T_are_values_4, E_are_values_5, G_read_system_0, G_write_system_0, T_write_system_1, E_write_system_2, G_common_divisor_2, G__law_system_right_0, T__law_system_right_1, E__law_system_right_2, G_read_word_0, G_write_word_0, T_write_word_1, E_write_word_2, G__law_text_0, T__law_text_1, E__law_text_2, G_law_0, G_law_2, G_law_4, T_law_5, E_law_6, G_law_7, T_law_8, E_law_9, mSplit_m, mJoin_m, mFmt_m, mJs_m, mjNil_m, mjCons_m, miStr_m, miEnumF_m, msStar_m, msMatch_m, strsU_map, msRaiseF_m]; try rfl))
def rdW (found : List (Int × Int)) (i : Nat) : List Str → List (Int × Int) ⊕ Nat
  | [] => .inl found
  | s :: r => match runP s with
    | none => .inr i
    | some p => if 200 ≤ i ∨ (found.getLast?.map (·.1)) = some p.1 then .inr i else rdW (found ++ [p]) (i + 1) r
abbrev ivX (j : Nat) : Exn := ⟨"InvalidText", some ("index", .int (j : Nat))⟩
theorem rdw_good (t : U) (found : List (Int × Int)) (i : Nat) (s : Str) (p : Int × Int) (hs : s.length ≤ 16777214) (hp : runP s = some p) (hi : i < 200) (hf : found.length < 1000) (hl : (found.getLast?.map (·.1)) ≠ some p.1) :
    (B_read_word_1 K).m [.val t, .cel true (found.map pU), .val (.int (i : Nat)), .val (.str s), .non] = some (.nx [.val t, .cel true ((found ++ [p]).map pU), .val (.int (i : Nat)), .val (.str s), .val (pU p)]) := by
  have e := run_in_k (K := K) s hs
  rw [hp] at e
  have e' : mf_run_in K [.val (.str s)] = some (.val (.tup [.int p.1, .int p.2]) none) := e
  have eN : (oIsN (K := K)).f (.tup [.int p.1, .int p.2]) .non = some (.bl false) := rfl
  have d1 : decide ((200 : Int) ≤ ((i : Nat) : Int)) = false := decide_eq_false (by omega)
  have n0 : (oNe (K := K)).f (.lst (found.map pU)) (.lst []) = some (.bl (!decide (found = []))) := oNe_pp found []
  have hlen : (found.map pU).length < 16777216 := by rw [List.length_map]; omega
  rw [List.map_append]
  rcases List.eq_nil_or_concat found with rfl | ⟨f0, q, hq⟩
  · have n1 : (oNe (K := K)).f (.lst []) (.lst []) = some (.bl false) := oNe_pp [] []
    have n2 : (oAppend (K := K)).f [] [.tup [.int p.1, .int p.2]] = some (.non, [.tup [.int p.1, .int p.2]]) := rfl
    clear e hp hl hf hi hs n0
    unfold pU at *
    unfold B_read_word_1
    trivial
  · rw [List.concat_eq_append] at hq
    subst hq
    have hne : decide (f0 ++ [q] = []) = false := by simp
    rw [hne] at n0
    have ela : atI ((f0 ++ [q]).map pU) (-1) = some (.tup [.int q.1, .int q.2]) := by rw [List.map_append]; exact atI_last _ _
    have eq1 : (oEq (K := K)).f (.int q.1) (.int p.1) = some (.bl false) := by
      rw [oEq_i, decide_eq_false]
      intro z
      apply hl
      simp [z]
    clear e hp hl hf hi hs hne
    generalize (f0 ++ [q]).map pU = F at *
    generalize (i : Int) = I at *
    show _ = some (SO.nx [.val t, .cel true (F ++ [.tup [.int p.1, .int p.2]]), .val (.int I), .val (.str s), .val (.tup [.int p.1, .int p.2])])
    unfold B_read_word_1
    trivial
theorem rdw_bad (t : U) (found : List (Int × Int)) (i : Nat) (s : Str) (hs : s.length ≤ 16777214) (hf : found.length < 1000) (hb : ∀ p, runP s = some p → 200 ≤ i ∨ (found.getLast?.map (·.1)) = some p.1) :
    ∃ x : U, (B_read_word_1 K).m [.val t, .cel true (found.map pU), .val (.int (i : Nat)), .val (.str s), .non] = some (.ex (ivX i) [.val t, .cel true (found.map pU), .val (.int (i : Nat)), .val (.str s), .val x]) := by
  have e := run_in_k (K := K) s hs
  cases hp : runP s with
  | none =>
    rw [hp] at e
    have e' : mf_run_in K [.val (.str s)] = some (.val .non none) := e
    have eN : (oIsN (K := K)).f .non .non = some (.bl true) := rfl
    clear e hp hb hf hs
    generalize found.map pU = F at *
    refine ⟨.non, ?_⟩
    unfold B_read_word_1
    trivial
  | some p =>
    rw [hp] at e
    have e' : mf_run_in K [.val (.str s)] = some (.val (.tup [.int p.1, .int p.2]) none) := e
    have eN : (oIsN (K := K)).f (.tup [.int p.1, .int p.2]) .non = some (.bl false) := rfl
    by_cases hi : 200 ≤ i
    · have d1 : decide ((200 : Int) ≤ ((i : Nat) : Int)) = true := decide_eq_true (by omega)
      clear e hp hb hf hs
      generalize found.map pU = F at *
      refine ⟨.tup [.int p.1, .int p.2], ?_⟩
      unfold B_read_word_1
      trivial
    · have d1 : decide ((200 : Int) ≤ ((i : Nat) : Int)) = false := decide_eq_false (by omega)
      have hl := (hb p hp).resolve_left hi
      have n0 : (oNe (K := K)).f (.lst (found.map pU)) (.lst []) = some (.bl (!decide (found = []))) := oNe_pp found []
      rcases List.eq_nil_or_concat found with rfl | ⟨f0, q, hq⟩
      · simp at hl
      · rw [List.concat_eq_append] at hq
        subst hq
        have hne : decide (f0 ++ [q] = []) = false := by simp
        rw [hne] at n0
        have ela : atI ((f0 ++ [q]).map pU) (-1) = some (.tup [.int q.1, .int q.2]) := by rw [List.map_append]; exact atI_last _ _
        have eq1 : (oEq (K := K)).f (.int q.1) (.int p.1) = some (.bl true) := by
          rw [oEq_i, decide_eq_true]
          simpa using hl
        clear e hp hl hf hi hs hne hb
        generalize (f0 ++ [q]).map pU = F at *
        refine ⟨.tup [.int p.1, .int p.2], ?_⟩
        unfold B_read_word_1
        trivial
theorem rdw_get (t : U) (F : List U) (i : Nat) (s : U) : (G_read_word_0 K).m (.tup [.int (i : Nat), s]) [.val t, .cel true F, .non, .non, .non] = some [.val t, .cel true F, .val (.int (i : Nat)), .val s, .non] := by
  generalize (i : Int) = I
  ac_rfl
theorem rdw_loop (t : U) : ∀ (ps : List Str) (i : Nat) (found : List (Int × Int)), (∀ s ∈ ps, s.length ≤ 16777214) → found.length ≤ i → i ≤ 200 →
    (∀ fs, rdW found i ps = .inl fs → loopM (G_read_word_0 K).m (B_read_word_1 K).m [2, 3, 4] (enumU i (ps.map U.str)) [.val t, .cel true (found.map pU), .non, .non, .non] = some (.nx [.val t, .cel true (fs.map pU), .non, .non, .non])) ∧
    (∀ j, rdW found i ps = .inr j → ∃ ρ', loopM (G_read_word_0 K).m (B_read_word_1 K).m [2, 3, 4] (enumU i (ps.map U.str)) [.val t, .cel true (found.map pU), .non, .non, .non] = some (.ex (ivX j) (.val t :: ρ')))
  | [], i, found, _, _, _ => ⟨fun fs h => (by cases h; rfl), fun j h => (by cases h)⟩
  | s :: r, i, found, h1, h2, h3 => by
    have hs := h1 s List.mem_cons_self
    have hg := rdw_get (K := K) t (found.map pU) i (.str s)
    have bad : (∀ p, runP s = some p → 200 ≤ i ∨ (found.getLast?.map (·.1)) = some p.1) → ∃ ρ', loopM (G_read_word_0 K).m (B_read_word_1 K).m [2, 3, 4] (enumU i ((s :: r).map U.str)) [.val t, .cel true (found.map pU), .non, .non, .non] = some (.ex (ivX i) (.val t :: ρ')) := fun hb => by
      obtain ⟨x, e⟩ := rdw_bad (K := K) t found i s hs (by omega) hb
      refine ⟨[.cel true (found.map pU), .val (.int (i : Nat)), .val (.str s), .val x], ?_⟩
      show loopM _ _ _ (.tup [.int (i : Nat), .str s] :: enumU (i + 1) (r.map U.str)) _ = _
      unfold loopM
      simp only [hg, e]
    unfold rdW
    cases hp : runP s with
    | none =>
      refine ⟨fun fs h => (by cases h), fun j h => ?_⟩
      cases h
      exact bad (fun p hp' => by rw [hp] at hp'; cases hp')
    | some p =>
      dsimp only
      by_cases hc : 200 ≤ i ∨ (found.getLast?.map (·.1)) = some p.1
      · rw [if_pos hc]
        refine ⟨fun fs h => (by cases h), fun j h => ?_⟩
        cases h
        exact bad (fun p' hp' => by rw [hp] at hp'; cases hp'; exact hc)
      · rw [if_neg hc]
        obtain ⟨hc1, hc2⟩ := not_or.mp hc
        have e := rdw_good (K := K) t found i s p hs hp (by omega) (by omega) hc2
        have ih := rdw_loop t r (i + 1) (found ++ [p]) (fun x hx => h1 x (List.mem_cons_of_mem _ hx)) (by rw [List.length_append, List.length_singleton]; omega) (by omega)
        have st : loopM (G_read_word_0 K).m (B_read_word_1 K).m [2, 3, 4] (enumU i ((s :: r).map U.str)) [.val t, .cel true (found.map pU), .non, .non, .non] = loopM (G_read_word_0 K).m (B_read_word_1 K).m [2, 3, 4] (enumU (i + 1) (r.map U.str)) [.val t, .cel true ((found ++ [p]).map pU), .non, .non, .non] := by
          show loopM _ _ _ (.tup [.int (i : Nat), .str s] :: enumU (i + 1) (r.map U.str)) _ = _
          rw [loopM]
          simp only [hg, e]
          rfl
        rw [st]
        exact ih
def readO : List (Int × Int) ⊕ Nat → CO
  | .inl fs => .cel (fs.map pU) none
  | .inr j => .ex (ivX j) none
theorem read_word_k (t : Str) (hl : t.length ≤ 16777214) : mf_read_word K [.val (.str t)] = some (readO (rdW [] 0 (Txt.split t " "))) := by
  have hp := part_len (s := t) blank_tl kind_blank
  obtain ⟨ps, hps⟩ : ∃ ps, Txt.split t " " = ps := ⟨_, rfl⟩
  rw [hps] at hp ⊢
  obtain ⟨l1, l2⟩ := rdw_loop (K := K) (.str t) ps 0 [] (fun s hs => by have := hp s hs; omega) (by simp) (by omega)
  rw [List.map_nil] at l1 l2
  cases hr : rdW [] 0 ps with
  | inl fs =>
    have l := l1 fs hr
    clear l1 l2 hr hp
    show _ = some (CO.cel (fs.map pU) none)
    generalize fs.map pU = F at *
    unfold mf_read_word M_read_word
    trivial
  | inr j =>
    obtain ⟨ρ', l⟩ := l2 j hr
    clear l1 l2 hr hp
    unfold readO
    unfold mf_read_word M_read_word
    trivial
end Sg
set_option Elab.async false
set_option linter.all false
set_option maxRecDepth 100000
set_option maxHeartbeats 1000000
namespace Sg
open PySem L2
variable {K : PySem.W.Frag}
local macro_rules | `(tactic| trivial) => `(tactic| simp -implicitDefEqProofs (disch := omega) only [*, mC_m, mVar_m, mLook_m, mLet_m, mSc_m, mNil_m, msNil_m, msSeq_m, msAsgF_m, msDrop_m, msRet_m, msRetF_m, msRetC_m, msRaise_m, msFor_m, mtYes_m, mLc_m, mcNil_m, mcCel_m, mCall_m, moNone_m, moSome_m, mSlL_m, mBi_m, mBiF_m, miList_m, miRng1_m, miEnum_m, miZip_m, mMeth_m, mMeth0_m, msSet_m, mCat_m, mChain_m, mIsi_m, mListRng_m, mCallF_m, msParVV_m, msParFV_m, mMethD_m, mCMeth_m, mConC_m, okE_some, okE_none, opE_ok, opE_ex, opF_ok, opF_ex, mOp_e, mIx_e, unE_ok, mUn_e, coE_ok, coE_ex, coF_ok, coF_ex, mCons_e, bindAE_ok, bindAE_ex, mTup_e, tupF_e, mFr_e, lstF_ok, mLst_e, tsE_ok, tsE_ex, mTest_e, okT_some, truE_ok, truE_ex, mTru_e, anE_t, anE_f, anE_ok, orE_t, orE_f, orE_ok, mAnd_e, mOr_e, noE_ok, noE_ex, mNot_e, blV_ok, blV_ex, anV_t, anV_f, anV_ok, mAndV_e, noV_ok, noV_ex, mNotV_e, ifV_t, ifV_f, ifV_ok, mIf_e, ifS_t, ifS_f, ifS_ok, ifS_ex, msIf_e, nxO_some, asE_ok, asE_ex, msAsg_e, gcE_some, mgCons_e, mgNil_e, mgTup_e, mgName_e, cvE_ok, cvE_ex, consC_ok, mcVal_e, thenS_nx, thenS_bk, thenS_ct, thenS_rt, thenS_ex, bindES_ok, bindES_ex, bindAS_ok, bindAS_ex, bindE_ok, bindE_ex, mfOf_e, mfOf0_e, noX_val, noX_cel, coM_some, fin_val, fin_cel, fin_nx, fin_ex, oAdd_i, oSub_i, oMul_l, oMul_r, oMod_i, oDiv_i, oPow_i, oLt_i, oLe_i, oGt_i, oGe_i, oIx_l, oIx_f, oIx_t, at1_0, at2_0, at2_1, at3_0, at3_1, at3_2, at4_0, at4_1, at4_2, at4_3, ix3_0, ix3_1, ix3_2, oIsN_non, oNotN_non, oNotN_lst, oIsN_lst, oMax2_i, oMin2_i, oAbs_i, oLen_l, oLen_f, oLen_t, oNeg_i, truU_i, truU_l, truU_b, truU_n, lstU_l, lstU_f, oAppend_u, lstF_0, tupF_0, lstF_1, tupF_1, lstF_2, tupF_2, lstF_3, tupF_3, lstF_4, tupF_4, lstF_5, tupF_5, lstF_6, tupF_6, isi_NoneType_bool, isi_NoneType_int, isi_NoneType_str, isi_NoneType_list, isi_NoneType_tuple, isi_NoneType_dict, isi_bool_bool, isi_bool_int, isi_bool_str, isi_bool_list, isi_bool_tuple, isi_bool_dict, isi_int_bool, isi_int_int, isi_int_str, isi_int_list, isi_int_tuple, isi_int_dict, isi_str_bool, isi_str_int, isi_str_str, isi_str_list, isi_str_tuple, isi_str_dict, isi_list_bool, isi_list_int, isi_list_str, isi_list_list, isi_list_tuple, isi_list_dict, isi_tuple_bool, isi_tuple_int, isi_tuple_str, isi_tuple_list, isi_tuple_tuple, isi_tuple_dict, isi_dict_bool, isi_dict_int, isi_dict_str, isi_dict_list, isi_dict_tuple, isi_dict_dict, tyU_n, tyU_b, tyU_i, tyU_s, tyU_l, tyU_t, rngOk_i, zipU_map, intsU_map, blsU_map, oAll_l, cutU_1, cutU_m1, drop_map, reverse_map, length_map', dropLast_map, oEq_i, oNe_i, oEq_b, oNe_b, oEq_nn, oNe_nn, oEq_pp, oNe_pp, oEq_ii, oNe_ii, mCallL_m, lendM_ok, lendM_ex, lendA_some, lendR_b, lendR_i, lendR_n, lendR_ex, resolveL_nil, resolveL_v, resolveL_c, resC_c, List.zip_cons_cons, List.zip_nil_left, oEqS_s, oNeS_s, mCallF_m, oMul_s, oIsN_i, oIsN_b, oIsN_t, oPowX_i, mMakeS_m, mMakeL_m, mFld_m, mProp_m, mnSeq_m, mnS_m, mnF_m, at0_e, allX_const, seqU_l, seqU_f, seqU_t, msWhile_m, mCallK_m, pm_nil, pm_cons, List.mem_singleton, and_self, resC_d, scV_b, scV_i, scV_s, scV_n, Option.isSome_some, tyU_d, mgTup_2, mgTup_3, mgTup_4, or_false, false_or, or_self, or_true, true_or, Nat.reduceBEq, bindEA_ok, bindEA_ex, mLstL_m, unown, kills, cellAt, List.map_cons, List.map_nil, List.length_cons, List.length_nil, List.cons_append, List.nil_append, List.replicate, List.getElem?_cons_succ, List.getElem?_cons_zero, List.set_cons_zero, List.set_cons_succ, Option.map_some, Option.map_none, Option.bind_some, Option.bind_none, Nat.reduceAdd, Nat.reduceSub, Nat.reduceLeDiff, Int.reduceLT, Int.reduceLE, Int.reduceNeg, Int.reduceToNat, Int.reducePow, decide_eq_true_eq, reduceIte, eq_self, ite_true, ite_false, Bool.false_eq_true, reduceCtorEq, resolve, celJ, nCel, Slot.isC, List.filter, putJ, callM, callMF, List.append_eq, Nat.reduceLT, Int.reduceMul, Int.reduceAdd, Int.reduceSub, ne_eq, not_true_eq_false, not_false_eq_true, Bool.not_false, Bool.not_true, decide_true, decide_false, frF, Int.cast_ofNat_Int, Bool.and_true, Bool.true_and, Bool.false_and, Bool.and_false, Bool.or_false, Bool.false_or, Bool.true_or, Bool.or_true, mSplit_m, mJoin_m, mFmt_m, mJs_m, mjNil_m, mjCons_m, miStr_m, miEnumF_m, msStar_m, msMatch_m, strsU_map, msRaiseF_m])
local macro_rules | `(tactic| ac_rfl) => `(tactic| (simp -implicitDefEqProofs (disch := omega) only [*, mC_m, mVar_m, mLook_m, mLet_m, mSc_m, mNil_m, msNil_m, msSeq_m, msAsgF_m, msDrop_m, msRet_m, msRetF_m, msRetC_m, msRaise_m, msFor_m, mtYes_m, mLc_m, mcNil_m, mcCel_m, mCall_m, moNone_m, moSome_m, mSlL_m, mBi_m, mBiF_m, miList_m, miRng1_m, miEnum_m, miZip_m, mMeth_m, mMeth0_m, msSet_m, mCat_m, mChain_m, mIsi_m, mListRng_m, mCallF_m, msParVV_m, msParFV_m, mMethD_m, mCMeth_m, mConC_m, okE_some, okE_none, opE_ok, opE_ex, opF_ok, opF_ex, mOp_e, mIx_e, unE_ok, mUn_e, coE_ok, coE_ex, coF_ok, coF_ex, mCons_e, bindAE_ok, bindAE_ex, mTup_e, tupF_e, mFr_e, lstF_ok, mLst_e, tsE_ok, tsE_ex, mTest_e, okT_some, truE_ok, truE_ex, mTru_e, anE_t, anE_f, anE_ok, orE_t, orE_f, orE_ok, mAnd_e, mOr_e, noE_ok, noE_ex, mNot_e, blV_ok, blV_ex, anV_t, anV_f, anV_ok, mAndV_e, noV_ok, noV_ex, mNotV_e, ifV_t, ifV_f, ifV_ok, mIf_e, ifS_t, ifS_f, ifS_ok, ifS_ex, msIf_e, nxO_some, asE_ok, asE_ex, msAsg_e, gcE_some, mgCons_e, mgNil_e, mgTup_e, mgName_e, cvE_ok, cvE_ex, consC_ok, mcVal_e, thenS_nx, thenS_bk, thenS_ct, thenS_rt, thenS_ex, bindES_ok, bindES_ex, bindAS_ok, bindAS_ex, bindE_ok, bindE_ex, mfOf_e, mfOf0_e, noX_val, noX_cel, coM_some, fin_val, fin_cel, fin_nx, fin_ex, oAdd_i, oSub_i, oMul_l, oMul_r, oMod_i, oDiv_i, oPow_i, oLt_i, oLe_i, oGt_i, oGe_i, oIx_l, oIx_f, oIx_t, at1_0, at2_0, at2_1, at3_0, at3_1, at3_2, at4_0, at4_1, at4_2, at4_3, ix3_0, ix3_1, ix3_2, oIsN_non, oNotN_non, oNotN_lst, oIsN_lst, oMax2_i, oMin2_i, oAbs_i, oLen_l, oLen_f, oLen_t, oNeg_i, truU_i, truU_l, truU_b, truU_n, lstU_l, lstU_f, oAppend_u, lstF_0, tupF_0, lstF_1, tupF_1, lstF_2, tupF_2, lstF_3, tupF_3, lstF_4, tupF_4, lstF_5, tupF_5, lstF_6, tupF_6, isi_NoneType_bool, isi_NoneType_int, isi_NoneType_str, isi_NoneType_list, isi_NoneType_tuple, isi_NoneType_dict, isi_bool_bool, isi_bool_int, isi_bool_str, isi_bool_list, isi_bool_tuple, isi_bool_dict, isi_int_bool, isi_int_int, isi_int_str, isi_int_list, isi_int_tuple, isi_int_dict, isi_str_bool, isi_str_int, isi_str_str, isi_str_list, isi_str_tuple, isi_str_dict, isi_list_bool, isi_list_int, isi_list_str, isi_list_list, isi_list_tuple, isi_list_dict, isi_tuple_bool, isi_tuple_int, isi_tuple_str, isi_tuple_list, isi_tuple_tuple, isi_tuple_dict, isi_dict_bool, isi_dict_int, isi_dict_str, isi_dict_list, isi_dict_tuple, isi_dict_dict, tyU_n, tyU_b, tyU_i, tyU_s, tyU_l, tyU_t, rngOk_i, zipU_map, intsU_map, blsU_map, oAll_l, cutU_1, cutU_m1, drop_map, reverse_map, length_map', dropLast_map, oEq_i, oNe_i, oEq_b, oNe_b, oEq_nn, oNe_nn, oEq_pp, oNe_pp, oEq_ii, oNe_ii, mCallL_m, lendM_ok, lendM_ex, lendA_some, lendR_b, lendR_i, lendR_n, lendR_ex, resolveL_nil, resolveL_v, resolveL_c, resC_c, List.zip_cons_cons, List.zip_nil_left, oEqS_s, oNeS_s, mCallF_m, oMul_s, oIsN_i, oIsN_b, oIsN_t, oPowX_i, mMakeS_m, mMakeL_m, mFld_m, mProp_m, mnSeq_m, mnS_m, mnF_m, at0_e, allX_const, seqU_l, seqU_f, seqU_t, msWhile_m, mCallK_m, pm_nil, pm_cons, List.mem_singleton, and_self, resC_d, scV_b, scV_i, scV_s, scV_n, Option.isSome_some, tyU_d, mgTup_2, mgTup_3, mgTup_4, or_false, false_or, or_self, or_true, true_or, Nat.reduceBEq, bindEA_ok, bindEA_ex, mLstL_m, unown, kills, cellAt, List.map_cons, List.map_nil, List.length_cons, List.length_nil, List.cons_append, List.nil_append, List.replicate, List.getElem?_cons_succ, List.getElem?_cons_zero, List.set_cons_zero, List.set_cons_succ, Option.map_some, Option.map_none, Option.bind_some, Option.bind_none, Nat.reduceAdd, Nat.reduceSub, Nat.reduceLeDiff, Int.reduceLT, Int.reduceLE, Int.reduceNeg, Int.reduceToNat, Int.reducePow, decide_eq_true_eq, reduceIte, eq_self, ite_true, ite_false, Bool.false_eq_true, reduceCtorEq, resolve, celJ, nCel, Slot.isC, List.filter, putJ, callM, callMF, List.append_eq, Nat.reduceLT, Int.reduceMul, Int.reduceAdd, Int.reduceSub, ne_eq, not_true_eq_false, not_false_eq_true, Bool.not_false, Bool.not_true, decide_true, decide_false, frF, Int.cast_ofNat_Int, Bool.and_true, Bool.true_and, Bool.false_and, Bool.and_false, Bool.or_false, Bool.false_or, Bool.true_or, Bool.or_true, G__law_runs_0, G__law_scale_0, T__law_scale_1, E__law_scale_2, G_number_in_0, T_number_in_1, E_number_in_2, G_are_values_0, T_are_values_1, E_are_values_2, G_are_values_3, T_are_values_4, E_are_values_5, G_read_system_0, G_write_system_0, T_write_system_1, E_write_system_2, G_common_divisor_2, G__law_system_right_0, T__law_system_right_1, E__law_system_right_2, G_read_word_0, G_write_word_0, T_write_word_1, E_write_word_2, G__law_text_0, T__law_text_1, E__law_text_2, G_law_0, G_law_2, G_law_4, T_law_5, E_law_6, G_law_7, T_law_8, E_law_9, mSplit_m, mJoin_m, mFmt_m, mJs_m, mjNil_m, mjCons_m, miStr_m, miEnumF_m, msStar_m, msMatch_m, strsU_map, msRaiseF_m]; try rfl))
def rdS (vals : List Int) (i : Nat) : List Str → List Int ⊕ Nat
  | [] => .inl vals
  | s :: r => match signP (TL.tl s) with
    | none => .inr i
    | some v => if 6 ≤ vals.length ∨ (∃ l, vals.getLast? = some l ∧ v ≤ l) then .inr i else rdS (vals ++ [v]) (i + 1) r
theorem sign_ins (s : Str) (hs : s.length ≤ 16777214) : mf_sign_in K [.val (.str s)] = some (.val (optI (signP (TL.tl s))) none) := sign_in_k s (by omega)
theorem rds_good (t nm P : U) (vals : List Int) (i : Nat) (s : Str) (v : Int) (hs : s.length ≤ 16777214) (hp : signP (TL.tl s) = some v) (hf : vals.length < 6) (hl : ∀ l, vals.getLast? = some l → l < v) :
    (B_read_system_1 K).m [.val t, .val nm, .val P, .cel true (vals.map U.int), .val (.int (i : Nat)), .val (.str s), .non] = some (.nx [.val t, .val nm, .val P, .cel true ((vals ++ [v]).map U.int), .val (.int (i : Nat)), .val (.str s), .val (.int v)]) := by
  have e := sign_ins (K := K) s hs
  rw [hp] at e
  have e' : mf_sign_in K [.val (.str s)] = some (.val (.int v) none) := e
  have eN : (oIsN (K := K)).f (.int v) .non = some (.bl false) := rfl
  have d1 : decide ((6 : Int) ≤ ((vals.length : Nat) : Int)) = false := decide_eq_false (by omega)
  have el : (oLen (K := K)).f [.lst (vals.map U.int)] = some (.int (vals.length : Nat)) := by rw [oLen_l, List.length_map]
  have n0 : (oNe (K := K)).f (.lst (vals.map U.int)) (.lst []) = some (.bl (!decide (vals = []))) := oNe_ii vals []
  have hlen : (vals.map U.int).length < 16777216 := by rw [List.length_map]; omega
  rw [List.map_append]
  rcases List.eq_nil_or_concat vals with rfl | ⟨f0, q, hq⟩
  · have n1 : (oNe (K := K)).f (.lst []) (.lst []) = some (.bl false) := oNe_pp [] []
    have n2 : (oAppend (K := K)).f [] [.int v] = some (.non, [.int v]) := rfl
    have el : (oLen (K := K)).f [.lst []] = some (.int 0) := rfl
    have d1 : decide ((6 : Int) ≤ 0) = false := rfl
    clear e hp hl hf hs n0
    unfold B_read_system_1
    trivial
  · rw [List.concat_eq_append] at hq
    subst hq
    have hne : decide (f0 ++ [q] = []) = false := by simp
    rw [hne] at n0
    have ela : atI ((f0 ++ [q]).map U.int) (-1) = some (.int q) := by rw [List.map_append]; exact atI_last _ _
    have eq1 : (oLe (K := K)).f (.int v) (.int q) = some (.bl false) := by
      have := hl q (by simp)
      show some (U.bl (decide (v ≤ q))) = _
      rw [decide_eq_false (by omega)]
    have ea : (oAppend (K := K)).f ((f0 ++ [q]).map U.int) [.int v] = some (.non, (f0 ++ [q]).map U.int ++ [.int v]) := by
      show (if _ then _ else _) = _
      rw [if_pos hlen]
    clear e hp hl hf hs hne hlen
    generalize (((f0 ++ [q]).length : Nat) : Int) = N at *
    generalize (f0 ++ [q]).map U.int = F at *
    generalize (i : Int) = I at *
    show _ = some (SO.nx [.val t, .val nm, .val P, .cel true (F ++ [.int v]), .val (.int I), .val (.str s), .val (.int v)])
    unfold B_read_system_1
    trivial
theorem rds_bad (t nm P : U) (vals : List Int) (i : Nat) (s : Str) (hs : s.length ≤ 16777214) (hf : vals.length ≤ 6) (hb : ∀ v, signP (TL.tl s) = some v → 6 ≤ vals.length ∨ ∃ l, vals.getLast? = some l ∧ v ≤ l) :
    ∃ x : U, (B_read_system_1 K).m [.val t, .val nm, .val P, .cel true (vals.map U.int), .val (.int (i : Nat)), .val (.str s), .non] = some (.ex (ivX i) [.val t, .val nm, .val P, .cel true (vals.map U.int), .val (.int (i : Nat)), .val (.str s), .val x]) := by
  have e := sign_ins (K := K) s hs
  have el : (oLen (K := K)).f [.lst (vals.map U.int)] = some (.int (vals.length : Nat)) := by rw [oLen_l, List.length_map]
  cases hp : signP (TL.tl s) with
  | none =>
    rw [hp] at e
    have e' : mf_sign_in K [.val (.str s)] = some (.val .non none) := e
    have eN : (oIsN (K := K)).f .non .non = some (.bl true) := rfl
    clear e hp hb hf hs el
    generalize vals.map U.int = F at *
    refine ⟨.non, ?_⟩
    unfold B_read_system_1
    trivial
  | some v =>
    rw [hp] at e
    have e' : mf_sign_in K [.val (.str s)] = some (.val (.int v) none) := e
    have eN : (oIsN (K := K)).f (.int v) .non = some (.bl false) := rfl
    by_cases hi : 6 ≤ vals.length
    · have d1 : decide ((6 : Int) ≤ ((vals.length : Nat) : Int)) = true := decide_eq_true (by omega)
      clear e hp hb hf hs hi
      generalize ((vals.length : Nat) : Int) = N at *
      generalize vals.map U.int = F at *
      refine ⟨.int v, ?_⟩
      unfold B_read_system_1
      trivial
    · have d1 : decide ((6 : Int) ≤ ((vals.length : Nat) : Int)) = false := decide_eq_false (by omega)
      obtain ⟨l, hl, hv⟩ := (hb v hp).resolve_left hi
      have n0 : (oNe (K := K)).f (.lst (vals.map U.int)) (.lst []) = some (.bl (!decide (vals = []))) := oNe_ii vals []
      rcases List.eq_nil_or_concat vals with rfl | ⟨f0, q, hq⟩
      · simp at hl
      · rw [List.concat_eq_append] at hq
        subst hq
        have hne : decide (f0 ++ [q] = []) = false := by simp
        rw [hne] at n0
        have ela : atI ((f0 ++ [q]).map U.int) (-1) = some (.int q) := by rw [List.map_append]; exact atI_last _ _
        have hq : q = l := by simpa using hl
        have eq1 : (oLe (K := K)).f (.int v) (.int q) = some (.bl true) := by
          show some (U.bl (decide (v ≤ q))) = _
          rw [decide_eq_true (by omega)]
        clear e hp hl hf hi hs hne hb hq hv
        generalize (((f0 ++ [q]).length : Nat) : Int) = N at *
        generalize (f0 ++ [q]).map U.int = F at *
        refine ⟨.int v, ?_⟩
        unfold B_read_system_1
        trivial
theorem rds_get (t nm P : U) (F : List U) (i : Nat) (s : U) : (G_read_system_0 K).m (.tup [.int (i : Nat), s]) [.val t, .val nm, .val P, .cel true F, .non, .non, .non] = some [.val t, .val nm, .val P, .cel true F, .val (.int (i : Nat)), .val s, .non] := by
  generalize (i : Int) = I
  ac_rfl
theorem rds_loop (t nm P : U) : ∀ (ps : List Str) (i : Nat) (vals : List Int), (∀ s ∈ ps, s.length ≤ 16777214) → vals.length ≤ 6 →
    (∀ fs, rdS vals i ps = .inl fs → loopM (G_read_system_0 K).m (B_read_system_1 K).m [4, 5, 6] (enumF (i : Nat) (ps.map U.str)) [.val t, .val nm, .val P, .cel true (vals.map U.int), .non, .non, .non] = some (.nx [.val t, .val nm, .val P, .cel true (fs.map U.int), .non, .non, .non])) ∧
    (∀ j, rdS vals i ps = .inr j → ∃ ρ', loopM (G_read_system_0 K).m (B_read_system_1 K).m [4, 5, 6] (enumF (i : Nat) (ps.map U.str)) [.val t, .val nm, .val P, .cel true (vals.map U.int), .non, .non, .non] = some (.ex (ivX j) (.val t :: ρ')))
  | [], i, vals, _, _ => ⟨fun fs h => (by cases h; rfl), fun j h => (by cases h)⟩
  | s :: r, i, vals, h1, h2 => by
    have hs := h1 s List.mem_cons_self
    have hg := rds_get (K := K) t nm P (vals.map U.int) i (.str s)
    have bad : (∀ v, signP (TL.tl s) = some v → 6 ≤ vals.length ∨ ∃ l, vals.getLast? = some l ∧ v ≤ l) → ∃ ρ', loopM (G_read_system_0 K).m (B_read_system_1 K).m [4, 5, 6] (enumF (i : Nat) ((s :: r).map U.str)) [.val t, .val nm, .val P, .cel true (vals.map U.int), .non, .non, .non] = some (.ex (ivX i) (.val t :: ρ')) := fun hb => by
      obtain ⟨x, e⟩ := rds_bad (K := K) t nm P vals i s hs h2 hb
      refine ⟨[.val nm, .val P, .cel true (vals.map U.int), .val (.int (i : Nat)), .val (.str s), .val x], ?_⟩
      show loopM _ _ _ (.tup [.int (i : Nat), .str s] :: enumF ((i : Nat) + 1) (r.map U.str)) _ = _
      unfold loopM
      simp only [hg, e]
    unfold rdS
    cases hp : signP (TL.tl s) with
    | none =>
      refine ⟨fun fs h => (by cases h), fun j h => ?_⟩
      cases h
      exact bad (fun p hp' => by rw [hp] at hp'; cases hp')
    | some p =>
      dsimp only
      by_cases hc : 6 ≤ vals.length ∨ ∃ l, vals.getLast? = some l ∧ p ≤ l
      · rw [if_pos hc]
        refine ⟨fun fs h => (by cases h), fun j h => ?_⟩
        cases h
        exact bad (fun p' hp' => by rw [hp] at hp'; cases hp'; exact hc)
      · rw [if_neg hc]
        obtain ⟨hc1, hc2⟩ := not_or.mp hc
        have e := rds_good (K := K) t nm P vals i s p hs hp (by omega) (fun l hl => Int.not_le.mp fun z => hc2 ⟨l, hl, z⟩)
        have ih := rds_loop t nm P r (i + 1) (vals ++ [p]) (fun x hx => h1 x (List.mem_cons_of_mem _ hx)) (by rw [List.length_append, List.length_singleton]; omega)
        have st : loopM (G_read_system_0 K).m (B_read_system_1 K).m [4, 5, 6] (enumF (i : Nat) ((s :: r).map U.str)) [.val t, .val nm, .val P, .cel true (vals.map U.int), .non, .non, .non] = loopM (G_read_system_0 K).m (B_read_system_1 K).m [4, 5, 6] (enumF ((i + 1 : Nat)) (r.map U.str)) [.val t, .val nm, .val P, .cel true ((vals ++ [p]).map U.int), .non, .non, .non] := by
          show loopM _ _ _ (.tup [.int (i : Nat), .str s] :: enumF ((i : Nat) + 1) (r.map U.str)) _ = _
          rw [loopM]
          simp only [hg, e]
          rfl
        rw [st]
        exact ih
theorem nin_k (k : Kd) : (oIn (K := K) true).f (.str k.s) (.tup [.str "plain", .str "single", .str "next", .str "block", .str "later"]) = some (.bl false) := by cases k <;> rfl
section
variable (t : Str) (hl : t.length ≤ 16777214) (k : Kd) (ps : List Str) (hps : Txt.split t " " = k.s :: ps) (hn : ps.length ≤ 16383)
include hl hps hn
theorem rs_loop : (∀ fs, rdS [] 1 ps = .inl fs → loopM (G_read_system_0 K).m (B_read_system_1 K).m [4, 5, 6] (enumF 1 (ps.map U.str)) [.val (.str t), .val (.str k.s), .val (.lst (ps.map U.str)), .cel true [], .non, .non, .non] = some (.nx [.val (.str t), .val (.str k.s), .val (.lst (ps.map U.str)), .cel true (fs.map U.int), .non, .non, .non])) ∧
    (∀ j, rdS [] 1 ps = .inr j → ∃ ρ', loopM (G_read_system_0 K).m (B_read_system_1 K).m [4, 5, 6] (enumF 1 (ps.map U.str)) [.val (.str t), .val (.str k.s), .val (.lst (ps.map U.str)), .cel true [], .non, .non, .non] = some (.ex (ivX j) (.val (.str t) :: ρ'))) := by
  have hp := part_len (s := t) blank_tl kind_blank
  rw [hps] at hp
  exact rds_loop (K := K) (.str t) (.str k.s) (.lst (ps.map U.str)) ps 1 [] (fun s hs => by have := hp s (List.mem_cons_of_mem _ hs); omega) (by simp)
theorem rs_ok (vs : List Int) (hv : ValsOk vs) (h : rdS [] 1 ps = .inl vs) : mf_read_system K [.val (.str t)] = some (.val (sysU vs k) none) := by
  obtain ⟨l1, _⟩ := rs_loop (K := K) t hl k ps hps hn
  have l := l1 vs h
  have i1 := nin_k (K := K) k
  have e := of_k (K := K) vs k hv
  have n1 : (oEq (K := K)).f (.lst (vs.map U.int)) (.lst []) = some (.bl false) := by
    have z : (oEq (K := K)).f (.lst (vs.map U.int)) (.lst []) = some (.bl (decide (vs = []))) := oEq_u _ _ _ ((eqLst eqInt).eq (by decide) vs [])
    rw [z, decide_eq_false]
    intro z
    have := hv.pos
    rw [z] at this
    simp at this
  have hn' : (ps.map U.str).length ≤ 16383 := by rw [List.length_map]; exact hn
  clear l1 h hn hv
  generalize sysU vs k = S at *
  generalize hm : ps.map U.str = us at *
  generalize k.s = ks at *
  generalize vs.map U.int = F at *
  unfold mf_read_system M_read_system
  trivial
end
end Sg
set_option Elab.async false
set_option linter.all false
set_option maxRecDepth 100000
set_option maxHeartbeats 1000000
namespace Sg
open PySem L2
variable {K : PySem.W.Frag}
theorem mem_zip1 {α : Type} (b : List α) (x y : α) : ∀ a : List α, (x, y) ∈ (a ++ x :: y :: b).zip ((a ++ x :: y :: b).drop 1)
  | [] => by simp
  | [c] => by simp
  | c :: d :: a => by
    have ih := mem_zip1 b x y (d :: a)
    show (x, y) ∈ (c, d) :: ((d :: a) ++ x :: y :: b).zip (((d :: a) ++ x :: y :: b).drop 1)
    exact List.mem_cons_of_mem _ ih
def AdjP (w : List (Int × Int)) : Prop := ∀ p ∈ w.zip (w.drop 1), p.1.1 ≠ p.2.1
theorem rdW_run : ∀ (w found : List (Int × Int)) (i : Nat) (rest : List Str), (∀ p ∈ w, RunOk p) → AdjP (found ++ w) → i + w.length ≤ 200 → rdW found i (w.map rtx ++ rest) = rdW (found ++ w) (i + w.length) rest
  | [], found, i, rest, _, _, _ => by simp
  | p :: r, found, i, rest, h, ha, hl => by
    have hp := h p List.mem_cons_self
    have e := runP_rtx p hp.v1 hp.v2 hp.c1 hp.c2
    rw [List.length_cons] at hl
    have ih := rdW_run r (found ++ [p]) (i + 1) rest (fun q hq => h q (List.mem_cons_of_mem _ hq)) (by rw [List.append_assoc]; exact ha) (by omega)
    rw [List.map_cons, List.cons_append, rdW, e]
    dsimp only
    rw [if_neg, ih, List.append_assoc, List.length_cons]
    · show rdW (found ++ (p :: r)) _ _ = _
      congr 1
      omega
    · intro z
      rcases z with z | z
      · omega
      · rcases List.eq_nil_or_concat found with rfl | ⟨f0, q, hq⟩
        · simp at z
        · rw [List.concat_eq_append] at hq
          subst hq
          have zz : q.1 = p.1 := by simpa using z
          refine ha (q, p) ?_ zz
          rw [List.append_assoc]
          exact mem_zip1 r q p f0
def AscP (w : List Int) : Prop := ∀ p ∈ w.zip (w.drop 1), p.1 < p.2
theorem rdS_run : ∀ (w vals : List Int) (i : Nat) (rest : List Str), (∀ p ∈ w, 1 ≤ p ∧ p ≤ 60) → AscP (vals ++ w) → (vals ++ w).length ≤ 6 → rdS vals i (w.map numS ++ rest) = rdS (vals ++ w) (i + w.length) rest
  | [], vals, i, rest, _, _, _ => by simp
  | p :: r, vals, i, rest, h, ha, hl => by
    have hp := h p List.mem_cons_self
    have e : signP (TL.tl (numS p)) = some p := signP_num p hp.1 hp.2
    have hl2 := hl
    rw [List.length_append, List.length_cons] at hl2
    have ih := rdS_run r (vals ++ [p]) (i + 1) rest (fun q hq => h q (List.mem_cons_of_mem _ hq)) (by rw [List.append_assoc]; exact ha) (by rw [List.append_assoc]; exact hl)
    rw [List.map_cons, List.cons_append, rdS, e]
    dsimp only
    rw [if_neg, ih, List.append_assoc, List.length_cons]
    · show rdS (vals ++ (p :: r)) _ _ = _
      congr 1
      omega
    · intro z
      rcases z with z | ⟨l, z, zl⟩
      · omega
      · rcases List.eq_nil_or_concat vals with rfl | ⟨f0, q, hq⟩
        · simp at z
        · rw [List.concat_eq_append] at hq
          subst hq
          have zz : q = l := by simpa using z
          have := ha (q, p) (by rw [List.append_assoc]; exact mem_zip1 r q p f0)
          dsimp only at this
          omega
theorem joinL_len (S : List Nat) (b : Nat) : ∀ ps : List (List Nat), (∀ p ∈ ps, p.length ≤ b) → (TL.joinL S ps).length ≤ ps.length * (b + S.length)
  | [], _ => by simp [TL.joinL]
  | [p], h => by
    have := h p (by simp)
    show p.length ≤ 1 * (b + S.length)
    omega
  | p :: q :: r, h => by
    have h1 := h p (by simp)
    have ih := joinL_len S b (q :: r) (fun x hx => h x (List.mem_cons_of_mem _ hx))
    show (p ++ (S ++ TL.joinL S (q :: r))).length ≤ _
    rw [List.length_append, List.length_append]
    rw [List.length_cons, Nat.succ_mul]
    omega
theorem text_len (ps : List Str) (h : ∀ p ∈ ps, p.length ≤ 121) (hl : ps.length ≤ 300) : (Txt.join " " ps).length ≤ 40000 := by
  rw [TL.len_tl, tl_joinT, blank_tl]
  have := joinL_len [32] 121 (ps.map TL.tl) (fun p hp => by
    obtain ⟨q, hq, rfl⟩ := List.mem_map.mp hp
    rw [← TL.len_tl]
    exact h q hq)
  rw [List.length_map, List.length_singleton] at this
  have : ps.length * (121 + 1) ≤ 300 * (121 + 1) := Nat.mul_le_mul_right _ hl
  omega
end Sg
set_option Elab.async false
set_option linter.all false
set_option maxRecDepth 100000
set_option maxHeartbeats 1000000
namespace Sg
open PySem L2
variable {K : PySem.W.Frag}
local macro_rules | `(tactic| trivial) => `(tactic| simp -implicitDefEqProofs (disch := omega) only [*, mC_m, mVar_m, mLook_m, mLet_m, mSc_m, mNil_m, msNil_m, msSeq_m, msAsgF_m, msDrop_m, msRet_m, msRetF_m, msRetC_m, msRaise_m, msFor_m, mtYes_m, mLc_m, mcNil_m, mcCel_m, mCall_m, moNone_m, moSome_m, mSlL_m, mBi_m, mBiF_m, miList_m, miRng1_m, miEnum_m, miZip_m, mMeth_m, mMeth0_m, msSet_m, mCat_m, mChain_m, mIsi_m, mListRng_m, mCallF_m, msParVV_m, msParFV_m, mMethD_m, mCMeth_m, mConC_m, okE_some, okE_none, opE_ok, opE_ex, opF_ok, opF_ex, mOp_e, mIx_e, unE_ok, mUn_e, coE_ok, coE_ex, coF_ok, coF_ex, mCons_e, bindAE_ok, bindAE_ex, mTup_e, tupF_e, mFr_e, lstF_ok, mLst_e, tsE_ok, tsE_ex, mTest_e, okT_some, truE_ok, truE_ex, mTru_e, anE_t, anE_f, anE_ok, orE_t, orE_f, orE_ok, mAnd_e, mOr_e, noE_ok, noE_ex, mNot_e, blV_ok, blV_ex, anV_t, anV_f, anV_ok, mAndV_e, noV_ok, noV_ex, mNotV_e, ifV_t, ifV_f, ifV_ok, mIf_e, ifS_t, ifS_f, ifS_ok, ifS_ex, msIf_e, nxO_some, asE_ok, asE_ex, msAsg_e, gcE_some, mgCons_e, mgNil_e, mgTup_e, mgName_e, cvE_ok, cvE_ex, consC_ok, mcVal_e, thenS_nx, thenS_bk, thenS_ct, thenS_rt, thenS_ex, bindES_ok, bindES_ex, bindAS_ok, bindAS_ex, bindE_ok, bindE_ex, mfOf_e, mfOf0_e, noX_val, noX_cel, coM_some, fin_val, fin_cel, fin_nx, fin_ex, oAdd_i, oSub_i, oMul_l, oMul_r, oMod_i, oDiv_i, oPow_i, oLt_i, oLe_i, oGt_i, oGe_i, oIx_l, oIx_f, oIx_t, at1_0, at2_0, at2_1, at3_0, at3_1, at3_2, at4_0, at4_1, at4_2, at4_3, ix3_0, ix3_1, ix3_2, oIsN_non, oNotN_non, oNotN_lst, oIsN_lst, oMax2_i, oMin2_i, oAbs_i, oLen_l, oLen_f, oLen_t, oNeg_i, truU_i, truU_l, truU_b, truU_n, lstU_l, lstU_f, oAppend_u, lstF_0, tupF_0, lstF_1, tupF_1, lstF_2, tupF_2, lstF_3, tupF_3, lstF_4, tupF_4, lstF_5, tupF_5, lstF_6, tupF_6, isi_NoneType_bool, isi_NoneType_int, isi_NoneType_str, isi_NoneType_list, isi_NoneType_tuple, isi_NoneType_dict, isi_bool_bool, isi_bool_int, isi_bool_str, isi_bool_list, isi_bool_tuple, isi_bool_dict, isi_int_bool, isi_int_int, isi_int_str, isi_int_list, isi_int_tuple, isi_int_dict, isi_str_bool, isi_str_int, isi_str_str, isi_str_list, isi_str_tuple, isi_str_dict, isi_list_bool, isi_list_int, isi_list_str, isi_list_list, isi_list_tuple, isi_list_dict, isi_tuple_bool, isi_tuple_int, isi_tuple_str, isi_tuple_list, isi_tuple_tuple, isi_tuple_dict, isi_dict_bool, isi_dict_int, isi_dict_str, isi_dict_list, isi_dict_tuple, isi_dict_dict, tyU_n, tyU_b, tyU_i, tyU_s, tyU_l, tyU_t, rngOk_i, zipU_map, intsU_map, blsU_map, oAll_l, cutU_1, cutU_m1, drop_map, reverse_map, length_map', dropLast_map, oEq_i, oNe_i, oEq_b, oNe_b, oEq_nn, oNe_nn, oEq_pp, oNe_pp, oEq_ii, oNe_ii, mCallL_m, lendM_ok, lendM_ex, lendA_some, lendR_b, lendR_i, lendR_n, lendR_ex, resolveL_nil, resolveL_v, resolveL_c, resC_c, List.zip_cons_cons, List.zip_nil_left, oEqS_s, oNeS_s, mCallF_m, oMul_s, oIsN_i, oIsN_b, oIsN_t, oPowX_i, mMakeS_m, mMakeL_m, mFld_m, mProp_m, mnSeq_m, mnS_m, mnF_m, at0_e, allX_const, seqU_l, seqU_f, seqU_t, msWhile_m, mCallK_m, pm_nil, pm_cons, List.mem_singleton, and_self, resC_d, scV_b, scV_i, scV_s, scV_n, Option.isSome_some, tyU_d, mgTup_2, mgTup_3, mgTup_4, or_false, false_or, or_self, or_true, true_or, Nat.reduceBEq, bindEA_ok, bindEA_ex, mLstL_m, unown, kills, cellAt, List.map_cons, List.map_nil, List.length_cons, List.length_nil, List.cons_append, List.nil_append, List.replicate, List.getElem?_cons_succ, List.getElem?_cons_zero, List.set_cons_zero, List.set_cons_succ, Option.map_some, Option.map_none, Option.bind_some, Option.bind_none, Nat.reduceAdd, Nat.reduceSub, Nat.reduceLeDiff, Int.reduceLT, Int.reduceLE, Int.reduceNeg, Int.reduceToNat, Int.reducePow, decide_eq_true_eq, reduceIte, eq_self, ite_true, ite_false, Bool.false_eq_true, reduceCtorEq, resolve, celJ, nCel, Slot.isC, List.filter, putJ, callM, callMF, List.append_eq, Nat.reduceLT, Int.reduceMul, Int.reduceAdd, Int.reduceSub, ne_eq, not_true_eq_false, not_false_eq_true, Bool.not_false, Bool.not_true, decide_true, decide_false, frF, Int.cast_ofNat_Int, Bool.and_true, Bool.true_and, Bool.false_and, Bool.and_false, Bool.or_false, Bool.false_or, Bool.true_or, Bool.or_true, oList_l])
local macro_rules | `(tactic| ac_rfl) => `(tactic| (simp -implicitDefEqProofs (disch := omega) only [*, mC_m, mVar_m, mLook_m, mLet_m, mSc_m, mNil_m, msNil_m, msSeq_m, msAsgF_m, msDrop_m, msRet_m, msRetF_m, msRetC_m, msRaise_m, msFor_m, mtYes_m, mLc_m, mcNil_m, mcCel_m, mCall_m, moNone_m, moSome_m, mSlL_m, mBi_m, mBiF_m, miList_m, miRng1_m, miEnum_m, miZip_m, mMeth_m, mMeth0_m, msSet_m, mCat_m, mChain_m, mIsi_m, mListRng_m, mCallF_m, msParVV_m, msParFV_m, mMethD_m, mCMeth_m, mConC_m, okE_some, okE_none, opE_ok, opE_ex, opF_ok, opF_ex, mOp_e, mIx_e, unE_ok, mUn_e, coE_ok, coE_ex, coF_ok, coF_ex, mCons_e, bindAE_ok, bindAE_ex, mTup_e, tupF_e, mFr_e, lstF_ok, mLst_e, tsE_ok, tsE_ex, mTest_e, okT_some, truE_ok, truE_ex, mTru_e, anE_t, anE_f, anE_ok, orE_t, orE_f, orE_ok, mAnd_e, mOr_e, noE_ok, noE_ex, mNot_e, blV_ok, blV_ex, anV_t, anV_f, anV_ok, mAndV_e, noV_ok, noV_ex, mNotV_e, ifV_t, ifV_f, ifV_ok, mIf_e, ifS_t, ifS_f, ifS_ok, ifS_ex, msIf_e, nxO_some, asE_ok, asE_ex, msAsg_e, gcE_some, mgCons_e, mgNil_e, mgTup_e, mgName_e, cvE_ok, cvE_ex, consC_ok, mcVal_e, thenS_nx, thenS_bk, thenS_ct, thenS_rt, thenS_ex, bindES_ok, bindES_ex, bindAS_ok, bindAS_ex, bindE_ok, bindE_ex, mfOf_e, mfOf0_e, noX_val, noX_cel, coM_some, fin_val, fin_cel, fin_nx, fin_ex, oAdd_i, oSub_i, oMul_l, oMul_r, oMod_i, oDiv_i, oPow_i, oLt_i, oLe_i, oGt_i, oGe_i, oIx_l, oIx_f, oIx_t, at1_0, at2_0, at2_1, at3_0, at3_1, at3_2, at4_0, at4_1, at4_2, at4_3, ix3_0, ix3_1, ix3_2, oIsN_non, oNotN_non, oNotN_lst, oIsN_lst, oMax2_i, oMin2_i, oAbs_i, oLen_l, oLen_f, oLen_t, oNeg_i, truU_i, truU_l, truU_b, truU_n, lstU_l, lstU_f, oAppend_u, lstF_0, tupF_0, lstF_1, tupF_1, lstF_2, tupF_2, lstF_3, tupF_3, lstF_4, tupF_4, lstF_5, tupF_5, lstF_6, tupF_6, isi_NoneType_bool, isi_NoneType_int, isi_NoneType_str, isi_NoneType_list, isi_NoneType_tuple, isi_NoneType_dict, isi_bool_bool, isi_bool_int, isi_bool_str, isi_bool_list, isi_bool_tuple, isi_bool_dict, isi_int_bool, isi_int_int, isi_int_str, isi_int_list, isi_int_tuple, isi_int_dict, isi_str_bool, isi_str_int, isi_str_str, isi_str_list, isi_str_tuple, isi_str_dict, isi_list_bool, isi_list_int, isi_list_str, isi_list_list, isi_list_tuple, isi_list_dict, isi_tuple_bool, isi_tuple_int, isi_tuple_str, isi_tuple_list, isi_tuple_tuple, isi_tuple_dict, isi_dict_bool, isi_dict_int, isi_dict_str, isi_dict_list, isi_dict_tuple, isi_dict_dict, tyU_n, tyU_b, tyU_i, tyU_s, tyU_l, tyU_t, rngOk_i, zipU_map, intsU_map, blsU_map, oAll_l, cutU_1, cutU_m1, drop_map, reverse_map, length_map', dropLast_map, oEq_i, oNe_i, oEq_b, oNe_b, oEq_nn, oNe_nn, oEq_pp, oNe_pp, oEq_ii, oNe_ii, mCallL_m, lendM_ok, lendM_ex, lendA_some, lendR_b, lendR_i, lendR_n, lendR_ex, resolveL_nil, resolveL_v, resolveL_c, resC_c, List.zip_cons_cons, List.zip_nil_left, oEqS_s, oNeS_s, mCallF_m, oMul_s, oIsN_i, oIsN_b, oIsN_t, oPowX_i, mMakeS_m, mMakeL_m, mFld_m, mProp_m, mnSeq_m, mnS_m, mnF_m, at0_e, allX_const, seqU_l, seqU_f, seqU_t, msWhile_m, mCallK_m, pm_nil, pm_cons, List.mem_singleton, and_self, resC_d, scV_b, scV_i, scV_s, scV_n, Option.isSome_some, tyU_d, mgTup_2, mgTup_3, mgTup_4, or_false, false_or, or_self, or_true, true_or, Nat.reduceBEq, bindEA_ok, bindEA_ex, mLstL_m, unown, kills, cellAt, List.map_cons, List.map_nil, List.length_cons, List.length_nil, List.cons_append, List.nil_append, List.replicate, List.getElem?_cons_succ, List.getElem?_cons_zero, List.set_cons_zero, List.set_cons_succ, Option.map_some, Option.map_none, Option.bind_some, Option.bind_none, Nat.reduceAdd, Nat.reduceSub, Nat.reduceLeDiff, Int.reduceLT, Int.reduceLE, Int.reduceNeg, Int.reduceToNat, Int.reducePow, decide_eq_true_eq, reduceIte, eq_self, ite_true, ite_false, Bool.false_eq_true, reduceCtorEq, resolve, celJ, nCel, Slot.isC, List.filter, putJ, callM, callMF, List.append_eq, Nat.reduceLT, Int.reduceMul, Int.reduceAdd, Int.reduceSub, ne_eq, not_true_eq_false, not_false_eq_true, Bool.not_false, Bool.not_true, decide_true, decide_false, frF, Int.cast_ofNat_Int, Bool.and_true, Bool.true_and, Bool.false_and, Bool.and_false, Bool.or_false, Bool.false_or, Bool.true_or, Bool.or_true, G__law_runs_0, G__law_scale_0, T__law_scale_1, E__law_scale_2, G_number_in_0, T_number_in_1, E_number_in_2, G_are_values_0, T_are_values_1, E_are_values_2, G_are_values_3, T_are_values_4, E_are_values_5, G_read_system_0, G_write_system_0, T_write_system_1, E_write_system_2, G_common_divisor_2, G__law_system_right_0, T__law_system_right_1, E__law_system_right_2, G_read_word_0, G_write_word_0, T_write_word_1, E_write_word_2, G__law_text_0, T__law_text_1, E__law_text_2, G_law_0, G_law_2, G_law_4, T_law_5, E_law_6, G_law_7, T_law_8, E_law_9, oList_l]; try rfl))
abbrev dvE (M : U) (a : Int) (x2 x3 : Slot) : Env := [.val M, .val (.int a), x2, x3]
theorem dv_loop (M : U) (x2 : Slot) : ∀ (n : Nat) (a b : Int), 0 ≤ b → b < (n : Int) → b ≤ 1000 → ∃ g, loopW (W_common_divisor_0 K).m (B_common_divisor_1 K).m n (dvE M a x2 (.val (.int b))) = some (.nx (dvE M g x2 (.val (.int 0)))) ∧ g ∣ a ∧ g ∣ b ∧ (0 ≤ a → 0 ≤ g) ∧ ∀ P : Int → Prop, (∀ x y q, P x → P y → P (x - y * q)) → P a → P b → P g
  | 0, a, b, h0, h1, _ => by omega
  | n + 1, a, b, h0, h1, h2 => by
    by_cases c : 0 < b
    · have hb : b < 1000000000000000000000000000000000000000000000000000000000000000000000000 := by omega
      have m0 := Int.emod_nonneg a (b := b) (by omega)
      have m1 := Int.emod_lt_of_pos a c
      obtain ⟨g, e, d1, d2, d3, d4⟩ := dv_loop M x2 n b (a % b) m0 (by omega) (by omega)
      refine ⟨g, ?_, ?_, d1, fun _ => d3 h0, fun P hP ha hb => d4 P hP hb ?_⟩
      · have ew : (W_common_divisor_0 K).m (dvE M a x2 (.val (.int b))) = some (.ok true (dvE M a x2 (.val (.int b)))) := by
          have e1 : decide (b > 0) = true := decide_eq_true c
          clear d1 d2 d3 d4 e m0 m1 h0 h1 h2
          unfold W_common_divisor_0 dvE
          trivial
          try rfl
        have eb : (B_common_divisor_1 K).m (dvE M a x2 (.val (.int b))) = some (.nx (dvE M b x2 (.val (.int (a % b))))) := by
          clear d1 d2 d3 d4 e m0 m1 h0 h1 h2 ew
          unfold B_common_divisor_1 dvE
          trivial
          try rfl
        rw [loopW_s, ew]
        dsimp only
        rw [eb]
        exact e
      · have := Int.dvd_add (Int.dvd_trans d1 (Int.dvd_mul_right b (a / b))) d2
        rwa [Int.mul_ediv_add_emod] at this
      · rw [Int.emod_def]; exact hP _ _ _ ha hb
    · have hb : b = 0 := by omega
      subst hb
      refine ⟨a, ?_, Int.dvd_refl a, Int.dvd_zero a, fun h => h, fun P _ ha _ => ha⟩
      have ew : (W_common_divisor_0 K).m (dvE M a x2 (.val (.int 0))) = some (.ok false (dvE M a x2 (.val (.int 0)))) := by
        unfold W_common_divisor_0 dvE
        trivial
        try rfl
      rw [loopW_s, ew]
theorem dv_step (M : U) (a v : Int) (h : 1 ≤ v ∧ v ≤ 60) : ∃ g, (B_common_divisor_3 K).m (dvE M a (.val (.int v)) .non) = some (.nx (dvE M g (.val (.int v)) (.val (.int 0)))) ∧ g ∣ a ∧ g ∣ v ∧ (0 ≤ a → 0 ≤ g) ∧ ∀ P : Int → Prop, (∀ x y q, P x → P y → P (x - y * q)) → P a → P v → P g := by
  obtain ⟨g, e, r⟩ := dv_loop (K := K) M (.val (.int v)) 1000 a v (by omega) (by omega) (by omega)
  refine ⟨g, ?_, r⟩
  clear r h
  unfold dvE at *
  unfold B_common_divisor_3
  trivial
  try rfl
theorem dv_for (M : U) : ∀ (vs : List Int) (a : Int), (∀ v ∈ vs, 1 ≤ v ∧ v ≤ 60) → ∃ g, loopM (G_common_divisor_2 K).m (B_common_divisor_3 K).m [2, 3] (vs.map U.int) (dvE M a .non .non) = some (.nx (dvE M g .non .non)) ∧ g ∣ a ∧ (∀ v ∈ vs, g ∣ v) ∧ (0 ≤ a → 0 ≤ g) ∧ ∀ P : Int → Prop, (∀ x y q, P x → P y → P (x - y * q)) → P a → (∀ v ∈ vs, P v) → P g
  | [], a, _ => ⟨a, rfl, Int.dvd_refl a, by simp, fun h => h, fun P _ h _ => h⟩
  | v :: vs, a, h => by
    obtain ⟨g1, e1, a1, a2, a3, a4⟩ := dv_step (K := K) M a v (h v List.mem_cons_self)
    obtain ⟨g, e, b1, b2, b3, b4⟩ := dv_for M vs g1 fun x hx => h x (List.mem_cons_of_mem _ hx)
    refine ⟨g, ?_, Int.dvd_trans b1 a1, fun x hx => ?_, fun z => b3 (a3 z), fun P hP ha hv => b4 P hP (a4 P hP ha (hv v List.mem_cons_self)) fun x hx => hv x (List.mem_cons_of_mem _ hx)⟩
    · rw [List.map_cons]
      unfold loopM
      rw [show (G_common_divisor_2 K).m (.int v) (dvE M a .non .non) = some (dvE M a (.val (.int v)) .non) from rfl]
      dsimp only
      rw [e1]
      exact e
    · rcases List.mem_cons.mp hx with z | z
      · rw [z]; exact Int.dvd_trans b1 a2
      · exact b2 x z
end Sg
set_option Elab.async false
set_option linter.all false
set_option maxRecDepth 100000
set_option maxHeartbeats 1000000
namespace Sg
open PySem L2
variable {K : PySem.W.Frag}
local macro_rules | `(tactic| trivial) => `(tactic| simp -implicitDefEqProofs (disch := omega) only [*, mC_m, mVar_m, mLook_m, mLet_m, mSc_m, mNil_m, msNil_m, msSeq_m, msAsgF_m, msDrop_m, msRet_m, msRetF_m, msRetC_m, msRaise_m, msFor_m, mtYes_m, mLc_m, mcNil_m, mcCel_m, mCall_m, moNone_m, moSome_m, mSlL_m, mBi_m, mBiF_m, miList_m, miRng1_m, miEnum_m, miZip_m, mMeth_m, mMeth0_m, msSet_m, mCat_m, mChain_m, mIsi_m, mListRng_m, mCallF_m, msParVV_m, msParFV_m, mMethD_m, mCMeth_m, mConC_m, okE_some, okE_none, opE_ok, opE_ex, opF_ok, opF_ex, mOp_e, mIx_e, unE_ok, mUn_e, coE_ok, coE_ex, coF_ok, coF_ex, mCons_e, bindAE_ok, bindAE_ex, mTup_e, tupF_e, mFr_e, lstF_ok, mLst_e, tsE_ok, tsE_ex, mTest_e, okT_some, truE_ok, truE_ex, mTru_e, anE_t, anE_f, anE_ok, orE_t, orE_f, orE_ok, mAnd_e, mOr_e, noE_ok, noE_ex, mNot_e, blV_ok, blV_ex, anV_t, anV_f, anV_ok, mAndV_e, noV_ok, noV_ex, mNotV_e, ifV_t, ifV_f, ifV_ok, mIf_e, ifS_t, ifS_f, ifS_ok, ifS_ex, msIf_e, nxO_some, asE_ok, asE_ex, msAsg_e, gcE_some, mgCons_e, mgNil_e, mgTup_e, mgName_e, cvE_ok, cvE_ex, consC_ok, mcVal_e, thenS_nx, thenS_bk, thenS_ct, thenS_rt, thenS_ex, bindES_ok, bindES_ex, bindAS_ok, bindAS_ex, bindE_ok, bindE_ex, mfOf_e, mfOf0_e, noX_val, noX_cel, coM_some, fin_val, fin_cel, fin_nx, fin_ex, oAdd_i, oSub_i, oMul_l, oMul_r, oMod_i, oDiv_i, oPow_i, oLt_i, oLe_i, oGt_i, oGe_i, oIx_l, oIx_f, oIx_t, at1_0, at2_0, at2_1, at3_0, at3_1, at3_2, at4_0, at4_1, at4_2, at4_3, ix3_0, ix3_1, ix3_2, oIsN_non, oNotN_non, oNotN_lst, oIsN_lst, oMax2_i, oMin2_i, oAbs_i, oLen_l, oLen_f, oLen_t, oNeg_i, truU_i, truU_l, truU_b, truU_n, lstU_l, lstU_f, oAppend_u, lstF_0, tupF_0, lstF_1, tupF_1, lstF_2, tupF_2, lstF_3, tupF_3, lstF_4, tupF_4, lstF_5, tupF_5, lstF_6, tupF_6, isi_NoneType_bool, isi_NoneType_int, isi_NoneType_str, isi_NoneType_list, isi_NoneType_tuple, isi_NoneType_dict, isi_bool_bool, isi_bool_int, isi_bool_str, isi_bool_list, isi_bool_tuple, isi_bool_dict, isi_int_bool, isi_int_int, isi_int_str, isi_int_list, isi_int_tuple, isi_int_dict, isi_str_bool, isi_str_int, isi_str_str, isi_str_list, isi_str_tuple, isi_str_dict, isi_list_bool, isi_list_int, isi_list_str, isi_list_list, isi_list_tuple, isi_list_dict, isi_tuple_bool, isi_tuple_int, isi_tuple_str, isi_tuple_list, isi_tuple_tuple, isi_tuple_dict, isi_dict_bool, isi_dict_int, isi_dict_str, isi_dict_list, isi_dict_tuple, isi_dict_dict, tyU_n, tyU_b, tyU_i, tyU_s, tyU_l, tyU_t, rngOk_i, zipU_map, intsU_map, blsU_map, oAll_l, cutU_1, cutU_m1, drop_map, reverse_map, length_map', dropLast_map, oEq_i, oNe_i, oEq_b, oNe_b, oEq_nn, oNe_nn, oEq_pp, oNe_pp, oEq_ii, oNe_ii, mCallL_m, lendM_ok, lendM_ex, lendA_some, lendR_b, lendR_i, lendR_n, lendR_ex, resolveL_nil, resolveL_v, resolveL_c, resC_c, List.zip_cons_cons, List.zip_nil_left, oEqS_s, oNeS_s, mCallF_m, oMul_s, oIsN_i, oIsN_b, oIsN_t, oPowX_i, mMakeS_m, mMakeL_m, mFld_m, mProp_m, mnSeq_m, mnS_m, mnF_m, at0_e, allX_const, seqU_l, seqU_f, seqU_t, msWhile_m, mCallK_m, pm_nil, pm_cons, List.mem_singleton, and_self, resC_d, scV_b, scV_i, scV_s, scV_n, Option.isSome_some, tyU_d, mgTup_2, mgTup_3, mgTup_4, or_false, false_or, or_self, or_true, true_or, Nat.reduceBEq, bindEA_ok, bindEA_ex, mLstL_m, unown, kills, cellAt, List.map_cons, List.map_nil, List.length_cons, List.length_nil, List.cons_append, List.nil_append, List.replicate, List.getElem?_cons_succ, List.getElem?_cons_zero, List.set_cons_zero, List.set_cons_succ, Option.map_some, Option.map_none, Option.bind_some, Option.bind_none, Nat.reduceAdd, Nat.reduceSub, Nat.reduceLeDiff, Int.reduceLT, Int.reduceLE, Int.reduceNeg, Int.reduceToNat, Int.reducePow, decide_eq_true_eq, reduceIte, eq_self, ite_true, ite_false, Bool.false_eq_true, reduceCtorEq, resolve, celJ, nCel, Slot.isC, List.filter, putJ, callM, callMF, List.append_eq, Nat.reduceLT, Int.reduceMul, Int.reduceAdd, Int.reduceSub, ne_eq, not_true_eq_false, not_false_eq_true, Bool.not_false, Bool.not_true, decide_true, decide_false, frF, Int.cast_ofNat_Int, Bool.and_true, Bool.true_and, Bool.false_and, Bool.and_false, Bool.or_false, Bool.false_or, Bool.true_or, Bool.or_true, mSplit_m, mJoin_m, mFmt_m, mJs_m, mjNil_m, mjCons_m, miStr_m, strsU_map, oCatS_e, mLstL_m, mcPm_m])
local macro_rules | `(tactic| ac_rfl) => `(tactic| (simp -implicitDefEqProofs (disch := omega) only [*, mC_m, mVar_m, mLook_m, mLet_m, mSc_m, mNil_m, msNil_m, msSeq_m, msAsgF_m, msDrop_m, msRet_m, msRetF_m, msRetC_m, msRaise_m, msFor_m, mtYes_m, mLc_m, mcNil_m, mcCel_m, mCall_m, moNone_m, moSome_m, mSlL_m, mBi_m, mBiF_m, miList_m, miRng1_m, miEnum_m, miZip_m, mMeth_m, mMeth0_m, msSet_m, mCat_m, mChain_m, mIsi_m, mListRng_m, mCallF_m, msParVV_m, msParFV_m, mMethD_m, mCMeth_m, mConC_m, okE_some, okE_none, opE_ok, opE_ex, opF_ok, opF_ex, mOp_e, mIx_e, unE_ok, mUn_e, coE_ok, coE_ex, coF_ok, coF_ex, mCons_e, bindAE_ok, bindAE_ex, mTup_e, tupF_e, mFr_e, lstF_ok, mLst_e, tsE_ok, tsE_ex, mTest_e, okT_some, truE_ok, truE_ex, mTru_e, anE_t, anE_f, anE_ok, orE_t, orE_f, orE_ok, mAnd_e, mOr_e, noE_ok, noE_ex, mNot_e, blV_ok, blV_ex, anV_t, anV_f, anV_ok, mAndV_e, noV_ok, noV_ex, mNotV_e, ifV_t, ifV_f, ifV_ok, mIf_e, ifS_t, ifS_f, ifS_ok, ifS_ex, msIf_e, nxO_some, asE_ok, asE_ex, msAsg_e, gcE_some, mgCons_e, mgNil_e, mgTup_e, mgName_e, cvE_ok, cvE_ex, consC_ok, mcVal_e, thenS_nx, thenS_bk, thenS_ct, thenS_rt, thenS_ex, bindES_ok, bindES_ex, bindAS_ok, bindAS_ex, bindE_ok, bindE_ex, mfOf_e, mfOf0_e, noX_val, noX_cel, coM_some, fin_val, fin_cel, fin_nx, fin_ex, oAdd_i, oSub_i, oMul_l, oMul_r, oMod_i, oDiv_i, oPow_i, oLt_i, oLe_i, oGt_i, oGe_i, oIx_l, oIx_f, oIx_t, at1_0, at2_0, at2_1, at3_0, at3_1, at3_2, at4_0, at4_1, at4_2, at4_3, ix3_0, ix3_1, ix3_2, oIsN_non, oNotN_non, oNotN_lst, oIsN_lst, oMax2_i, oMin2_i, oAbs_i, oLen_l, oLen_f, oLen_t, oNeg_i, truU_i, truU_l, truU_b, truU_n, lstU_l, lstU_f, oAppend_u, lstF_0, tupF_0, lstF_1, tupF_1, lstF_2, tupF_2, lstF_3, tupF_3, lstF_4, tupF_4, lstF_5, tupF_5, lstF_6, tupF_6, isi_NoneType_bool, isi_NoneType_int, isi_NoneType_str, isi_NoneType_list, isi_NoneType_tuple, isi_NoneType_dict, isi_bool_bool, isi_bool_int, isi_bool_str, isi_bool_list, isi_bool_tuple, isi_bool_dict, isi_int_bool, isi_int_int, isi_int_str, isi_int_list, isi_int_tuple, isi_int_dict, isi_str_bool, isi_str_int, isi_str_str, isi_str_list, isi_str_tuple, isi_str_dict, isi_list_bool, isi_list_int, isi_list_str, isi_list_list, isi_list_tuple, isi_list_dict, isi_tuple_bool, isi_tuple_int, isi_tuple_str, isi_tuple_list, isi_tuple_tuple, isi_tuple_dict, isi_dict_bool, isi_dict_int, isi_dict_str, isi_dict_list, isi_dict_tuple, isi_dict_dict, tyU_n, tyU_b, tyU_i, tyU_s, tyU_l, tyU_t, rngOk_i, zipU_map, intsU_map, blsU_map, oAll_l, cutU_1, cutU_m1, drop_map, reverse_map, length_map', dropLast_map, oEq_i, oNe_i, oEq_b, oNe_b, oEq_nn, oNe_nn, oEq_pp, oNe_pp, oEq_ii, oNe_ii, mCallL_m, lendM_ok, lendM_ex, lendA_some, lendR_b, lendR_i, lendR_n, lendR_ex, resolveL_nil, resolveL_v, resolveL_c, resC_c, List.zip_cons_cons, List.zip_nil_left, oEqS_s, oNeS_s, mCallF_m, oMul_s, oIsN_i, oIsN_b, oIsN_t, oPowX_i, mMakeS_m, mMakeL_m, mFld_m, mProp_m, mnSeq_m, mnS_m, mnF_m, at0_e, allX_const, seqU_l, seqU_f, seqU_t, msWhile_m, mCallK_m, pm_nil, pm_cons, List.mem_singleton, and_self, resC_d, scV_b, scV_i, scV_s, scV_n, Option.isSome_some, tyU_d, mgTup_2, mgTup_3, mgTup_4, or_false, false_or, or_self, or_true, true_or, Nat.reduceBEq, bindEA_ok, bindEA_ex, mLstL_m, unown, kills, cellAt, List.map_cons, List.map_nil, List.length_cons, List.length_nil, List.cons_append, List.nil_append, List.replicate, List.getElem?_cons_succ, List.getElem?_cons_zero, List.set_cons_zero, List.set_cons_succ, Option.map_some, Option.map_none, Option.bind_some, Option.bind_none, Nat.reduceAdd, Nat.reduceSub, Nat.reduceLeDiff, Int.reduceLT, Int.reduceLE, Int.reduceNeg, Int.reduceToNat, Int.reducePow, decide_eq_true_eq, reduceIte, eq_self, ite_true, ite_false, Bool.false_eq_true, reduceCtorEq, resolve, celJ, nCel, Slot.isC, List.filter, putJ, callM, callMF, List.append_eq, Nat.reduceLT, Int.reduceMul, Int.reduceAdd, Int.reduceSub, ne_eq, not_true_eq_false, not_false_eq_true, Bool.not_false, Bool.not_true, decide_true, decide_false, frF, Int.cast_ofNat_Int, Bool.and_true, Bool.true_and, Bool.false_and, Bool.and_false, Bool.or_false, Bool.false_or, Bool.true_or, Bool.or_true, G__law_runs_0, G__law_scale_0, T__law_scale_1, E__law_scale_2, G_number_in_0, T_number_in_1, E_number_in_2, G_are_values_0, T_are_values_1, E_are_values_2, G_are_values_3, T_are_values_4, E_are_values_5, G_read_system_0, G_write_system_0, T_write_system_1, E_write_system_2, G_common_divisor_2, G__law_system_right_0, T__law_system_right_1, E__law_system_right_2, G_read_word_0, G_write_word_0, T_write_word_1, E_write_word_2, G__law_text_0, T__law_text_1, E__law_text_2, G_law_0, G_law_2, G_law_4, T_law_5, E_law_6, G_law_7, T_law_8, E_law_9, mSplit_m, mJoin_m, mFmt_m, mJs_m, mjNil_m, mjCons_m, miStr_m, strsU_map, oCatS_e, mLstL_m, mcPm_m]; try rfl))
theorem num_ch (n : Int) (h : 0 ≤ n) : ∀ c ∈ TL.tl (Str.ofString (toString n)), c < 1000 := fun c hc => by
  by_cases q : c < 48 ∨ 57 < c
  · exact absurd hc (num_free n h c q)
  · omega
theorem rtx_ch (p : Int × Int) (h1 : 1 ≤ p.1) (h3 : 1 ≤ p.2) : ∀ c ∈ TL.tl (rtx p), c < 1000 := fun c hc => by
  unfold rtx at hc
  split at hc
  · rw [tl_two] at hc
    rcases List.mem_append.mp hc with z | z
    · exact num_ch _ (by omega) c z
    · rcases List.mem_append.mp z with z | z
      · rw [List.mem_singleton.mp z]; decide
      · exact num_ch _ (by omega) c z
  · exact num_ch _ (by omega) c hc
theorem joinL_ch (S : List Nat) (hS : ∀ c ∈ S, c < 1000) : ∀ ps : List (List Nat), (∀ p ∈ ps, ∀ c ∈ p, c < 1000) → ∀ c ∈ TL.joinL S ps, c < 1000
  | [], _, c, hc => by cases hc
  | [p], h, c, hc => h p List.mem_cons_self c hc
  | p :: q :: r, h, c, hc => by
    have hc : c ∈ p ++ (S ++ TL.joinL S (q :: r)) := hc
    rcases List.mem_append.mp hc with z | z
    · exact h p List.mem_cons_self c z
    · rcases List.mem_append.mp z with z | z
      · exact hS c z
      · exact joinL_ch S hS (q :: r) (fun x hx => h x (List.mem_cons_of_mem _ hx)) c z
theorem join_ch (ps : List Str) (h : ∀ p ∈ ps, ∀ c ∈ TL.tl p, c < 1000) : ∀ c ∈ TL.tl (Txt.join " " ps), c < 1000 := by
  rw [tl_joinT]
  refine joinL_ch _ (fun c hc => ?_) _ fun p hp c hc => ?_
  · rw [blank_tl, List.mem_singleton] at hc
    subst hc
    decide
  · obtain ⟨s, hs, rfl⟩ := List.mem_map.mp hp
    exact h s hs c hc
theorem repOk_txt (t : Str) (h : ∀ c ∈ TL.tl t, c < 1000) : RepOk (.str t) t.length 0 := repOk_str t _ (by
  show (t.cps.toList.all fun c => decide (c < 16 ^ 8)) = true
  rw [List.all_eq_true]
  exact fun c hc => decide_eq_true (Nat.lt_trans (h c hc) (by decide))) (Nat.le_refl _)
theorem repr_txt2 (t : Str) (h : ∀ c ∈ TL.tl t, c < 1000) (hl : t.length ≤ 40000) : ∃ s, (oRepr (K := K)).f [.lst [.str t, .str t]] = some (.str s) := by
  have rp : RepOk (.lst [U.str t, .str t]) ([U.str t, .str t].length * (t.length + 1)) (0 + 1) := repOk_lst fun u hu => by
    simp only [List.mem_cons, List.mem_nil_iff, or_false, or_self] at hu
    subst hu
    exact repOk_txt t h
  exact repr_of rp rfl (by simp only [List.length_cons, List.length_nil]; omega) (by omega)
theorem repOk_w (w : List (Int × Int)) (h : ∀ p ∈ w, RunOk p) : RepOk (.lst (w.map pU)) ((w.map pU).length * (2 + 1)) (1 + 1) := repOk_lst fun u hu => by
  obtain ⟨p, hp, rfl⟩ := List.mem_map.mp hu
  have hp' := h p hp
  exact RepOk.mono (repOk_tup (b := 0) (d := 0) (us := [.int p.1, .int p.2]) (fun v hv => by
    simp only [List.mem_cons, List.mem_nil_iff, or_false] at hv
    have a1 := hp'.v1
    have a2 := hp'.v2
    have a3 := hp'.c1
    have a4 := hp'.c2
    rcases hv with rfl | rfl
    · exact repOk_int _ (by unfold Big; omega)
    · exact repOk_int _ (by unfold Big; omega))) (by simp) (by omega)
theorem repr_w2 (w : List (Int × Int)) (h : ∀ p ∈ w, RunOk p) (hl : w.length ≤ 200) : ∃ s, (oRepr (K := K)).f [.lst [.lst (w.map pU), .lst (w.map pU)]] = some (.str s) := by
  have rp : RepOk (.lst [U.lst (w.map pU), .lst (w.map pU)]) ([U.lst (w.map pU), .lst (w.map pU)].length * ((w.map pU).length * (2 + 1) + 1)) (1 + 1 + 1) := repOk_lst fun u hu => by
    simp only [List.mem_cons, List.mem_nil_iff, or_false, or_self] at hu
    subst hu
    exact repOk_w w h
  exact repr_of rp rfl (by simp only [List.length_cons, List.length_nil, List.length_map]; omega) (by omega)
theorem repr_w1 (w : List (Int × Int)) (h : ∀ p ∈ w, RunOk p) (hl : w.length ≤ 200) : ∃ s, (oRepr (K := K)).f [.lst (w.map pU)] = some (.str s) :=
  repr_of (repOk_w w h) rfl (by rw [List.length_map]; omega) (by omega)
theorem rtx_two (p : Int × Int) (h : 1 < p.2) : numS p.1 ++ ("*" ++ numS p.2) = rtx p := TL.ext_tl (by
  rw [rtx, if_pos h, tl_two, TL.tl_append, TL.tl_append, star_tl])
theorem rtx_one (p : Int × Int) (h : ¬ 1 < p.2) : numS p.1 ++ ("" : Str) = rtx p := TL.ext_tl (by
  rw [rtx, if_neg h, TL.tl_append, show TL.tl ("" : Str) = [] from by decide +kernel, List.append_nil])
theorem text_k (w : List (Int × Int)) (h : ∀ p ∈ w, RunOk p) (hl : w.length ≤ 1000) : mf__law_text K [.val (.lst (w.map pU))] = some (.val (.str (Txt.join " " (w.map rtx))) none) := by
  have lc : lcM (G__law_text_0 K).m (T__law_text_1 K).m (E__law_text_2 K).m [1, 2] (w.map pU) [] [.val (.lst (w.map pU)), .non, .non] = some (.ok ((w.map rtx).map U.str) [.val (.lst (w.map pU)), .non, .non]) := by
    rw [List.map_map]
    refine lcM_all (g := (G__law_text_0 K).m) (tt := (T__law_text_1 K).m) (e := (E__law_text_2 K).m) (vs := [1, 2]) pU (fun p => U.str (rtx p)) w (by omega) (fun p hp => ?_)
    obtain ⟨h1, h2, h3, h4⟩ := h p hp
    have f1 : (oStrI (K := K)).f [.int p.1] = some (.str (numS p.1)) := oStrI_i p.1 (by unfold Big; omega)
    have f2 : (oStrI (K := K)).f [.int p.2] = some (.str (numS p.2)) := oStrI_i p.2 (by unfold Big; omega)
    have l1 := num_len p.1 (by omega) (by omega)
    have l2 := num_len p.2 (by omega) h4
    have ls := starS_len
    by_cases hc : 1 < p.2
    · have er := rtx_two p hc
      have d : decide (1 < p.2) = true := decide_eq_true hc
      have g1 : (oCatS (K := K)).f (.str "*") (.str (numS p.2)) = some (.str ("*" ++ numS p.2)) := oCatS_e _ _ (by show _ + (Str.ofString (toString p.2)).length ≤ _; omega)
      have g2 : (oCatS (K := K)).f (.str (numS p.1)) (.str ("*" ++ numS p.2)) = some (.str (rtx p)) := by
        rw [oCatS_e _ _ (by show (Str.ofString (toString p.1)).length + ("*" ++ Str.ofString (toString p.2) : Str).length ≤ _; rw [TL.len_tl ("*" ++ Str.ofString (toString p.2)), TL.tl_append, List.length_append, ← TL.len_tl, ← TL.len_tl]; omega), er]
      clear hp h hl h1 h2 h3 h4 l1 l2 ls er hc
      obtain ⟨v, c⟩ := p
      dsimp only at *
      generalize rtx (v, c) = R at *
      generalize numS v = sv at *
      generalize numS c = sc at *
      generalize ("*" ++ sc : Str) = st at *
      unfold pU
      generalize w.map (fun p : Int × Int => U.tup [.int p.1, .int p.2]) = W at *
      exact ⟨_, _, _, (by ac_rfl), (by ac_rfl), (by ac_rfl), rfl⟩
    · have er := rtx_one p hc
      have d : decide (1 < p.2) = false := decide_eq_false hc
      have g2 : (oCatS (K := K)).f (.str (numS p.1)) (.str "") = some (.str (rtx p)) := by
        rw [oCatS_e _ _ (by show (Str.ofString (toString p.1)).length + _ ≤ _; have : ("" : Str).length = 0 := rfl; omega), er]
      clear hp h hl h1 h2 h3 h4 l1 l2 ls er hc
      obtain ⟨v, c⟩ := p
      dsimp only at *
      generalize rtx (v, c) = R at *
      generalize numS v = sv at *
      unfold pU
      generalize w.map (fun p : Int × Int => U.tup [.int p.1, .int p.2]) = W at *
      exact ⟨_, _, _, (by ac_rfl), (by ac_rfl), (by ac_rfl), rfl⟩
  have j := join_ok (w.map rtx) (fun s hs => by
    obtain ⟨p, hp, rfl⟩ := List.mem_map.mp hs
    have := rtx_len p (h p hp)
    omega) (by rw [List.length_map]; exact hl)
  have es := strsU_map (w.map rtx)
  clear h hl
  generalize w.map rtx = ws at *
  generalize w.map pU = W at *
  generalize List.map U.str ws = us at *
  unfold mf__law_text M__law_text
  trivial
theorem read_ok (w : List (Int × Int)) (h : ∀ p ∈ w, RunOk p) (ha : AdjP w) (h1 : 1 ≤ w.length) (h2 : w.length ≤ 200) : mf_read_word K [.val (.str (Txt.join " " (w.map rtx)))] = some (.cel (w.map pU) none) := by
  have sm : ∀ s ∈ w.map rtx, s.length ≤ 121 ∧ 32 ∉ TL.tl s := fun s hs => by
    obtain ⟨p, hp, rfl⟩ := List.mem_map.mp hs
    exact ⟨rtx_len p (h p hp), rtx_free p (h p hp).v1 (h p hp).c1⟩
  have hs : Txt.split (Txt.join " " (w.map rtx)) " " = w.map rtx := split_words (fun z => by
    have : (w.map rtx).length = 0 := by rw [z]; rfl
    rw [List.length_map] at this
    omega) fun p hp => (sm p hp).2
  have hl := text_len (w.map rtx) (fun p hp => (sm p hp).1) (by rw [List.length_map]; omega)
  have hr := rdW_run w [] 0 [] h ha (by omega)
  rw [List.append_nil, List.nil_append, rdW] at hr
  have e := read_word_k (K := K) (Txt.join " " (w.map rtx)) (by omega)
  rw [hs, hr] at e
  exact e
theorem word_right_k (w : List (Int × Int)) (h : ∀ p ∈ w, RunOk p) (ha : AdjP w) (h1 : 1 ≤ w.length) (h2 : w.length ≤ 200) : mf__law_word_right K [.val (.lst (w.map pU))] = some (.val (.bl true) none) := by
  have e1 := text_k (K := K) w h (by omega)
  have e2 := write_word_k (K := K) w h (by omega)
  have e3 := read_ok (K := K) w h ha h1 h2
  have hl := text_len (w.map rtx) (fun s hs => by
    obtain ⟨p, hp, rfl⟩ := List.mem_map.mp hs
    exact rtx_len p (h p hp)) (by rw [List.length_map]; omega)
  obtain ⟨s1, r1⟩ := repr_w1 (K := K) w h h2
  obtain ⟨s2, r2⟩ := repr_w2 (K := K) w h h2
  obtain ⟨s3, r3⟩ := repr_txt2 (K := K) (Txt.join " " (w.map rtx)) (join_ch _ fun s hs => by
    obtain ⟨p, hp, rfl⟩ := List.mem_map.mp hs
    exact rtx_ch p (h p hp).v1 (h p hp).c1) hl
  have orv : ∀ us : List U, (oReverse (K := K)).f us [] = some (.non, us.reverse) := fun _ => rfl
  have oap : (oAppend (K := K)).f (w.map pU).reverse [.tup [.int 60, .int 7]] = some (.non, (w.map pU).reverse ++ [.tup [.int 60, .int 7]]) := oAppend_u _ _ (by rw [List.length_reverse, List.length_map]; omega)
  have hlen : (w.map pU).reverse.length < 16777216 := by rw [List.length_reverse, List.length_map]; omega
  have hlen2 : (w.map pU).length ≤ 16777216 := by rw [List.length_map]; omega
  clear h ha h1 h2 hl
  generalize Txt.join " " (w.map rtx) = T at *
  generalize w.map pU = W at *
  unfold mf__law_word_right M__law_word_right
  trivial
end Sg
set_option Elab.async false
set_option linter.all false
set_option maxRecDepth 100000
set_option maxHeartbeats 1000000
namespace Sg
open PySem L2
variable {K : PySem.W.Frag}
local macro_rules | `(tactic| trivial) => `(tactic| simp -implicitDefEqProofs (disch := omega) only [*, mC_m, mVar_m, mLook_m, mLet_m, mSc_m, mNil_m, msNil_m, msSeq_m, msAsgF_m, msDrop_m, msRet_m, msRetF_m, msRetC_m, msRaise_m, msFor_m, mtYes_m, mLc_m, mcNil_m, mcCel_m, mCall_m, moNone_m, moSome_m, mSlL_m, mBi_m, mBiF_m, miList_m, miRng1_m, miEnum_m, miZip_m, mMeth_m, mMeth0_m, msSet_m, mCat_m, mChain_m, mIsi_m, mListRng_m, mCallF_m, msParVV_m, msParFV_m, mMethD_m, mCMeth_m, mConC_m, okE_some, okE_none, opE_ok, opE_ex, opF_ok, opF_ex, mOp_e, mIx_e, unE_ok, mUn_e, coE_ok, coE_ex, coF_ok, coF_ex, mCons_e, bindAE_ok, bindAE_ex, mTup_e, tupF_e, mFr_e, lstF_ok, mLst_e, tsE_ok, tsE_ex, mTest_e, okT_some, truE_ok, truE_ex, mTru_e, anE_t, anE_f, anE_ok, orE_t, orE_f, orE_ok, mAnd_e, mOr_e, noE_ok, noE_ex, mNot_e, blV_ok, blV_ex, anV_t, anV_f, anV_ok, mAndV_e, noV_ok, noV_ex, mNotV_e, ifV_t, ifV_f, ifV_ok, mIf_e, ifS_t, ifS_f, ifS_ok, ifS_ex, msIf_e, nxO_some, asE_ok, asE_ex, msAsg_e, gcE_some, mgCons_e, mgNil_e, mgTup_e, mgName_e, cvE_ok, cvE_ex, consC_ok, mcVal_e, thenS_nx, thenS_bk, thenS_ct, thenS_rt, thenS_ex, bindES_ok, bindES_ex, bindAS_ok, bindAS_ex, bindE_ok, bindE_ex, mfOf_e, mfOf0_e, noX_val, noX_cel, coM_some, fin_val, fin_cel, fin_nx, fin_ex, oAdd_i, oSub_i, oMul_l, oMul_r, oMod_i, oDiv_i, oPow_i, oLt_i, oLe_i, oGt_i, oGe_i, oIx_l, oIx_f, oIx_t, at1_0, at2_0, at2_1, at3_0, at3_1, at3_2, at4_0, at4_1, at4_2, at4_3, ix3_0, ix3_1, ix3_2, oIsN_non, oNotN_non, oNotN_lst, oIsN_lst, oMax2_i, oMin2_i, oAbs_i, oLen_l, oLen_f, oLen_t, oNeg_i, truU_i, truU_l, truU_b, truU_n, lstU_l, lstU_f, oAppend_u, lstF_0, tupF_0, lstF_1, tupF_1, lstF_2, tupF_2, lstF_3, tupF_3, lstF_4, tupF_4, lstF_5, tupF_5, lstF_6, tupF_6, isi_NoneType_bool, isi_NoneType_int, isi_NoneType_str, isi_NoneType_list, isi_NoneType_tuple, isi_NoneType_dict, isi_bool_bool, isi_bool_int, isi_bool_str, isi_bool_list, isi_bool_tuple, isi_bool_dict, isi_int_bool, isi_int_int, isi_int_str, isi_int_list, isi_int_tuple, isi_int_dict, isi_str_bool, isi_str_int, isi_str_str, isi_str_list, isi_str_tuple, isi_str_dict, isi_list_bool, isi_list_int, isi_list_str, isi_list_list, isi_list_tuple, isi_list_dict, isi_tuple_bool, isi_tuple_int, isi_tuple_str, isi_tuple_list, isi_tuple_tuple, isi_tuple_dict, isi_dict_bool, isi_dict_int, isi_dict_str, isi_dict_list, isi_dict_tuple, isi_dict_dict, tyU_n, tyU_b, tyU_i, tyU_s, tyU_l, tyU_t, rngOk_i, zipU_map, intsU_map, blsU_map, oAll_l, cutU_1, cutU_m1, drop_map, reverse_map, length_map', dropLast_map, oEq_i, oNe_i, oEq_b, oNe_b, oEq_nn, oNe_nn, oEq_pp, oNe_pp, oEq_ii, oNe_ii, mCallL_m, lendM_ok, lendM_ex, lendA_some, lendR_b, lendR_i, lendR_n, lendR_ex, resolveL_nil, resolveL_v, resolveL_c, resC_c, List.zip_cons_cons, List.zip_nil_left, oEqS_s, oNeS_s, mCallF_m, oMul_s, oIsN_i, oIsN_b, oIsN_t, oPowX_i, mMakeS_m, mMakeL_m, mFld_m, mProp_m, mnSeq_m, mnS_m, mnF_m, at0_e, allX_const, seqU_l, seqU_f, seqU_t, msWhile_m, mCallK_m, pm_nil, pm_cons, List.mem_singleton, and_self, resC_d, scV_b, scV_i, scV_s, scV_n, Option.isSome_some, tyU_d, mgTup_2, mgTup_3, mgTup_4, or_false, false_or, or_self, or_true, true_or, Nat.reduceBEq, bindEA_ok, bindEA_ex, mLstL_m, unown, kills, cellAt, List.map_cons, List.map_nil, List.length_cons, List.length_nil, List.cons_append, List.nil_append, List.replicate, List.getElem?_cons_succ, List.getElem?_cons_zero, List.set_cons_zero, List.set_cons_succ, Option.map_some, Option.map_none, Option.bind_some, Option.bind_none, Nat.reduceAdd, Nat.reduceSub, Nat.reduceLeDiff, Int.reduceLT, Int.reduceLE, Int.reduceNeg, Int.reduceToNat, Int.reducePow, decide_eq_true_eq, reduceIte, eq_self, ite_true, ite_false, Bool.false_eq_true, reduceCtorEq, resolve, celJ, nCel, Slot.isC, List.filter, putJ, callM, callMF, List.append_eq, Nat.reduceLT, Int.reduceMul, Int.reduceAdd, Int.reduceSub, ne_eq, not_true_eq_false, not_false_eq_true, Bool.not_false, Bool.not_true, decide_true, decide_false, frF, Int.cast_ofNat_Int, Bool.and_true, Bool.true_and, Bool.false_and, Bool.and_false, Bool.or_false, Bool.false_or, Bool.true_or, Bool.or_true])
local macro_rules | `(tactic| ac_rfl) => `(tactic| (simp -implicitDefEqProofs (disch := omega) only [*, mC_m, mVar_m, mLook_m, mLet_m, mSc_m, mNil_m, msNil_m, msSeq_m, msAsgF_m, msDrop_m, msRet_m, msRetF_m, msRetC_m, msRaise_m, msFor_m, mtYes_m, mLc_m, mcNil_m, mcCel_m, mCall_m, moNone_m, moSome_m, mSlL_m, mBi_m, mBiF_m, miList_m, miRng1_m, miEnum_m, miZip_m, mMeth_m, mMeth0_m, msSet_m, mCat_m, mChain_m, mIsi_m, mListRng_m, mCallF_m, msParVV_m, msParFV_m, mMethD_m, mCMeth_m, mConC_m, okE_some, okE_none, opE_ok, opE_ex, opF_ok, opF_ex, mOp_e, mIx_e, unE_ok, mUn_e, coE_ok, coE_ex, coF_ok, coF_ex, mCons_e, bindAE_ok, bindAE_ex, mTup_e, tupF_e, mFr_e, lstF_ok, mLst_e, tsE_ok, tsE_ex, mTest_e, okT_some, truE_ok, truE_ex, mTru_e, anE_t, anE_f, anE_ok, orE_t, orE_f, orE_ok, mAnd_e, mOr_e, noE_ok, noE_ex, mNot_e, blV_ok, blV_ex, anV_t, anV_f, anV_ok, mAndV_e, noV_ok, noV_ex, mNotV_e, ifV_t, ifV_f, ifV_ok, mIf_e, ifS_t, ifS_f, ifS_ok, ifS_ex, msIf_e, nxO_some, asE_ok, asE_ex, msAsg_e, gcE_some, mgCons_e, mgNil_e, mgTup_e, mgName_e, cvE_ok, cvE_ex, consC_ok, mcVal_e, thenS_nx, thenS_bk, thenS_ct, thenS_rt, thenS_ex, bindES_ok, bindES_ex, bindAS_ok, bindAS_ex, bindE_ok, bindE_ex, mfOf_e, mfOf0_e, noX_val, noX_cel, coM_some, fin_val, fin_cel, fin_nx, fin_ex, oAdd_i, oSub_i, oMul_l, oMul_r, oMod_i, oDiv_i, oPow_i, oLt_i, oLe_i, oGt_i, oGe_i, oIx_l, oIx_f, oIx_t, at1_0, at2_0, at2_1, at3_0, at3_1, at3_2, at4_0, at4_1, at4_2, at4_3, ix3_0, ix3_1, ix3_2, oIsN_non, oNotN_non, oNotN_lst, oIsN_lst, oMax2_i, oMin2_i, oAbs_i, oLen_l, oLen_f, oLen_t, oNeg_i, truU_i, truU_l, truU_b, truU_n, lstU_l, lstU_f, oAppend_u, lstF_0, tupF_0, lstF_1, tupF_1, lstF_2, tupF_2, lstF_3, tupF_3, lstF_4, tupF_4, lstF_5, tupF_5, lstF_6, tupF_6, isi_NoneType_bool, isi_NoneType_int, isi_NoneType_str, isi_NoneType_list, isi_NoneType_tuple, isi_NoneType_dict, isi_bool_bool, isi_bool_int, isi_bool_str, isi_bool_list, isi_bool_tuple, isi_bool_dict, isi_int_bool, isi_int_int, isi_int_str, isi_int_list, isi_int_tuple, isi_int_dict, isi_str_bool, isi_str_int, isi_str_str, isi_str_list, isi_str_tuple, isi_str_dict, isi_list_bool, isi_list_int, isi_list_str, isi_list_list, isi_list_tuple, isi_list_dict, isi_tuple_bool, isi_tuple_int, isi_tuple_str, isi_tuple_list, isi_tuple_tuple, isi_tuple_dict, isi_dict_bool, isi_dict_int, isi_dict_str, isi_dict_list, isi_dict_tuple, isi_dict_dict, tyU_n, tyU_b, tyU_i, tyU_s, tyU_l, tyU_t, rngOk_i, zipU_map, intsU_map, blsU_map, oAll_l, cutU_1, cutU_m1, drop_map, reverse_map, length_map', dropLast_map, oEq_i, oNe_i, oEq_b, oNe_b, oEq_nn, oNe_nn, oEq_pp, oNe_pp, oEq_ii, oNe_ii, mCallL_m, lendM_ok, lendM_ex, lendA_some, lendR_b, lendR_i, lendR_n, lendR_ex, resolveL_nil, resolveL_v, resolveL_c, resC_c, List.zip_cons_cons, List.zip_nil_left, oEqS_s, oNeS_s, mCallF_m, oMul_s, oIsN_i, oIsN_b, oIsN_t, oPowX_i, mMakeS_m, mMakeL_m, mFld_m, mProp_m, mnSeq_m, mnS_m, mnF_m, at0_e, allX_const, seqU_l, seqU_f, seqU_t, msWhile_m, mCallK_m, pm_nil, pm_cons, List.mem_singleton, and_self, resC_d, scV_b, scV_i, scV_s, scV_n, Option.isSome_some, tyU_d, mgTup_2, mgTup_3, mgTup_4, or_false, false_or, or_self, or_true, true_or, Nat.reduceBEq, bindEA_ok, bindEA_ex, mLstL_m, unown, kills, cellAt, List.map_cons, List.map_nil, List.length_cons, List.length_nil, List.cons_append, List.nil_append, List.replicate, List.getElem?_cons_succ, List.getElem?_cons_zero, List.set_cons_zero, List.set_cons_succ, Option.map_some, Option.map_none, Option.bind_some, Option.bind_none, Nat.reduceAdd, Nat.reduceSub, Nat.reduceLeDiff, Int.reduceLT, Int.reduceLE, Int.reduceNeg, Int.reduceToNat, Int.reducePow, decide_eq_true_eq, reduceIte, eq_self, ite_true, ite_false, Bool.false_eq_true, reduceCtorEq, resolve, celJ, nCel, Slot.isC, List.filter, putJ, callM, callMF, List.append_eq, Nat.reduceLT, Int.reduceMul, Int.reduceAdd, Int.reduceSub, ne_eq, not_true_eq_false, not_false_eq_true, Bool.not_false, Bool.not_true, decide_true, decide_false, frF, Int.cast_ofNat_Int, Bool.and_true, Bool.true_and, Bool.false_and, Bool.and_false, Bool.or_false, Bool.false_or, Bool.true_or, Bool.or_true, G__law_runs_0, G__law_scale_0, T__law_scale_1, E__law_scale_2, G_number_in_0, T_number_in_1, E_number_in_2, G_are_values_0, T_are_values_1, E_are_values_2, G_are_values_3, T_are_values_4, E_are_values_5, G_read_system_0, G_write_system_0, T_write_system_1, E_write_system_2, G_common_divisor_2, G__law_system_right_0, T__law_system_right_1, E__law_system_right_2, G_read_word_0, G_write_word_0, T_write_word_1, E_write_word_2, G__law_text_0, T__law_text_1, E__law_text_2, G_law_0, G_law_2, G_law_4, T_law_5, E_law_6, G_law_7, T_law_8, E_law_9]; try rfl))
abbrev C60 : Int := 999999999999999999999999999999999999999999999999999999999999
theorem mul30 : (oMul (K := K)).f (.int 1000000000000000000000000000000) (.int 1000000000000000000000000000000) = some (.int 1000000000000000000000000000000000000000000000000000000000000) := by
  rw [oMul_s _ _ (by omega) (by omega) (by omega) (by omega)]
  rfl
theorem at4 (a b e : Int) (h0 : 0 ≤ e) (h1 : e < 4) (a0 : 0 ≤ a) (a1 : a < 3) (b0 : 0 ≤ b) (b1 : b < 1000000000000000000) : ∃ m, atI [U.int 1, U.int (1 + a), U.int (1 + b), U.int 999999999999999999999999999999999999999999999999999999999999] e = some (.int m) ∧ 1 ≤ m ∧ m < 10 ^ 60 := by
  have : e = 0 ∨ e = 1 ∨ e = 2 ∨ e = 3 := by omega
  rcases this with rfl | rfl | rfl | rfl
  · exact ⟨_, rfl, by omega, by omega⟩
  · exact ⟨_, rfl, by omega, by omega⟩
  · exact ⟨_, rfl, by omega, by omega⟩
  · exact ⟨_, rfl, by omega, by omega⟩
theorem runs_turn (many u : U) (top : Int) (ht : 2 ≤ top) (ht2 : top ≤ 60) (w : List (Int × Int)) (hl : w.length < 1000) (n : Nat) (f : List U) (hf : Well n f) (hn : n < 900000) :
    ∃ (f' : List U) (p : Int × Int), Well (n + 4) f' ∧ RunOk p ∧ (∀ q, w.getLast? = some q → q.1 ≠ p.1) ∧
      (B__law_runs_1 K).m [.cel false f, .val many, .cel true (w.map pU), .val (.int top), .val u, .non, .non] = some (.nx [.cel false f', .val many, .cel true ((w ++ [p]).map pU), .val (.int top), .val u, .val (.int p.1), .val (.int p.2)]) := by
  obtain ⟨x, f1, x0, x1, hf1, e1⟩ := next_k (K := K) false n f top hf (by omega) (by omega) (by omega)
  obtain ⟨a, f2, a0, a1, hf2, e2⟩ := next_k (K := K) false _ f1 3 hf1 (by omega) (by omega) (by omega)
  obtain ⟨b, f3, b0, b1, hf3, e3⟩ := next_k (K := K) false _ f2 1000000000000000000 hf2 (by omega) (by omega) (by omega)
  obtain ⟨e, f4, q0, q1, hf4, e4⟩ := next_k (K := K) false _ f3 4 hf3 (by omega) (by omega) (by omega)
  obtain ⟨m, em, m1, m2⟩ := at4 a b e q0 q1 a0 a1 b0 b1
  have n0 : (oNe (K := K)).f (.lst (w.map pU)) (.lst []) = some (.bl (!decide (w = []))) := oNe_pp w []
  have m30 := mul30 (K := K)
  have hlen : (w.map pU).length < 16777216 := by rw [List.length_map]; omega
  rcases List.eq_nil_or_concat w with rfl | ⟨w0, q, hq⟩
  · refine ⟨f4, (1 + x, m), hf4, ⟨by dsimp only; omega, by dsimp only; omega, m1, m2⟩, fun q hq => by simp at hq, ?_⟩
    have n1 : (oNe (K := K)).f (.lst []) (.lst []) = some (.bl false) := oNe_pp [] []
    have n2 : (oAppend (K := K)).f [] [.tup [.int (1 + x), .int m]] = some (.non, [.tup [.int (1 + x), .int m]]) := rfl
    clear n0 hf hf1 hf2 hf3 hf4 hn q0 q1 a0 a1 b0 b1 x0 x1 m1 m2 hl ht ht2 hlen
    show _ = some (SO.nx [.cel false f4, .val many, .cel true [.tup [.int (1 + x), .int m]], .val (.int top), .val u, .val (.int (1 + x)), .val (.int m)])
    unfold B__law_runs_1
    trivial
  · rw [List.concat_eq_append] at hq
    subst hq
    have hne : decide (w0 ++ [q] = []) = false := by simp
    rw [hne] at n0
    have ela : atI ((w0 ++ [q]).map pU) (-1) = some (.tup [.int q.1, .int q.2]) := by rw [List.map_append]; exact atI_last _ _
    have ap : ∀ v : U, (oAppend (K := K)).f ((w0 ++ [q]).map pU) [v] = some (.non, (w0 ++ [q]).map pU ++ [v]) := fun v => by
      show (if _ then _ else _) = _
      rw [if_pos hlen]
    by_cases hc : q.1 = 1 + x
    · have eq1 : decide (q.1 = 1 + x) = true := decide_eq_true hc
      have emd : (oMod (K := K)).f (.int (1 + x)) (.int top) = some (.int ((1 + x) % top)) := oMod_i _ _ (by omega)
      have hs : 0 ≤ (1 + x) % top ∧ (1 + x) % top < top ∧ (1 + x) % top + 1 ≠ 1 + x := by
        by_cases c : 1 + x < top
        · rw [Int.emod_eq_of_lt (by omega) c]
          omega
        · have : 1 + x = top := by omega
          rw [this, Int.emod_self]
          omega
      refine ⟨f4, ((1 + x) % top + 1, m), hf4, ⟨by dsimp only; omega, by dsimp only; omega, m1, m2⟩, fun q' hq' => ?_, ?_⟩
      · have : q = q' := by simpa using hq'
        subst this
        dsimp only
        omega
      · rw [List.map_append (l₁ := w0 ++ [q])]
        show _ = some (SO.nx [.cel false f4, .val many, .cel true ((w0 ++ [q]).map pU ++ [.tup [.int ((1 + x) % top + 1), .int m]]), .val (.int top), .val u, .val (.int ((1 + x) % top + 1)), .val (.int m)])
        have ap' := ap (.tup [.int ((1 + x) % top + 1), .int m])
        clear ap hne hf hf1 hf2 hf3 hf4 hn q0 q1 a0 a1 b0 b1 x0 x1 m1 m2 hl ht ht2 hlen hs hc
        generalize (w0 ++ [q]).map pU = W at *
        generalize (1 + x) % top = s at *
        unfold B__law_runs_1
        trivial
    · have eq1 : decide (q.1 = 1 + x) = false := decide_eq_false hc
      refine ⟨f4, (1 + x, m), hf4, ⟨by dsimp only; omega, by dsimp only; omega, m1, m2⟩, fun q' hq' => ?_, ?_⟩
      · have : q = q' := by simpa using hq'
        subst this
        exact hc
      · rw [List.map_append (l₁ := w0 ++ [q])]
        show _ = some (SO.nx [.cel false f4, .val many, .cel true ((w0 ++ [q]).map pU ++ [.tup [.int (1 + x), .int m]]), .val (.int top), .val u, .val (.int (1 + x)), .val (.int m)])
        have ap' := ap (.tup [.int (1 + x), .int m])
        clear ap hne hf hf1 hf2 hf3 hf4 hn q0 q1 a0 a1 b0 b1 x0 x1 m1 m2 hl ht ht2 hlen hc
        generalize (w0 ++ [q]).map pU = W at *
        unfold B__law_runs_1
        trivial
theorem adjP_snoc (w : List (Int × Int)) (p : Int × Int) (h : AdjP w) (hl : ∀ q, w.getLast? = some q → q.1 ≠ p.1) : AdjP (w ++ [p]) := by
  induction w with
  | nil => intro x hx; simp at hx
  | cons a t ih =>
    cases t with
    | nil =>
      intro x hx
      simp at hx
      subst hx
      exact hl a rfl
    | cons b t =>
      intro x hx
      have hx' : x ∈ (a, b) :: ((b :: t) ++ [p]).zip (((b :: t) ++ [p]).drop 1) := hx
      rcases List.mem_cons.mp hx' with e | e
      · exact h x (by rw [e]; exact List.mem_cons_self)
      · exact ih (fun y hy => h y (List.mem_cons_of_mem _ hy)) (fun q hq => hl q (by rw [List.getLast?_cons_cons]; exact hq)) x e
theorem at3b (d : Int) (h0 : 0 ≤ d) (h1 : d < 3) : ∃ t : Int, atI [U.int 2, .int 10, .int 60] d = some (.int t) ∧ 2 ≤ t ∧ t ≤ 60 := by
  have : d = 0 ∨ d = 1 ∨ d = 2 := by omega
  rcases this with rfl | rfl | rfl
  · exact ⟨2, rfl, by omega, by omega⟩
  · exact ⟨10, rfl, by omega, by omega⟩
  · exact ⟨60, rfl, by omega, by omega⟩
theorem runs_k (own : Bool) (n : Nat) (f : List U) (hf : Well n f) (hn : n < 800000) (many : Int) (h1 : 1 ≤ many) (h2 : many ≤ 200) :
    ∃ (w : List (Int × Int)) (f' : List U), Well (n + 801) f' ∧ (w.length : Int) = many ∧ (∀ p ∈ w, RunOk p) ∧ AdjP w ∧ mf__law_runs K [.cel own f, .val (.int many)] = some (.cel (w.map pU) (some f')) := by
  obtain ⟨d, f0, d0, d1, hf0, e0⟩ := next_k (K := K) false n f 3 hf (by omega) (by omega) (by omega)
  obtain ⟨top, et, t1, t2⟩ := at3b d d0 d1
  have st := @loopM_inv (G__law_runs_0 K).m (B__law_runs_1 K).m [4, 5, 6]
    (fun us ρ => ∃ (g : List U) (w : List (Int × Int)), Well (n + 1 + 4 * w.length) g ∧ us.length + w.length = many.toNat ∧ (∀ p ∈ w, RunOk p) ∧ AdjP w ∧ ρ = [.cel false g, .val (.int many), .cel true (w.map pU), .val (.int top), .non, .non, .non])
  obtain ⟨ρ', e2, g, w, hg, q1, q2, q3, rfl⟩ := st (by
    rintro u us ρ ⟨g, w, hg, q1, q2, q3, rfl⟩
    rw [List.length_cons] at q1
    obtain ⟨g', p, hg', hp, hne, eb⟩ := runs_turn (K := K) (.int many) u top t1 t2 w (by omega) _ g hg (by omega)
    refine ⟨[.cel false g, .val (.int many), .cel true (w.map pU), .val (.int top), .val u, .non, .non], _, rfl, .inl eb, g', w ++ [p], ?_, ?_, fun x hx => ?_, adjP_snoc w p q3 hne, rfl⟩
    · rw [List.length_append, List.length_singleton]
      exact hg'.mono (by omega)
    · rw [List.length_append, List.length_singleton]; omega
    · rcases List.mem_append.mp hx with z | z
      · exact q2 x z
      · rw [List.mem_singleton.mp z]; exact hp)
    (rangeU 0 many.toNat) [.cel false f0, .val (.int many), .cel true [], .val (.int top), .non, .non, .non]
    ⟨f0, [], hf0, by rw [rangeU_map]; simp, by simp, fun x hx => by simp at hx, rfl⟩
  rw [List.length_nil] at q1
  refine ⟨w, g, hg.mono (by omega), by omega, q2, q3, ?_⟩
  have hr : rngOk 0 many = true := rngOk_i 0 _ (by omega) (by omega) (by omega) (by omega)
  clear st hf hf0 hg hn d0 d1 t1 t2 q1 q2 q3 h1 h2
  generalize w.map pU = W at *
  unfold mf__law_runs M__law_runs
  trivial
end Sg
set_option Elab.async false
set_option linter.all false
set_option maxRecDepth 100000
set_option maxHeartbeats 1000000
namespace Sg
open PySem L2
variable {K : PySem.W.Frag}
theorem ptab_dv_S : List.lookup ("System" : Str) (ptab_divisor K) = some (mf_System_divisor K) := rfl
theorem ptab_gr_S : List.lookup ("System" : Str) (ptab_greatest K) = some (mf_System_greatest K) := rfl
theorem tab_wr : List.lookup ("System" : Str) (tab_with_rule K) = some (mf_System_with_rule K) := rfl
local macro_rules | `(tactic| trivial) => `(tactic| simp -implicitDefEqProofs (disch := omega) only [*, mC_m, mVar_m, mLook_m, mLet_m, mSc_m, mNil_m, msNil_m, msSeq_m, msAsgF_m, msDrop_m, msRet_m, msRetF_m, msRetC_m, msRaise_m, msFor_m, mtYes_m, mLc_m, mcNil_m, mcCel_m, mCall_m, moNone_m, moSome_m, mSlL_m, mBi_m, mBiF_m, miList_m, miRng1_m, miEnum_m, miZip_m, mMeth_m, mMeth0_m, msSet_m, mCat_m, mChain_m, mIsi_m, mListRng_m, mCallF_m, msParVV_m, msParFV_m, mMethD_m, mCMeth_m, mConC_m, okE_some, okE_none, opE_ok, opE_ex, opF_ok, opF_ex, mOp_e, mIx_e, unE_ok, mUn_e, coE_ok, coE_ex, coF_ok, coF_ex, mCons_e, bindAE_ok, bindAE_ex, mTup_e, tupF_e, mFr_e, lstF_ok, mLst_e, tsE_ok, tsE_ex, mTest_e, okT_some, truE_ok, truE_ex, mTru_e, anE_t, anE_f, anE_ok, orE_t, orE_f, orE_ok, mAnd_e, mOr_e, noE_ok, noE_ex, mNot_e, blV_ok, blV_ex, anV_t, anV_f, anV_ok, mAndV_e, noV_ok, noV_ex, mNotV_e, ifV_t, ifV_f, ifV_ok, mIf_e, ifS_t, ifS_f, ifS_ok, ifS_ex, msIf_e, nxO_some, asE_ok, asE_ex, msAsg_e, gcE_some, mgCons_e, mgNil_e, mgTup_e, mgName_e, cvE_ok, cvE_ex, consC_ok, mcVal_e, thenS_nx, thenS_bk, thenS_ct, thenS_rt, thenS_ex, bindES_ok, bindES_ex, bindAS_ok, bindAS_ex, bindE_ok, bindE_ex, mfOf_e, mfOf0_e, noX_val, noX_cel, coM_some, fin_val, fin_cel, fin_nx, fin_ex, oAdd_i, oSub_i, oMul_l, oMul_r, oMod_i, oDiv_i, oPow_i, oLt_i, oLe_i, oGt_i, oGe_i, oIx_l, oIx_f, oIx_t, at1_0, at2_0, at2_1, at3_0, at3_1, at3_2, at4_0, at4_1, at4_2, at4_3, ix3_0, ix3_1, ix3_2, oIsN_non, oNotN_non, oNotN_lst, oIsN_lst, oMax2_i, oMin2_i, oAbs_i, oLen_l, oLen_f, oLen_t, oNeg_i, truU_i, truU_l, truU_b, truU_n, lstU_l, lstU_f, oAppend_u, lstF_0, tupF_0, lstF_1, tupF_1, lstF_2, tupF_2, lstF_3, tupF_3, lstF_4, tupF_4, lstF_5, tupF_5, lstF_6, tupF_6, isi_NoneType_bool, isi_NoneType_int, isi_NoneType_str, isi_NoneType_list, isi_NoneType_tuple, isi_NoneType_dict, isi_bool_bool, isi_bool_int, isi_bool_str, isi_bool_list, isi_bool_tuple, isi_bool_dict, isi_int_bool, isi_int_int, isi_int_str, isi_int_list, isi_int_tuple, isi_int_dict, isi_str_bool, isi_str_int, isi_str_str, isi_str_list, isi_str_tuple, isi_str_dict, isi_list_bool, isi_list_int, isi_list_str, isi_list_list, isi_list_tuple, isi_list_dict, isi_tuple_bool, isi_tuple_int, isi_tuple_str, isi_tuple_list, isi_tuple_tuple, isi_tuple_dict, isi_dict_bool, isi_dict_int, isi_dict_str, isi_dict_list, isi_dict_tuple, isi_dict_dict, tyU_n, tyU_b, tyU_i, tyU_s, tyU_l, tyU_t, rngOk_i, zipU_map, intsU_map, blsU_map, oAll_l, cutU_1, cutU_m1, drop_map, reverse_map, length_map', dropLast_map, oEq_i, oNe_i, oEq_b, oNe_b, oEq_nn, oNe_nn, oEq_pp, oNe_pp, oEq_ii, oNe_ii, mCallL_m, lendM_ok, lendM_ex, lendA_some, lendR_b, lendR_i, lendR_n, lendR_ex, resolveL_nil, resolveL_v, resolveL_c, resC_c, List.zip_cons_cons, List.zip_nil_left, oEqS_s, oNeS_s, mCallF_m, oMul_s, oIsN_i, oIsN_b, oIsN_t, oPowX_i, mMakeS_m, mMakeL_m, mFld_m, mProp_m, mnSeq_m, mnS_m, mnF_m, at0_e, allX_const, seqU_l, seqU_f, seqU_t, msWhile_m, mCallK_m, pm_nil, pm_cons, List.mem_singleton, and_self, resC_d, scV_b, scV_i, scV_s, scV_n, Option.isSome_some, tyU_d, mgTup_2, mgTup_3, mgTup_4, or_false, false_or, or_self, or_true, true_or, Nat.reduceBEq, bindEA_ok, bindEA_ex, mLstL_m, unown, kills, cellAt, List.map_cons, List.map_nil, List.length_cons, List.length_nil, List.cons_append, List.nil_append, List.replicate, List.getElem?_cons_succ, List.getElem?_cons_zero, List.set_cons_zero, List.set_cons_succ, Option.map_some, Option.map_none, Option.bind_some, Option.bind_none, Nat.reduceAdd, Nat.reduceSub, Nat.reduceLeDiff, Int.reduceLT, Int.reduceLE, Int.reduceNeg, Int.reduceToNat, Int.reducePow, decide_eq_true_eq, reduceIte, eq_self, ite_true, ite_false, Bool.false_eq_true, reduceCtorEq, resolve, celJ, nCel, Slot.isC, List.filter, putJ, callM, callMF, List.append_eq, Nat.reduceLT, Int.reduceMul, Int.reduceAdd, Int.reduceSub, ne_eq, not_true_eq_false, not_false_eq_true, Bool.not_false, Bool.not_true, decide_true, decide_false, frF, Int.cast_ofNat_Int, Bool.and_true, Bool.true_and, Bool.false_and, Bool.and_false, Bool.or_false, Bool.false_or, Bool.true_or, Bool.or_true, oList_l, oList_t, look_hv, look_hr, ptab_row_S, ptab_rule_S, ptab_dv_S, ptab_gr_S, tab_wr, mSplit_m, mJoin_m, strsU_map])
local macro_rules | `(tactic| ac_rfl) => `(tactic| (simp -implicitDefEqProofs (disch := omega) only [*, mC_m, mVar_m, mLook_m, mLet_m, mSc_m, mNil_m, msNil_m, msSeq_m, msAsgF_m, msDrop_m, msRet_m, msRetF_m, msRetC_m, msRaise_m, msFor_m, mtYes_m, mLc_m, mcNil_m, mcCel_m, mCall_m, moNone_m, moSome_m, mSlL_m, mBi_m, mBiF_m, miList_m, miRng1_m, miEnum_m, miZip_m, mMeth_m, mMeth0_m, msSet_m, mCat_m, mChain_m, mIsi_m, mListRng_m, mCallF_m, msParVV_m, msParFV_m, mMethD_m, mCMeth_m, mConC_m, okE_some, okE_none, opE_ok, opE_ex, opF_ok, opF_ex, mOp_e, mIx_e, unE_ok, mUn_e, coE_ok, coE_ex, coF_ok, coF_ex, mCons_e, bindAE_ok, bindAE_ex, mTup_e, tupF_e, mFr_e, lstF_ok, mLst_e, tsE_ok, tsE_ex, mTest_e, okT_some, truE_ok, truE_ex, mTru_e, anE_t, anE_f, anE_ok, orE_t, orE_f, orE_ok, mAnd_e, mOr_e, noE_ok, noE_ex, mNot_e, blV_ok, blV_ex, anV_t, anV_f, anV_ok, mAndV_e, noV_ok, noV_ex, mNotV_e, ifV_t, ifV_f, ifV_ok, mIf_e, ifS_t, ifS_f, ifS_ok, ifS_ex, msIf_e, nxO_some, asE_ok, asE_ex, msAsg_e, gcE_some, mgCons_e, mgNil_e, mgTup_e, mgName_e, cvE_ok, cvE_ex, consC_ok, mcVal_e, thenS_nx, thenS_bk, thenS_ct, thenS_rt, thenS_ex, bindES_ok, bindES_ex, bindAS_ok, bindAS_ex, bindE_ok, bindE_ex, mfOf_e, mfOf0_e, noX_val, noX_cel, coM_some, fin_val, fin_cel, fin_nx, fin_ex, oAdd_i, oSub_i, oMul_l, oMul_r, oMod_i, oDiv_i, oPow_i, oLt_i, oLe_i, oGt_i, oGe_i, oIx_l, oIx_f, oIx_t, at1_0, at2_0, at2_1, at3_0, at3_1, at3_2, at4_0, at4_1, at4_2, at4_3, ix3_0, ix3_1, ix3_2, oIsN_non, oNotN_non, oNotN_lst, oIsN_lst, oMax2_i, oMin2_i, oAbs_i, oLen_l, oLen_f, oLen_t, oNeg_i, truU_i, truU_l, truU_b, truU_n, lstU_l, lstU_f, oAppend_u, lstF_0, tupF_0, lstF_1, tupF_1, lstF_2, tupF_2, lstF_3, tupF_3, lstF_4, tupF_4, lstF_5, tupF_5, lstF_6, tupF_6, isi_NoneType_bool, isi_NoneType_int, isi_NoneType_str, isi_NoneType_list, isi_NoneType_tuple, isi_NoneType_dict, isi_bool_bool, isi_bool_int, isi_bool_str, isi_bool_list, isi_bool_tuple, isi_bool_dict, isi_int_bool, isi_int_int, isi_int_str, isi_int_list, isi_int_tuple, isi_int_dict, isi_str_bool, isi_str_int, isi_str_str, isi_str_list, isi_str_tuple, isi_str_dict, isi_list_bool, isi_list_int, isi_list_str, isi_list_list, isi_list_tuple, isi_list_dict, isi_tuple_bool, isi_tuple_int, isi_tuple_str, isi_tuple_list, isi_tuple_tuple, isi_tuple_dict, isi_dict_bool, isi_dict_int, isi_dict_str, isi_dict_list, isi_dict_tuple, isi_dict_dict, tyU_n, tyU_b, tyU_i, tyU_s, tyU_l, tyU_t, rngOk_i, zipU_map, intsU_map, blsU_map, oAll_l, cutU_1, cutU_m1, drop_map, reverse_map, length_map', dropLast_map, oEq_i, oNe_i, oEq_b, oNe_b, oEq_nn, oNe_nn, oEq_pp, oNe_pp, oEq_ii, oNe_ii, mCallL_m, lendM_ok, lendM_ex, lendA_some, lendR_b, lendR_i, lendR_n, lendR_ex, resolveL_nil, resolveL_v, resolveL_c, resC_c, List.zip_cons_cons, List.zip_nil_left, oEqS_s, oNeS_s, mCallF_m, oMul_s, oIsN_i, oIsN_b, oIsN_t, oPowX_i, mMakeS_m, mMakeL_m, mFld_m, mProp_m, mnSeq_m, mnS_m, mnF_m, at0_e, allX_const, seqU_l, seqU_f, seqU_t, msWhile_m, mCallK_m, pm_nil, pm_cons, List.mem_singleton, and_self, resC_d, scV_b, scV_i, scV_s, scV_n, Option.isSome_some, tyU_d, mgTup_2, mgTup_3, mgTup_4, or_false, false_or, or_self, or_true, true_or, Nat.reduceBEq, bindEA_ok, bindEA_ex, mLstL_m, unown, kills, cellAt, List.map_cons, List.map_nil, List.length_cons, List.length_nil, List.cons_append, List.nil_append, List.replicate, List.getElem?_cons_succ, List.getElem?_cons_zero, List.set_cons_zero, List.set_cons_succ, Option.map_some, Option.map_none, Option.bind_some, Option.bind_none, Nat.reduceAdd, Nat.reduceSub, Nat.reduceLeDiff, Int.reduceLT, Int.reduceLE, Int.reduceNeg, Int.reduceToNat, Int.reducePow, decide_eq_true_eq, reduceIte, eq_self, ite_true, ite_false, Bool.false_eq_true, reduceCtorEq, resolve, celJ, nCel, Slot.isC, List.filter, putJ, callM, callMF, List.append_eq, Nat.reduceLT, Int.reduceMul, Int.reduceAdd, Int.reduceSub, ne_eq, not_true_eq_false, not_false_eq_true, Bool.not_false, Bool.not_true, decide_true, decide_false, frF, Int.cast_ofNat_Int, Bool.and_true, Bool.true_and, Bool.false_and, Bool.and_false, Bool.or_false, Bool.false_or, Bool.true_or, Bool.or_true, G__law_runs_0, G__law_scale_0, T__law_scale_1, E__law_scale_2, G_number_in_0, T_number_in_1, E_number_in_2, G_are_values_0, T_are_values_1, E_are_values_2, G_are_values_3, T_are_values_4, E_are_values_5, G_read_system_0, G_write_system_0, T_write_system_1, E_write_system_2, G_common_divisor_2, G__law_system_right_0, T__law_system_right_1, E__law_system_right_2, G_read_word_0, G_write_word_0, T_write_word_1, E_write_word_2, G__law_text_0, T__law_text_1, E__law_text_2, G_law_0, G_law_2, G_law_4, T_law_5, E_law_6, G_law_7, T_law_8, E_law_9, oList_l, oList_t, look_hv, look_hr, ptab_row_S, ptab_rule_S, ptab_dv_S, ptab_gr_S, tab_wr, mSplit_m, mJoin_m, strsU_map]; try rfl))
theorem div_k (vs : List Int) (k : Kd) (h : ValsOk vs) : ∃ g : Int, 1 ≤ g ∧ g ≤ 60 ∧ mf_System_divisor K [.val (sysU vs k)] = some (.val (.int g) none) := by
  have h1 := h.pos
  obtain ⟨a, r, rfl⟩ := List.exists_cons_of_ne_nil (fun z => by rw [z] at h1; simp at h1 : vs ≠ [])
  have ha := h.bd a List.mem_cons_self
  obtain ⟨g, e, d1, _, d3, _⟩ := dv_for (K := K) (.lst ((a :: r).map U.int)) r a fun v hv => h.bd v (List.mem_cons_of_mem _ hv)
  have g0 := d3 (by omega)
  have g1 : g ≠ 0 := fun z => by
    rw [z] at d1
    have := Int.zero_dvd.mp d1
    omega
  have g2 := Int.le_of_dvd (by omega) d1
  refine ⟨g, by omega, by omega, ?_⟩
  have ec : mf_common_divisor K [.val (.lst ((a :: r).map U.int))] = some (.val (.int g) none) := by
    rw [List.map_cons] at e ⊢
    clear d1 d3 g0 g1 g2 ha h h1
    generalize r.map U.int = R at *
    have a0 : atI (U.int a :: R) 0 = some (.int a) := atI_get' (by omega) rfl
    have c1 : (U.int a :: R).drop 1 = R := rfl
    unfold dvE at e
    unfold mf_common_divisor M_common_divisor
    trivial
  clear e d1 d3 g0 g1 g2 ha h h1
  unfold sysU
  generalize (a :: r).map U.int = M at *
  generalize k.s = ks at *
  unfold mf_System_divisor M_System_divisor
  trivial
theorem gr_k (vs : List Int) (k : Kd) (h : ValsOk vs) : ∃ g : Int, 1 ≤ g ∧ g ≤ 60 ∧ mf_System_greatest K [.val (sysU vs k)] = some (.val (.int g) none) := by
  have h1 := h.pos
  have hne : vs ≠ [] := fun z => by rw [z] at h1; simp at h1
  have hb := h.bd _ (List.getLast_mem hne)
  refine ⟨vs.getLast hne, hb.1, hb.2, ?_⟩
  have ea : atI (vs.map U.int) (-1) = some (.int (vs.getLast hne)) := by
    have := List.dropLast_concat_getLast hne
    have e : vs.map U.int = vs.dropLast.map U.int ++ [.int (vs.getLast hne)] := by
      conv => lhs; rw [← this]
      rw [List.map_append]; rfl
    rw [e]
    exact atI_last _ _
  clear hb h h1
  unfold sysU
  generalize vs.map U.int = M at *
  generalize vs.getLast hne = q at *
  generalize k.s = ks at *
  unfold mf_System_greatest M_System_greatest
  trivial
theorem shown_k (vs : List Int) (k : Kd) (h : ValsOk vs) : ∃ g d : Int, (1 ≤ g ∧ g ≤ 60) ∧ (1 ≤ d ∧ d ≤ 60) ∧ mf__law_shown K [.val (sysU vs k)] = some (.val (.lst [.lst (vs.map U.int), .str k.s, .int g, .int d]) none) := by
  obtain ⟨d, d1, d2, ed⟩ := div_k (K := K) vs k h
  obtain ⟨g, g1, g2, eg⟩ := gr_k (K := K) vs k h
  refine ⟨g, d, ⟨g1, g2⟩, ⟨d1, d2⟩, ?_⟩
  have e1 := row_k (K := K) vs k
  have e2 := ruleP_k (K := K) vs k
  clear d1 d2 g1 g2 h
  unfold sysU at *
  generalize vs.map U.int = M at *
  generalize k.s = ks at *
  unfold mf__law_shown M__law_shown
  trivial
theorem kd_ch (k : Kd) : ∀ c ∈ TL.tl k.s, c < 1000 := by cases k <;> decide +kernel
theorem repr_sh (vs : List Int) (k : Kd) (h : ValsOk vs) (g d : Int) (hg : 1 ≤ g ∧ g ≤ 60) (hd : 1 ≤ d ∧ d ≤ 60) : ∃ s, (oRepr (K := K)).f [.lst [.lst [.lst (vs.map U.int), .str k.s, .int g, .int d], .lst [.lst (vs.map U.int), .str k.s, .int g, .int d]]] = some (.str s) := by
  have hl := h.top
  have r0 : RepOk (.lst (vs.map U.int)) ((vs.map U.int).length * (0 + 1)) (0 + 1) := repOk_lst fun u hu => by
    obtain ⟨x, hx, rfl⟩ := List.mem_map.mp hu
    have := h.bd x hx
    exact repOk_int x (by unfold Big; omega)
  have lk : k.s.length ≤ 10 := by cases k <;> decide +kernel
  have r1 : ∀ u ∈ [U.lst (vs.map U.int), .str k.s, .int g, .int d], RepOk u 100 1 := fun u hu => by
    simp only [List.mem_cons, List.mem_nil_iff, or_false] at hu
    rcases hu with rfl | rfl | rfl | rfl
    · exact r0.mono (by rw [List.length_map]; omega) (by omega)
    · exact (repOk_txt _ (kd_ch k)).mono (by omega) (by omega)
    · exact (repOk_int g (by unfold Big; omega)).mono (by omega) (by omega)
    · exact (repOk_int d (by unfold Big; omega)).mono (by omega) (by omega)
  have r2 := repOk_lst r1
  have r3 : RepOk (.lst [U.lst [U.lst (vs.map U.int), .str k.s, .int g, .int d], .lst [U.lst (vs.map U.int), .str k.s, .int g, .int d]]) (2 * (4 * (100 + 1) + 1)) (1 + 1 + 1) := repOk_lst (us := [U.lst [U.lst (vs.map U.int), .str k.s, .int g, .int d], .lst [U.lst (vs.map U.int), .str k.s, .int g, .int d]]) fun u hu => by
    simp only [List.mem_cons, List.mem_nil_iff, or_false, or_self] at hu
    subst hu
    exact r2
  exact repr_of r3 rfl (by omega) (by omega)
theorem with_rule_k (vs : List Int) (j k : Kd) (h : ValsOk vs) : mf_System_with_rule K [.val (sysU vs j), .val (.str k.s)] = some (.val (sysU vs k) none) := by
  have e2 := init_k (K := K) vs k h
  unfold mf_System_with_rule M_System_with_rule
  clear h
  trivial
abbrev wS (vs : List Int) (k : Kd) : List Str := k.s :: vs.map numS
theorem wS_ok (vs : List Int) (k : Kd) (h : ValsOk vs) : ∀ s ∈ wS vs k, (s.length ≤ 121 ∧ 32 ∉ TL.tl s) ∧ ∀ c ∈ TL.tl s, c < 1000 := fun s hs => by
  rcases List.mem_cons.mp hs with rfl | hs
  · exact ⟨by cases k <;> decide +kernel, kd_ch k⟩
  · obtain ⟨p, hp, rfl⟩ := List.mem_map.mp hs
    have := h.bd p hp
    have : (numS p).length ≤ 60 := num_len p (by omega) (by omega)
    exact ⟨⟨by omega, num_free p (by omega) 32 (by omega)⟩, num_ch p (by omega)⟩
theorem wS_len (vs : List Int) (k : Kd) (h : ValsOk vs) : (Txt.join " " (wS vs k)).length ≤ 40000 := by
  have := h.top
  exact text_len (wS vs k) (fun p hp => (wS_ok vs k h p hp).1.1) (by rw [List.length_cons, List.length_map]; omega)
theorem wS_split (vs : List Int) (k : Kd) (h : ValsOk vs) : Txt.split (Txt.join " " (wS vs k)) " " = wS vs k := split_words (by simp) fun p hp => (wS_ok vs k h p hp).1.2
theorem read_sys (vs : List Int) (k : Kd) (h : ValsOk vs) : mf_read_system K [.val (.str (Txt.join " " (wS vs k)))] = some (.val (sysU vs k) none) := by
  have hr := rdS_run vs [] 1 [] (fun p hp => h.bd p hp) (by rw [List.nil_append]; exact h.asc) (by rw [List.nil_append]; exact h.top)
  rw [List.append_nil, List.nil_append, rdS] at hr
  have := h.top
  have := wS_len vs k h
  exact rs_ok (K := K) (Txt.join " " (wS vs k)) (by omega) k (vs.map numS) (wS_split vs k h) (by rw [List.length_map]; omega) vs h hr
theorem eq_strs (l : List Str) (h : ∀ s ∈ l, (PyData.str s).canLay0 = true) : (oEq (K := K)).f (.lst (l.map U.str)) (.lst (l.map U.str)) = some (.bl true) := by
  have ep : ∀ l : List Str, pdL (l.map U.str) = some (l.map PyData.str) := fun l => by
    induction l with
    | nil => rfl
    | cons x r ih =>
      show (pd (.str x)).bind _ = _
      rw [show pd (.str x) = some (.str x) from rfl, Option.bind_some, ih]
      rfl
  have ec : ∀ l : List Str, (∀ s ∈ l, (PyData.str s).canLay0 = true) → PyData.canLayAll0 (l.map PyData.str) = true := fun l h => by
    induction l with
    | nil => rfl
    | cons x r ih => rw [List.map_cons, PyData.canLayAll0, h x List.mem_cons_self, ih fun y hy => h y (List.mem_cons_of_mem _ hy)]; rfl
  have ed : ∀ l : List Str, PyData.depthAll (l.map PyData.str) = 0 := fun l => by
    induction l with
    | nil => rfl
    | cons x r ih => rw [List.map_cons, PyData.depthAll, ih]; rfl
  have ee : ∀ l : List Str, PyData.eqvAll (l.map PyData.str) (l.map PyData.str) = true := fun l => by
    induction l with
    | nil => simp [PyData.eqvAll]
    | cons x r ih => rw [List.map_cons, PyData.eqvAll, ih, PyData.eqv]; simp
  refine oEq_u _ _ true ?_
  unfold eqU
  have hs : SeqAt.shaped (PyData.list (l.map PyData.str)) = true := by
    unfold SeqAt.shaped
    rw [show (PyData.list (l.map PyData.str)).canLay0 = true from by rw [PyData.canLay0]; exact ec l h, Bool.true_and]
    exact decide_eq_true (by rw [PyData.depth, ed]; omega)
  rw [show pd (.lst (l.map U.str)) = some (.list (l.map PyData.str)) from by show (pdL (l.map U.str)).map _ = _; rw [ep]; rfl, Option.bind_some, Option.bind_some, if_pos ⟨hs, hs⟩, PyData.eqv, ee]
theorem lay_of (s : Str) (h : ∀ c ∈ TL.tl s, c < 1000) : (PyData.str s).canLay0 = true := by
  rw [PyData.canLay0]
  unfold PySem.PyData.strOk
  rw [← Array.all_toList, List.all_eq_true]
  intro c hc
  rw [decide_eq_true_eq]
  have := h c hc
  omega
end Sg
set_option Elab.async false
set_option linter.all false
set_option maxRecDepth 100000
set_option maxHeartbeats 1000000
namespace Sg
open PySem L2
variable {K : PySem.W.Frag}
theorem look_wr (u v : U) : List.lookup ("with_rule" : Str) [(("held_values" : Str), u), (("held_rule" : Str), v)] = none := rfl
local macro_rules | `(tactic| trivial) => `(tactic| simp -implicitDefEqProofs (disch := omega) only [*, mC_m, mVar_m, mLook_m, mLet_m, mSc_m, mNil_m, msNil_m, msSeq_m, msAsgF_m, msDrop_m, msRet_m, msRetF_m, msRetC_m, msRaise_m, msFor_m, mtYes_m, mLc_m, mcNil_m, mcCel_m, mCall_m, moNone_m, moSome_m, mSlL_m, mBi_m, mBiF_m, miList_m, miRng1_m, miEnum_m, miZip_m, mMeth_m, mMeth0_m, msSet_m, mCat_m, mChain_m, mIsi_m, mListRng_m, mCallF_m, msParVV_m, msParFV_m, mMethD_m, mCMeth_m, mConC_m, okE_some, okE_none, opE_ok, opE_ex, opF_ok, opF_ex, mOp_e, mIx_e, unE_ok, mUn_e, coE_ok, coE_ex, coF_ok, coF_ex, mCons_e, bindAE_ok, bindAE_ex, mTup_e, tupF_e, mFr_e, lstF_ok, mLst_e, tsE_ok, tsE_ex, mTest_e, okT_some, truE_ok, truE_ex, mTru_e, anE_t, anE_f, anE_ok, orE_t, orE_f, orE_ok, mAnd_e, mOr_e, noE_ok, noE_ex, mNot_e, blV_ok, blV_ex, anV_t, anV_f, anV_ok, mAndV_e, noV_ok, noV_ex, mNotV_e, ifV_t, ifV_f, ifV_ok, mIf_e, ifS_t, ifS_f, ifS_ok, ifS_ex, msIf_e, nxO_some, asE_ok, asE_ex, msAsg_e, gcE_some, mgCons_e, mgNil_e, mgTup_e, mgName_e, cvE_ok, cvE_ex, consC_ok, mcVal_e, thenS_nx, thenS_bk, thenS_ct, thenS_rt, thenS_ex, bindES_ok, bindES_ex, bindAS_ok, bindAS_ex, bindE_ok, bindE_ex, mfOf_e, mfOf0_e, noX_val, noX_cel, coM_some, fin_val, fin_cel, fin_nx, fin_ex, oAdd_i, oSub_i, oMul_l, oMul_r, oMod_i, oDiv_i, oPow_i, oLt_i, oLe_i, oGt_i, oGe_i, oIx_l, oIx_f, oIx_t, at1_0, at2_0, at2_1, at3_0, at3_1, at3_2, at4_0, at4_1, at4_2, at4_3, ix3_0, ix3_1, ix3_2, oIsN_non, oNotN_non, oNotN_lst, oIsN_lst, oMax2_i, oMin2_i, oAbs_i, oLen_l, oLen_f, oLen_t, oNeg_i, truU_i, truU_l, truU_b, truU_n, lstU_l, lstU_f, oAppend_u, lstF_0, tupF_0, lstF_1, tupF_1, lstF_2, tupF_2, lstF_3, tupF_3, lstF_4, tupF_4, lstF_5, tupF_5, lstF_6, tupF_6, isi_NoneType_bool, isi_NoneType_int, isi_NoneType_str, isi_NoneType_list, isi_NoneType_tuple, isi_NoneType_dict, isi_bool_bool, isi_bool_int, isi_bool_str, isi_bool_list, isi_bool_tuple, isi_bool_dict, isi_int_bool, isi_int_int, isi_int_str, isi_int_list, isi_int_tuple, isi_int_dict, isi_str_bool, isi_str_int, isi_str_str, isi_str_list, isi_str_tuple, isi_str_dict, isi_list_bool, isi_list_int, isi_list_str, isi_list_list, isi_list_tuple, isi_list_dict, isi_tuple_bool, isi_tuple_int, isi_tuple_str, isi_tuple_list, isi_tuple_tuple, isi_tuple_dict, isi_dict_bool, isi_dict_int, isi_dict_str, isi_dict_list, isi_dict_tuple, isi_dict_dict, tyU_n, tyU_b, tyU_i, tyU_s, tyU_l, tyU_t, rngOk_i, zipU_map, intsU_map, blsU_map, oAll_l, cutU_1, cutU_m1, drop_map, reverse_map, length_map', dropLast_map, oEq_i, oNe_i, oEq_b, oNe_b, oEq_nn, oNe_nn, oEq_pp, oNe_pp, oEq_ii, oNe_ii, mCallL_m, lendM_ok, lendM_ex, lendA_some, lendR_b, lendR_i, lendR_n, lendR_ex, resolveL_nil, resolveL_v, resolveL_c, resC_c, List.zip_cons_cons, List.zip_nil_left, oEqS_s, oNeS_s, mCallF_m, oMul_s, oIsN_i, oIsN_b, oIsN_t, oPowX_i, mMakeS_m, mMakeL_m, mFld_m, mProp_m, mnSeq_m, mnS_m, mnF_m, at0_e, allX_const, seqU_l, seqU_f, seqU_t, msWhile_m, mCallK_m, pm_nil, pm_cons, List.mem_singleton, and_self, resC_d, scV_b, scV_i, scV_s, scV_n, Option.isSome_some, tyU_d, mgTup_2, mgTup_3, mgTup_4, or_false, false_or, or_self, or_true, true_or, Nat.reduceBEq, bindEA_ok, bindEA_ex, mLstL_m, unown, kills, cellAt, List.map_cons, List.map_nil, List.length_cons, List.length_nil, List.cons_append, List.nil_append, List.replicate, List.getElem?_cons_succ, List.getElem?_cons_zero, List.set_cons_zero, List.set_cons_succ, Option.map_some, Option.map_none, Option.bind_some, Option.bind_none, Nat.reduceAdd, Nat.reduceSub, Nat.reduceLeDiff, Int.reduceLT, Int.reduceLE, Int.reduceNeg, Int.reduceToNat, Int.reducePow, decide_eq_true_eq, reduceIte, eq_self, ite_true, ite_false, Bool.false_eq_true, reduceCtorEq, resolve, celJ, nCel, Slot.isC, List.filter, putJ, callM, callMF, List.append_eq, Nat.reduceLT, Int.reduceMul, Int.reduceAdd, Int.reduceSub, ne_eq, not_true_eq_false, not_false_eq_true, Bool.not_false, Bool.not_true, decide_true, decide_false, frF, Int.cast_ofNat_Int, Bool.and_true, Bool.true_and, Bool.false_and, Bool.and_false, Bool.or_false, Bool.false_or, Bool.true_or, Bool.or_true, oList_l, oList_t, look_hv, look_hr, ptab_row_S, ptab_rule_S, ptab_dv_S, ptab_gr_S, tab_wr, look_wr, mSplit_m, mJoin_m, strsU_map])
local macro_rules | `(tactic| ac_rfl) => `(tactic| (simp -implicitDefEqProofs (disch := omega) only [*, mC_m, mVar_m, mLook_m, mLet_m, mSc_m, mNil_m, msNil_m, msSeq_m, msAsgF_m, msDrop_m, msRet_m, msRetF_m, msRetC_m, msRaise_m, msFor_m, mtYes_m, mLc_m, mcNil_m, mcCel_m, mCall_m, moNone_m, moSome_m, mSlL_m, mBi_m, mBiF_m, miList_m, miRng1_m, miEnum_m, miZip_m, mMeth_m, mMeth0_m, msSet_m, mCat_m, mChain_m, mIsi_m, mListRng_m, mCallF_m, msParVV_m, msParFV_m, mMethD_m, mCMeth_m, mConC_m, okE_some, okE_none, opE_ok, opE_ex, opF_ok, opF_ex, mOp_e, mIx_e, unE_ok, mUn_e, coE_ok, coE_ex, coF_ok, coF_ex, mCons_e, bindAE_ok, bindAE_ex, mTup_e, tupF_e, mFr_e, lstF_ok, mLst_e, tsE_ok, tsE_ex, mTest_e, okT_some, truE_ok, truE_ex, mTru_e, anE_t, anE_f, anE_ok, orE_t, orE_f, orE_ok, mAnd_e, mOr_e, noE_ok, noE_ex, mNot_e, blV_ok, blV_ex, anV_t, anV_f, anV_ok, mAndV_e, noV_ok, noV_ex, mNotV_e, ifV_t, ifV_f, ifV_ok, mIf_e, ifS_t, ifS_f, ifS_ok, ifS_ex, msIf_e, nxO_some, asE_ok, asE_ex, msAsg_e, gcE_some, mgCons_e, mgNil_e, mgTup_e, mgName_e, cvE_ok, cvE_ex, consC_ok, mcVal_e, thenS_nx, thenS_bk, thenS_ct, thenS_rt, thenS_ex, bindES_ok, bindES_ex, bindAS_ok, bindAS_ex, bindE_ok, bindE_ex, mfOf_e, mfOf0_e, noX_val, noX_cel, coM_some, fin_val, fin_cel, fin_nx, fin_ex, oAdd_i, oSub_i, oMul_l, oMul_r, oMod_i, oDiv_i, oPow_i, oLt_i, oLe_i, oGt_i, oGe_i, oIx_l, oIx_f, oIx_t, at1_0, at2_0, at2_1, at3_0, at3_1, at3_2, at4_0, at4_1, at4_2, at4_3, ix3_0, ix3_1, ix3_2, oIsN_non, oNotN_non, oNotN_lst, oIsN_lst, oMax2_i, oMin2_i, oAbs_i, oLen_l, oLen_f, oLen_t, oNeg_i, truU_i, truU_l, truU_b, truU_n, lstU_l, lstU_f, oAppend_u, lstF_0, tupF_0, lstF_1, tupF_1, lstF_2, tupF_2, lstF_3, tupF_3, lstF_4, tupF_4, lstF_5, tupF_5, lstF_6, tupF_6, isi_NoneType_bool, isi_NoneType_int, isi_NoneType_str, isi_NoneType_list, isi_NoneType_tuple, isi_NoneType_dict, isi_bool_bool, isi_bool_int, isi_bool_str, isi_bool_list, isi_bool_tuple, isi_bool_dict, isi_int_bool, isi_int_int, isi_int_str, isi_int_list, isi_int_tuple, isi_int_dict, isi_str_bool, isi_str_int, isi_str_str, isi_str_list, isi_str_tuple, isi_str_dict, isi_list_bool, isi_list_int, isi_list_str, isi_list_list, isi_list_tuple, isi_list_dict, isi_tuple_bool, isi_tuple_int, isi_tuple_str, isi_tuple_list, isi_tuple_tuple, isi_tuple_dict, isi_dict_bool, isi_dict_int, isi_dict_str, isi_dict_list, isi_dict_tuple, isi_dict_dict, tyU_n, tyU_b, tyU_i, tyU_s, tyU_l, tyU_t, rngOk_i, zipU_map, intsU_map, blsU_map, oAll_l, cutU_1, cutU_m1, drop_map, reverse_map, length_map', dropLast_map, oEq_i, oNe_i, oEq_b, oNe_b, oEq_nn, oNe_nn, oEq_pp, oNe_pp, oEq_ii, oNe_ii, mCallL_m, lendM_ok, lendM_ex, lendA_some, lendR_b, lendR_i, lendR_n, lendR_ex, resolveL_nil, resolveL_v, resolveL_c, resC_c, List.zip_cons_cons, List.zip_nil_left, oEqS_s, oNeS_s, mCallF_m, oMul_s, oIsN_i, oIsN_b, oIsN_t, oPowX_i, mMakeS_m, mMakeL_m, mFld_m, mProp_m, mnSeq_m, mnS_m, mnF_m, at0_e, allX_const, seqU_l, seqU_f, seqU_t, msWhile_m, mCallK_m, pm_nil, pm_cons, List.mem_singleton, and_self, resC_d, scV_b, scV_i, scV_s, scV_n, Option.isSome_some, tyU_d, mgTup_2, mgTup_3, mgTup_4, or_false, false_or, or_self, or_true, true_or, Nat.reduceBEq, bindEA_ok, bindEA_ex, mLstL_m, unown, kills, cellAt, List.map_cons, List.map_nil, List.length_cons, List.length_nil, List.cons_append, List.nil_append, List.replicate, List.getElem?_cons_succ, List.getElem?_cons_zero, List.set_cons_zero, List.set_cons_succ, Option.map_some, Option.map_none, Option.bind_some, Option.bind_none, Nat.reduceAdd, Nat.reduceSub, Nat.reduceLeDiff, Int.reduceLT, Int.reduceLE, Int.reduceNeg, Int.reduceToNat, Int.reducePow, decide_eq_true_eq, reduceIte, eq_self, ite_true, ite_false, Bool.false_eq_true, reduceCtorEq, resolve, celJ, nCel, Slot.isC, List.filter, putJ, callM, callMF, List.append_eq, Nat.reduceLT, Int.reduceMul, Int.reduceAdd, Int.reduceSub, ne_eq, not_true_eq_false, not_false_eq_true, Bool.not_false, Bool.not_true, decide_true, decide_false, frF, Int.cast_ofNat_Int, Bool.and_true, Bool.true_and, Bool.false_and, Bool.and_false, Bool.or_false, Bool.false_or, Bool.true_or, Bool.or_true, G__law_runs_0, G__law_scale_0, T__law_scale_1, E__law_scale_2, G_number_in_0, T_number_in_1, E_number_in_2, G_are_values_0, T_are_values_1, E_are_values_2, G_are_values_3, T_are_values_4, E_are_values_5, G_read_system_0, G_write_system_0, T_write_system_1, E_write_system_2, G_common_divisor_2, G__law_system_right_0, T__law_system_right_1, E__law_system_right_2, G_read_word_0, G_write_word_0, T_write_word_1, E_write_word_2, G__law_text_0, T__law_text_1, E__law_text_2, G_law_0, G_law_2, G_law_4, T_law_5, E_law_6, G_law_7, T_law_8, E_law_9, oList_l, oList_t, look_hv, look_hr, ptab_row_S, ptab_rule_S, ptab_dv_S, ptab_gr_S, tab_wr, look_wr, mSplit_m, mJoin_m, strsU_map]; try rfl))
abbrev sE (M : U) (ks : Str) (n du sh to ag : Slot) : Env := [.val M, .val (.str ks), n, du, sh, to, ag, .non, .non]
theorem newIn_s (M : U) (ks : Str) (a0 : Addr) (S : U) (du sh : U) (p : Addr) (hM : True) (h : p ≠ a0) : newIn (sE M ks (.nam a0 S) (.val du) (.val sh) .non .non) p := by
  intro j b c fs e
  match j, e with
  | 0, e => cases e
  | 1, e => cases e
  | 2, e => cases e; exact h
  | 3, e => cases e
  | 4, e => cases e
  | 5, e => cases e
  | 6, e => cases e
  | 7, e => cases e
  | 8, e => cases e
theorem two_new (a : Nat) : ∃ x y : Nat, x ≠ y ∧ x ≠ a ∧ y ≠ a := ⟨a + 1, a + 2, by omega, by omega, by omega⟩
theorem sys_right_k (vs : List Int) (k : Kd) (h : ValsOk vs) : mf__law_system_right K [.val (.lst (vs.map U.int)), .val (.str k.s)] = some (.val (.bl true) none) := by
  have e1 := of_k (K := K) vs k h
  have e2 := write_system_k (K := K) vs k h
  obtain ⟨g, d, hg, hd, e3⟩ := shown_k (K := K) vs k h
  obtain ⟨s1, r1⟩ := repr_sh (K := K) vs k h g d hg hd
  have e4 := read_sys (K := K) vs k h
  have e5 := with_rule_k (K := K) vs k .later h
  have e6 := write_system_k (K := K) vs .later h
  have s4 := wS_split vs k h
  have s5 := wS_split vs .later h
  have hlen := wS_len vs k h
  obtain ⟨s2, r2⟩ := repr_txt2 (K := K) (Txt.join " " (wS vs k)) (join_ch _ fun s hs => (wS_ok vs k h s hs).2) hlen
  have q1 := eq_strs (K := K) (wS vs .later) fun s hs => lay_of s (wS_ok vs .later h s hs).2
  have lT := join_ch (wS vs k) fun s hs => (wS_ok vs k h s hs).2
  have q2 : (oEq (K := K)).f (.str (Txt.join " " (wS vs k))) (.str (Txt.join " " (wS vs k))) = some (.bl true) := by
    rw [oEq_s _ _ (lay_of _ lT) (lay_of _ lT), decide_eq_true rfl]
  have lc : ∀ (n : Slot), lcM (G__law_system_right_0 K).m (T__law_system_right_1 K).m (E__law_system_right_2 K).m [8] (vs.map U.int) [] (sE (.lst (vs.map U.int)) k.s n .non .non .non .non) = some (.ok ((vs.map numS).map U.str) (sE (.lst (vs.map U.int)) k.s n .non .non .non .non)) := fun n => by
    rw [List.map_map]
    have hn := h.top
    refine lcM_all (g := (G__law_system_right_0 K).m) (tt := (T__law_system_right_1 K).m) (e := (E__law_system_right_2 K).m) (vs := [8]) U.int (fun p => U.str (numS p)) vs (by omega) (fun m hm => ?_)
    have hb := h.bd m hm
    have e : (oStrI (K := K)).f [.int m] = some (.str (numS m)) := oStrI_i m (by unfold Big; omega)
    clear e1 e2 e3 r1 e4 e5 e6 s4 s5 hlen r2 q1 lT q2 hg hd hn hm hb h
    generalize k.s = ks at *
    generalize vs.map U.int = M at *
    generalize numS m = sm at *
    exact ⟨_, _, _, (by ac_rfl), (by ac_rfl), (by ac_rfl), rfl⟩
  have j := join_ok (k.s :: vs.map numS) (fun s hs => by
    have := (wS_ok vs k h s hs).1.1
    omega) (by rw [List.length_cons, List.length_map]; have := h.top; omega)
  have es := strsU_map (k.s :: vs.map numS)
  rw [List.map_cons] at es
  have hl : 1 + (List.map U.str (vs.map numS)).length ≤ 16777216 := by rw [List.length_map, List.length_map]; have := h.top; omega
  have hl2 : ((vs.map numS).map U.str).length ≤ 16777216 := by omega
  have d1 : (U.str k.s :: (vs.map numS).map U.str).drop 1 = (vs.map numS).map U.str := rfl
  have tl1 : (Txt.join " " (wS vs k)).length ≤ 16777214 := by omega
  have tl2 : (Txt.join " " (wS vs .later)).length ≤ 16777214 := by have := wS_len vs .later h; omega
  unfold wS at *
  rw [List.map_cons] at q1
  rw [show Kd.later.s = "later" from rfl] at *
  rw [show sysU vs .later = .ins "System" [(("held_values" : Str), .lst (vs.map U.int)), (("held_rule" : Str), .str "later")] from rfl] at *
  clear hg hd lT hlen h
  unfold sysU at *
  generalize hT : Txt.join " " (k.s :: vs.map numS) = T at *
  generalize Txt.join " " ("later" :: vs.map numS) = T2 at *
  have ss1 : (Txt.split T " ").map U.str = .str k.s :: (vs.map numS).map U.str := by rw [s4]; rfl
  have ss2 : (Txt.split T2 " ").map U.str = .str "later" :: (vs.map numS).map U.str := by rw [s5]; rfl
  clear s4 s5
  have l3 : ∀ (a b c : Addr), b ≠ c → b ≠ a → (B__law_system_right_3 K).m (sE (.lst (vs.map U.int)) k.s (.nam a (.ins "System" [(("held_values" : Str), .lst (vs.map U.int)), (("held_rule" : Str), .str k.s)])) (.val (.str T)) (.val (.lst [.lst (vs.map U.int), .str k.s, .int g, .int d]))
      (.nam b (.ins "System" [(("held_values" : Str), .lst (vs.map U.int)), (("held_rule" : Str), .str k.s)])) (.nam c (.ins "System" [(("held_values" : Str), .lst (vs.map U.int)), (("held_rule" : Str), .str k.s)]))) =
      some (.rt (.val (.bl true)) [.val (.lst (vs.map U.int)), .val (.str k.s), .nam a (.ins "System" [(("held_values" : Str), .lst (vs.map U.int)), (("held_rule" : Str), .str k.s)]), .val (.str T), .val (.lst [.lst (vs.map U.int), .str k.s, .int g, .int d]),
      .nam b (.ins "System" [(("held_values" : Str), .lst (vs.map U.int)), (("held_rule" : Str), .str k.s)]), .nam c (.ins "System" [(("held_values" : Str), .lst (vs.map U.int)), (("held_rule" : Str), .str k.s)]), .val (.ins "System" [(("held_values" : Str), .lst (vs.map U.int)), (("held_rule" : Str), .str "later")]), .non]) := fun a b c n1 n2 => by
    have m1 := mDif_m (K := K) (cls := "System") (i := 5) (j := 6) (ρ := sE (.lst (vs.map U.int)) k.s (.nam a (.ins "System" [(("held_values" : Str), .lst (vs.map U.int)), (("held_rule" : Str), .str k.s)])) (.val (.str T)) (.val (.lst [.lst (vs.map U.int), .str k.s, .int g, .int d])) (.nam b (.ins "System" [(("held_values" : Str), .lst (vs.map U.int)), (("held_rule" : Str), .str k.s)])) (.nam c (.ins "System" [(("held_values" : Str), .lst (vs.map U.int)), (("held_rule" : Str), .str k.s)]))) rfl rfl n1
    have m2 := mDif_m (K := K) (cls := "System") (i := 5) (j := 2) (ρ := sE (.lst (vs.map U.int)) k.s (.nam a (.ins "System" [(("held_values" : Str), .lst (vs.map U.int)), (("held_rule" : Str), .str k.s)])) (.val (.str T)) (.val (.lst [.lst (vs.map U.int), .str k.s, .int g, .int d])) (.nam b (.ins "System" [(("held_values" : Str), .lst (vs.map U.int)), (("held_rule" : Str), .str k.s)])) (.nam c (.ins "System" [(("held_values" : Str), .lst (vs.map U.int)), (("held_rule" : Str), .str k.s)]))) rfl rfl n2
    clear lc e1 e4 r2 n1 n2 j es hT
    unfold sE at *
    generalize ((vs.map numS).map U.str) = VS at *
    generalize vs.map U.int = M at *
    generalize k.s = ks at *
    unfold B__law_system_right_3
    trivial
  have l4 : ∀ a : Addr, (msTwoI (K := K) 5 6 (mCall 1 (mf_read_system K) (mcVal (mVar 3) mcNil)) (mCallK 1 [0] (mf_read_system K) (mcVal (mVar 3) mcNil)) (B__law_system_right_3 K)).m (sE (.lst (vs.map U.int)) k.s (.nam a (.ins "System" [(("held_values" : Str), .lst (vs.map U.int)), (("held_rule" : Str), .str k.s)])) (.val (.str T)) (.val (.lst [.lst (vs.map U.int), .str k.s, .int g, .int d])) .non .non) = some (.rt (.val (.bl true)) (List.replicate 9 .non)) := fun a => by
    have w1 : ∀ Z : Slot → Slot, ((sE (.lst (vs.map U.int)) k.s (.nam a (.ins "System" [(("held_values" : Str), .lst (vs.map U.int)), (("held_rule" : Str), .str k.s)])) (.val (.str T)) (.val (.lst [.lst (vs.map U.int), .str k.s, .int g, .int d])) .non .non).map sclS) = [.non, .val (.str k.s), .non, .val (.str T), .non, .non, .non, .non, .non] := fun _ => rfl
    obtain ⟨x0, y0, n1, n2, n3⟩ := two_new a
    refine msTwoI_of (a0 := x0) (b0 := y0) (ρx := [.non, .val (.str k.s), .non, .val (.str T), .non, .non, .non, .non, .non]) (ρy := [.non, .val (.str k.s), .non, .val (.str T), .non, .non, .non, .non, .non]) (c := "System") (c' := "System") (fs := [(("held_values" : Str), .lst (vs.map U.int)), (("held_rule" : Str), .str k.s)]) (gs := [(("held_values" : Str), .lst (vs.map U.int)), (("held_rule" : Str), .str k.s)]) ?_ ?_ ⟨n1, newIn_s _ _ a _ _ _ _ True.intro n2, newIn_s _ _ a _ _ _ _ True.intro n3⟩ fun p q hpq hp hq => ?_
    · rw [w1 id]
      clear l3 lc e1 e2 e3 e5 e6 r1 r2 q1 q2 j es hl hl2 d1 ss1 ss2 w1 hT
      generalize vs.map U.int = M at *
      generalize k.s = ks at *
      trivial
    · rw [w1 id]
      clear l3 lc e1 e2 e3 e5 e6 r1 r2 q1 q2 j es hl hl2 d1 ss1 ss2 w1 hT
      generalize vs.map U.int = M at *
      generalize k.s = ks at *
      trivial
    · have hpa : p ≠ a := hp 2 a _ _ rfl
      have z := l3 a p q hpq hpa
      show ((B__law_system_right_3 K).m (sE (.lst (vs.map U.int)) k.s (.nam a (.ins "System" [(("held_values" : Str), .lst (vs.map U.int)), (("held_rule" : Str), .str k.s)])) (.val (.str T)) (.val (.lst [.lst (vs.map U.int), .str k.s, .int g, .int d]))
      (.nam p (.ins "System" [(("held_values" : Str), .lst (vs.map U.int)), (("held_rule" : Str), .str k.s)])) (.nam q (.ins "System" [(("held_values" : Str), .lst (vs.map U.int)), (("held_rule" : Str), .str k.s)])))).bind endR = _
      rw [z]
      exact endR_s (w := .bl true) (z := .bl true) rfl
  have l5 : ∀ a : Addr, (B__law_system_right_4 K).m (sE (.lst (vs.map U.int)) k.s (.nam a (.ins "System" [(("held_values" : Str), .lst (vs.map U.int)), (("held_rule" : Str), .str k.s)])) .non .non .non .non) = some (.rt (.val (.bl true)) (List.replicate 9 .non)) := fun a => by
    have l4 := l4 a
    have lc := lc (.nam a (.ins "System" [(("held_values" : Str), .lst (vs.map U.int)), (("held_rule" : Str), .str k.s)]))
    clear l3 e1 e4 e5 e6 q1 q2 ss1 ss2
    unfold sE at *
    generalize ((vs.map numS).map U.str) = VS at *
    generalize vs.map U.int = M at *
    generalize k.s = ks at *
    generalize List.replicate 9 Slot.non = RR at *
    unfold B__law_system_right_4
    trivial
  have l6 : (msName (K := K) 2 (B__law_system_right_4 K)).m (sE (.lst (vs.map U.int)) k.s (.val (.ins "System" [(("held_values" : Str), .lst (vs.map U.int)), (("held_rule" : Str), .str k.s)])) .non .non .non .non) = some (.rt (.val (.bl true)) (List.replicate 9 .non)) :=
    msName_v (u := .ins "System" [(("held_values" : Str), .lst (vs.map U.int)), (("held_rule" : Str), .str k.s)]) rfl rfl (fun a => l5 a) fun a => endR_s (w := .bl true) (z := .bl true) rfl
  rw [show List.replicate 9 Slot.non = [.non, .non, .non, .non, .non, .non, .non, .non, .non] from rfl] at l6
  clear l3 l4 l5 lc e2 e3 e4 e5 e6 r1 r2 q1 q2 j es hl hl2 d1 ss1 ss2 hT
  unfold sE at *
  generalize vs.map U.int = M at *
  generalize k.s = ks at *
  unfold mf__law_system_right M__law_system_right
  trivial
end Sg
set_option Elab.async false
set_option linter.all false
set_option maxRecDepth 100000
set_option maxHeartbeats 1000000
namespace Sg
open PySem L2
variable {K : PySem.W.Frag}
theorem getL_c (i : List U) (a : U) : atI (i ++ [a]) (-1) = some a := atI_last i a
theorem set_last (i : List U) (a b : U) : (i ++ [a]).set i.length b = i ++ [b] := by
  rw [List.set_append_right _ _ (Nat.le_refl _), Nat.sub_self]; rfl
theorem ixN_last (i : List U) (a : U) : ixN (i ++ [a]).length (-1) = some i.length := by
  unfold ixN
  rw [List.length_append, List.length_singleton]
  simp
  omega
local macro_rules | `(tactic| trivial) => `(tactic| simp -implicitDefEqProofs (disch := omega) only [*, mC_m, mVar_m, mLook_m, mLet_m, mSc_m, mNil_m, msNil_m, msSeq_m, msAsgF_m, msDrop_m, msRet_m, msRetF_m, msRetC_m, msRaise_m, msFor_m, mtYes_m, mLc_m, mcNil_m, mcCel_m, mCall_m, moNone_m, moSome_m, mSlL_m, mBi_m, mBiF_m, miList_m, miRng1_m, miEnum_m, miZip_m, mMeth_m, mMeth0_m, msSet_m, mCat_m, mChain_m, mIsi_m, mListRng_m, mCallF_m, msParVV_m, msParFV_m, mMethD_m, mCMeth_m, mConC_m, okE_some, okE_none, opE_ok, opE_ex, opF_ok, opF_ex, mOp_e, mIx_e, unE_ok, mUn_e, coE_ok, coE_ex, coF_ok, coF_ex, mCons_e, bindAE_ok, bindAE_ex, mTup_e, tupF_e, mFr_e, lstF_ok, mLst_e, tsE_ok, tsE_ex, mTest_e, okT_some, truE_ok, truE_ex, mTru_e, anE_t, anE_f, anE_ok, orE_t, orE_f, orE_ok, mAnd_e, mOr_e, noE_ok, noE_ex, mNot_e, blV_ok, blV_ex, anV_t, anV_f, anV_ok, mAndV_e, noV_ok, noV_ex, mNotV_e, ifV_t, ifV_f, ifV_ok, mIf_e, ifS_t, ifS_f, ifS_ok, ifS_ex, msIf_e, nxO_some, asE_ok, asE_ex, msAsg_e, gcE_some, mgCons_e, mgNil_e, mgTup_e, mgName_e, cvE_ok, cvE_ex, consC_ok, mcVal_e, thenS_nx, thenS_bk, thenS_ct, thenS_rt, thenS_ex, bindES_ok, bindES_ex, bindAS_ok, bindAS_ex, bindE_ok, bindE_ex, mfOf_e, mfOf0_e, noX_val, noX_cel, coM_some, fin_val, fin_cel, fin_nx, fin_ex, oAdd_i, oSub_i, oMul_l, oMul_r, oMod_i, oDiv_i, oPow_i, oLt_i, oLe_i, oGt_i, oGe_i, oIx_l, oIx_f, oIx_t, at1_0, at2_0, at2_1, at3_0, at3_1, at3_2, at4_0, at4_1, at4_2, at4_3, ix3_0, ix3_1, ix3_2, oIsN_non, oNotN_non, oNotN_lst, oIsN_lst, oMax2_i, oMin2_i, oAbs_i, oLen_l, oLen_f, oLen_t, oNeg_i, truU_i, truU_l, truU_b, truU_n, lstU_l, lstU_f, oAppend_u, lstF_0, tupF_0, lstF_1, tupF_1, lstF_2, tupF_2, lstF_3, tupF_3, lstF_4, tupF_4, lstF_5, tupF_5, lstF_6, tupF_6, isi_NoneType_bool, isi_NoneType_int, isi_NoneType_str, isi_NoneType_list, isi_NoneType_tuple, isi_NoneType_dict, isi_bool_bool, isi_bool_int, isi_bool_str, isi_bool_list, isi_bool_tuple, isi_bool_dict, isi_int_bool, isi_int_int, isi_int_str, isi_int_list, isi_int_tuple, isi_int_dict, isi_str_bool, isi_str_int, isi_str_str, isi_str_list, isi_str_tuple, isi_str_dict, isi_list_bool, isi_list_int, isi_list_str, isi_list_list, isi_list_tuple, isi_list_dict, isi_tuple_bool, isi_tuple_int, isi_tuple_str, isi_tuple_list, isi_tuple_tuple, isi_tuple_dict, isi_dict_bool, isi_dict_int, isi_dict_str, isi_dict_list, isi_dict_tuple, isi_dict_dict, tyU_n, tyU_b, tyU_i, tyU_s, tyU_l, tyU_t, rngOk_i, zipU_map, intsU_map, blsU_map, oAll_l, cutU_1, cutU_m1, drop_map, reverse_map, length_map', dropLast_map, oEq_i, oNe_i, oEq_b, oNe_b, oEq_nn, oNe_nn, oEq_pp, oNe_pp, oEq_ii, oNe_ii, mCallL_m, lendM_ok, lendM_ex, lendA_some, lendR_b, lendR_i, lendR_n, lendR_ex, resolveL_nil, resolveL_v, resolveL_c, resC_c, List.zip_cons_cons, List.zip_nil_left, oEqS_s, oNeS_s, mCallF_m, oMul_s, oIsN_i, oIsN_b, oIsN_t, oPowX_i, mMakeS_m, mMakeL_m, mFld_m, mProp_m, mnSeq_m, mnS_m, mnF_m, at0_e, allX_const, seqU_l, seqU_f, seqU_t, msWhile_m, mCallK_m, pm_nil, pm_cons, List.mem_singleton, and_self, resC_d, scV_b, scV_i, scV_s, scV_n, Option.isSome_some, tyU_d, mgTup_2, mgTup_3, mgTup_4, or_false, false_or, or_self, or_true, true_or, Nat.reduceBEq, bindEA_ok, bindEA_ex, mLstL_m, unown, kills, cellAt, List.map_cons, List.map_nil, List.length_cons, List.length_nil, List.cons_append, List.nil_append, List.replicate, List.getElem?_cons_succ, List.getElem?_cons_zero, List.set_cons_zero, List.set_cons_succ, Option.map_some, Option.map_none, Option.bind_some, Option.bind_none, Nat.reduceAdd, Nat.reduceSub, Nat.reduceLeDiff, Int.reduceLT, Int.reduceLE, Int.reduceNeg, Int.reduceToNat, Int.reducePow, decide_eq_true_eq, reduceIte, eq_self, ite_true, ite_false, Bool.false_eq_true, reduceCtorEq, resolve, celJ, nCel, Slot.isC, List.filter, putJ, callM, callMF, List.append_eq, Nat.reduceLT, Int.reduceMul, Int.reduceAdd, Int.reduceSub, ne_eq, not_true_eq_false, not_false_eq_true, Bool.not_false, Bool.not_true, decide_true, decide_false, frF, Int.cast_ofNat_Int, Bool.and_true, Bool.true_and, Bool.false_and, Bool.and_false, Bool.or_false, Bool.false_or, Bool.true_or, Bool.or_true, ptab_row_S, ptab_rule_S])
local macro_rules | `(tactic| ac_rfl) => `(tactic| (simp -implicitDefEqProofs (disch := omega) only [*, mC_m, mVar_m, mLook_m, mLet_m, mSc_m, mNil_m, msNil_m, msSeq_m, msAsgF_m, msDrop_m, msRet_m, msRetF_m, msRetC_m, msRaise_m, msFor_m, mtYes_m, mLc_m, mcNil_m, mcCel_m, mCall_m, moNone_m, moSome_m, mSlL_m, mBi_m, mBiF_m, miList_m, miRng1_m, miEnum_m, miZip_m, mMeth_m, mMeth0_m, msSet_m, mCat_m, mChain_m, mIsi_m, mListRng_m, mCallF_m, msParVV_m, msParFV_m, mMethD_m, mCMeth_m, mConC_m, okE_some, okE_none, opE_ok, opE_ex, opF_ok, opF_ex, mOp_e, mIx_e, unE_ok, mUn_e, coE_ok, coE_ex, coF_ok, coF_ex, mCons_e, bindAE_ok, bindAE_ex, mTup_e, tupF_e, mFr_e, lstF_ok, mLst_e, tsE_ok, tsE_ex, mTest_e, okT_some, truE_ok, truE_ex, mTru_e, anE_t, anE_f, anE_ok, orE_t, orE_f, orE_ok, mAnd_e, mOr_e, noE_ok, noE_ex, mNot_e, blV_ok, blV_ex, anV_t, anV_f, anV_ok, mAndV_e, noV_ok, noV_ex, mNotV_e, ifV_t, ifV_f, ifV_ok, mIf_e, ifS_t, ifS_f, ifS_ok, ifS_ex, msIf_e, nxO_some, asE_ok, asE_ex, msAsg_e, gcE_some, mgCons_e, mgNil_e, mgTup_e, mgName_e, cvE_ok, cvE_ex, consC_ok, mcVal_e, thenS_nx, thenS_bk, thenS_ct, thenS_rt, thenS_ex, bindES_ok, bindES_ex, bindAS_ok, bindAS_ex, bindE_ok, bindE_ex, mfOf_e, mfOf0_e, noX_val, noX_cel, coM_some, fin_val, fin_cel, fin_nx, fin_ex, oAdd_i, oSub_i, oMul_l, oMul_r, oMod_i, oDiv_i, oPow_i, oLt_i, oLe_i, oGt_i, oGe_i, oIx_l, oIx_f, oIx_t, at1_0, at2_0, at2_1, at3_0, at3_1, at3_2, at4_0, at4_1, at4_2, at4_3, ix3_0, ix3_1, ix3_2, oIsN_non, oNotN_non, oNotN_lst, oIsN_lst, oMax2_i, oMin2_i, oAbs_i, oLen_l, oLen_f, oLen_t, oNeg_i, truU_i, truU_l, truU_b, truU_n, lstU_l, lstU_f, oAppend_u, lstF_0, tupF_0, lstF_1, tupF_1, lstF_2, tupF_2, lstF_3, tupF_3, lstF_4, tupF_4, lstF_5, tupF_5, lstF_6, tupF_6, isi_NoneType_bool, isi_NoneType_int, isi_NoneType_str, isi_NoneType_list, isi_NoneType_tuple, isi_NoneType_dict, isi_bool_bool, isi_bool_int, isi_bool_str, isi_bool_list, isi_bool_tuple, isi_bool_dict, isi_int_bool, isi_int_int, isi_int_str, isi_int_list, isi_int_tuple, isi_int_dict, isi_str_bool, isi_str_int, isi_str_str, isi_str_list, isi_str_tuple, isi_str_dict, isi_list_bool, isi_list_int, isi_list_str, isi_list_list, isi_list_tuple, isi_list_dict, isi_tuple_bool, isi_tuple_int, isi_tuple_str, isi_tuple_list, isi_tuple_tuple, isi_tuple_dict, isi_dict_bool, isi_dict_int, isi_dict_str, isi_dict_list, isi_dict_tuple, isi_dict_dict, tyU_n, tyU_b, tyU_i, tyU_s, tyU_l, tyU_t, rngOk_i, zipU_map, intsU_map, blsU_map, oAll_l, cutU_1, cutU_m1, drop_map, reverse_map, length_map', dropLast_map, oEq_i, oNe_i, oEq_b, oNe_b, oEq_nn, oNe_nn, oEq_pp, oNe_pp, oEq_ii, oNe_ii, mCallL_m, lendM_ok, lendM_ex, lendA_some, lendR_b, lendR_i, lendR_n, lendR_ex, resolveL_nil, resolveL_v, resolveL_c, resC_c, List.zip_cons_cons, List.zip_nil_left, oEqS_s, oNeS_s, mCallF_m, oMul_s, oIsN_i, oIsN_b, oIsN_t, oPowX_i, mMakeS_m, mMakeL_m, mFld_m, mProp_m, mnSeq_m, mnS_m, mnF_m, at0_e, allX_const, seqU_l, seqU_f, seqU_t, msWhile_m, mCallK_m, pm_nil, pm_cons, List.mem_singleton, and_self, resC_d, scV_b, scV_i, scV_s, scV_n, Option.isSome_some, tyU_d, mgTup_2, mgTup_3, mgTup_4, or_false, false_or, or_self, or_true, true_or, Nat.reduceBEq, bindEA_ok, bindEA_ex, mLstL_m, unown, kills, cellAt, List.map_cons, List.map_nil, List.length_cons, List.length_nil, List.cons_append, List.nil_append, List.replicate, List.getElem?_cons_succ, List.getElem?_cons_zero, List.set_cons_zero, List.set_cons_succ, Option.map_some, Option.map_none, Option.bind_some, Option.bind_none, Nat.reduceAdd, Nat.reduceSub, Nat.reduceLeDiff, Int.reduceLT, Int.reduceLE, Int.reduceNeg, Int.reduceToNat, Int.reducePow, decide_eq_true_eq, reduceIte, eq_self, ite_true, ite_false, Bool.false_eq_true, reduceCtorEq, resolve, celJ, nCel, Slot.isC, List.filter, putJ, callM, callMF, List.append_eq, Nat.reduceLT, Int.reduceMul, Int.reduceAdd, Int.reduceSub, ne_eq, not_true_eq_false, not_false_eq_true, Bool.not_false, Bool.not_true, decide_true, decide_false, frF, Int.cast_ofNat_Int, Bool.and_true, Bool.true_and, Bool.false_and, Bool.and_false, Bool.or_false, Bool.false_or, Bool.true_or, Bool.or_true, G__law_runs_0, G__law_scale_0, T__law_scale_1, E__law_scale_2, G_number_in_0, T_number_in_1, E_number_in_2, G_are_values_0, T_are_values_1, E_are_values_2, G_are_values_3, T_are_values_4, E_are_values_5, G_read_system_0, G_write_system_0, T_write_system_1, E_write_system_2, G_common_divisor_2, G__law_system_right_0, T__law_system_right_1, E__law_system_right_2, G_read_word_0, G_write_word_0, T_write_word_1, E_write_word_2, G__law_text_0, T__law_text_1, E__law_text_2, G_law_0, G_law_2, G_law_4, T_law_5, E_law_6, G_law_7, T_law_8, E_law_9, ptab_row_S, ptab_rule_S]; try rfl))
theorem kind_k (own : Bool) (n : Nat) (f : List U) (hf : Well n f) (hn : n < 900000) : ∃ (k : Kd) (f' : List U), Well (n + 1) f' ∧ mf__law_kind K [.cel own f] = some (.val (.str k.s) (some f')) := by
  obtain ⟨d, f', p0, p1, hf', e⟩ := next_k (K := K) false n f 5 hf (by omega) (by omega) (by omega)
  have : ∃ k : Kd, atI [U.str "plain", .str "next", .str "single", .str "block", .str "later"] d = some (.str k.s) := by
    have : d = 0 ∨ d = 1 ∨ d = 2 ∨ d = 3 ∨ d = 4 := by omega
    rcases this with rfl | rfl | rfl | rfl | rfl
    · exact ⟨.plain, rfl⟩
    · exact ⟨.next, rfl⟩
    · exact ⟨.single, rfl⟩
    · exact ⟨.block, rfl⟩
    · exact ⟨.later, rfl⟩
  obtain ⟨k, ek⟩ := this
  refine ⟨k, f', hf', ?_⟩
  clear hf hf' p0 p1 hn
  generalize k.s = ks at *
  unfold mf__law_kind M__law_kind
  trivial
theorem at3d (t : Int) (h0 : 0 ≤ t) (h1 : t < 3) : ∃ w : Int, atI [U.int 3, .int 20, .int 200] t = some (.int w) ∧ 3 ≤ w ∧ w ≤ 200 := by
  have : t = 0 ∨ t = 1 ∨ t = 2 := by omega
  rcases this with rfl | rfl | rfl
  · exact ⟨3, rfl, by omega, by omega⟩
  · exact ⟨20, rfl, by omega, by omega⟩
  · exact ⟨200, rfl, by omega, by omega⟩
theorem adjP_un (w : List (Int × Int)) (p : Int × Int) (h : AdjP (w ++ [p])) : AdjP w ∧ ∀ q, w.getLast? = some q → q.1 ≠ p.1 := by
  induction w with
  | nil => exact ⟨fun x hx => by simp at hx, fun q hq => by simp at hq⟩
  | cons a t ih =>
    cases t with
    | nil =>
      refine ⟨fun x hx => by simp at hx, fun q hq => ?_⟩
      have : a = q := by simpa using hq
      subst this
      exact h (a, p) (by simp)
    | cons b t =>
      obtain ⟨i1, i2⟩ := ih (fun x hx => h x (List.mem_cons_of_mem _ hx))
      refine ⟨fun x hx => ?_, fun q hq => i2 q (by rw [List.getLast?_cons_cons] at hq; exact hq)⟩
      have hx' : x ∈ (a, b) :: (b :: t).zip ((b :: t).drop 1) := hx
      rcases List.mem_cons.mp hx' with e | e
      · exact h x (by rw [e]; exact List.mem_cons_self)
      · exact i1 x e
abbrev lE (N : List U) (kk : Int) (s2 : Slot) (f : List U) (t : Slot) : Env := [.val (.frl N), .val (.int kk), s2, .cel true f, t, .non]
theorem turn81 (N : List U) (kk t : Int) (h0 : 0 ≤ t) (h1 : t < 3) (n : Nat) (f : List U) (hf : Well n f) (hn : n < 500000) (s2 : Slot) :
    ∃ (f' us : List U), Well (n + 900) f' ∧ (B_law_1 K).m (lE N kk s2 f (.val (.int t))) = some (.nx (lE N kk (.cel true us) f' (.val (.int t)))) := by
  obtain ⟨wd, ew, w1, w2⟩ := at3d t h0 h1
  obtain ⟨d, f1, d0, d1, hf1, e1⟩ := next_k (K := K) true n f wd hf (by omega) (by omega) (by omega)
  obtain ⟨w, f2, hf2, wl, wr, wa, e2⟩ := runs_k (K := K) true _ f1 hf1 (by omega) (1 + d) (by omega) (by omega)
  have e3 := word_right_k (K := K) w wr wa (by omega) (by omega)
  obtain ⟨vs, f3, hv, _, hf3, e4⟩ := scale_k (K := K) true _ f2 hf2 (by omega) 6 (by omega) (by omega)
  obtain ⟨k, f4, hf4, e5⟩ := kind_k (K := K) true _ f3 hf3 (by omega)
  have e6 := sys_right_k (K := K) vs k hv
  rcases List.eq_nil_or_concat w with rfl | ⟨w0, q, hq⟩
  · rw [List.length_nil] at wl; omega
  rw [List.concat_eq_append] at hq
  subst hq
  rw [List.length_append, List.length_singleton] at wl
  have qo := wr q (by simp)
  obtain ⟨a1, a2⟩ := adjP_un w0 q wa
  have r1 : ∀ p ∈ w0 ++ [(q.1, q.2 % 9 + 2)], RunOk p := fun p hp => by
    rcases List.mem_append.mp hp with z | z
    · exact wr p (List.mem_append_left _ z)
    · rw [List.mem_singleton.mp z]
      exact ⟨qo.v1, qo.v2, by dsimp only; omega, by dsimp only; omega⟩
  have b1 : AdjP (w0 ++ [(q.1, q.2 % 9 + 2)]) := adjP_snoc w0 _ a1 a2
  have hm : (w0 ++ [q]).map pU = w0.map pU ++ [.tup [.int q.1, .int q.2]] := by rw [List.map_append]; rfl
  have hm2 : (w0 ++ [(q.1, q.2 % 9 + 2)]).map pU = w0.map pU ++ [.tup [.int q.1, .int (q.2 % 9 + 2)]] := by rw [List.map_append]; rfl
  rw [hm] at e2 e3
  have g1 := getL_c (w0.map pU) (.tup [.int q.1, .int q.2])
  have g2 := getL_c (w0.map pU) (.tup [.int q.1, .int (q.2 % 9 + 2)])
  have g3 := ixN_last (w0.map pU) (.tup [.int q.1, .int q.2])
  have g4 := set_last (w0.map pU) (.tup [.int q.1, .int q.2]) (.tup [.int q.1, .int (q.2 % 9 + 2)])
  have m9 : (oMod (K := K)).f (.int q.2) (.int 9) = some (.int (q.2 % 9)) := oMod_i _ _ (by omega)
  have m60 : (oMod (K := K)).f (.int q.1) (.int 60) = some (.int (q.1 % 60)) := oMod_i _ _ (by omega)
  have hlen : (((w0.map pU ++ [U.tup [.int q.1, .int (q.2 % 9 + 2)]]).length : Nat) : Int) = 1 + d := by
    rw [List.length_append, List.length_singleton, List.length_map]; exact wl
  have oap := oAppend_u (K := K) (w0.map pU ++ [U.tup [.int q.1, .int (q.2 % 9 + 2)]]) (.tup [.int (q.1 % 60 + 1), .int 1]) (by omega)
  by_cases hd : 1 + d < 200
  · have hd' : decide (1 + d < 200) = true := decide_eq_true hd
    have v1 := qo.v1
    have v2 := qo.v2
    have e7 := word_right_k (K := K) (w0 ++ [(q.1, q.2 % 9 + 2)] ++ [(q.1 % 60 + 1, 1)]) (fun p hp => by
      rcases List.mem_append.mp hp with z | z
      · exact r1 p z
      · rw [List.mem_singleton.mp z]
        exact ⟨by dsimp only; omega, by dsimp only; omega, by dsimp only; omega, by dsimp only; omega⟩) (adjP_snoc _ _ b1 fun p hp => by
      have : (q.1, q.2 % 9 + 2) = p := by simpa using hp
      subst this
      dsimp only
      omega) (by rw [List.length_append, List.length_singleton]; omega) (by rw [List.length_append, List.length_append, List.length_singleton, List.length_singleton]; omega)
    rw [List.map_append, hm2] at e7
    replace e7 : mf__law_word_right K [.val (.lst (w0.map pU ++ [.tup [.int q.1, .int (q.2 % 9 + 2)]] ++ [.tup [.int (q.1 % 60 + 1), .int 1]]))] = some (.val (.bl true) none) := e7
    refine ⟨f4, w0.map pU ++ [.tup [.int q.1, .int (q.2 % 9 + 2)]] ++ [.tup [.int (q.1 % 60 + 1), .int 1]], hf4.mono (by omega), ?_⟩
    clear hf hf1 hf2 hf3 hf4 hn hv wl wr wa d0 d1 w1 w2 h0 h1 r1 b1 a1 a2 qo hd v1 v2 hm hm2
    generalize vs.map U.int = VU at *
    generalize w0.map pU = W0 at *
    generalize k.s = ks at *
    generalize q.1 = x at *
    generalize hy : q.2 % 9 = y at *
    generalize q.2 = z at *
    generalize x % 60 = x6 at *
    unfold lE
    unfold B_law_1
    trivial
  · have hd' : decide (1 + d < 200) = false := decide_eq_false hd
    have e7 := word_right_k (K := K) (w0 ++ [(q.1, q.2 % 9 + 2)]) r1 b1 (by rw [List.length_append, List.length_singleton]; omega) (by rw [List.length_append, List.length_singleton]; omega)
    rw [hm2] at e7
    refine ⟨f4, w0.map pU ++ [.tup [.int q.1, .int (q.2 % 9 + 2)]], hf4.mono (by omega), ?_⟩
    clear hf hf1 hf2 hf3 hf4 hn hv wl wr wa d0 d1 w1 w2 h0 h1 r1 b1 a1 a2 qo hd hm hm2 oap
    generalize vs.map U.int = VU at *
    generalize w0.map pU = W0 at *
    generalize k.s = ks at *
    generalize q.1 = x at *
    generalize hy : q.2 % 9 = y at *
    generalize q.2 = z at *
    unfold lE
    unfold B_law_1
    trivial
theorem turns81 (N : List U) (kk : Int) : ∀ (us : List Int) (n : Nat) (f : List U) (s2 : Slot), (∀ t ∈ us, 0 ≤ t ∧ t < 3) → Well n f → n + 900 * us.length < 500000 →
    ∃ (f' : List U) (s2' : Slot), loopM (G_law_0 K).m (B_law_1 K).m [4] (us.map U.int) (lE N kk s2 f .non) = some (.nx (lE N kk s2' f' .non))
  | [], n, f, s2, _, _, _ => ⟨f, s2, rfl⟩
  | t :: us, n, f, s2, ht, hf, hn => by
    rw [List.length_cons] at hn
    obtain ⟨t0, t1⟩ := ht t List.mem_cons_self
    obtain ⟨f1, a, hf1, e1⟩ := turn81 (K := K) N kk t t0 t1 n f hf (by omega) s2
    obtain ⟨f2, s3, e2⟩ := turns81 N kk us (n + 900) f1 (.cel true a) (fun x hx => ht x (List.mem_cons_of_mem _ hx)) hf1 (by omega)
    refine ⟨f2, s3, ?_⟩
    have hg : (G_law_0 K).m (.int t) (lE N kk s2 f .non) = some (lE N kk s2 f (.val (.int t))) := rfl
    rw [List.map_cons, loopM]
    simp only [hg, e1]
    exact e2
theorem cell_k (ns : List Int) (kk : Int) (h0 : 0 ≤ kk) (h1 : kk < 1000) (s2 : Slot) : ∃ (g : List U) (s2' : Slot), (B_law_3 K).m [.val (.frl (ns.map U.int)), .val (.int kk), s2, .non, .non, .non] = some (.nx (lE (ns.map U.int) kk s2' g .non)) := by
  obtain ⟨f, hf, ef⟩ := tape_k (K := K) ns kk h0 h1
  obtain ⟨g, s3, e⟩ := turns81 (K := K) (ns.map U.int) kk [0, 1, 2] 0 f s2 (fun t ht => by
    simp only [List.mem_cons, List.mem_nil_iff, or_false] at ht
    omega) hf (by simp)
  refine ⟨g, s3, ?_⟩
  clear hf h0 h1
  have hr : rngOk 0 3 = true := by decide
  have er : rangeU 0 3 = [.int 0, .int 1, .int 2] := rfl
  simp only [List.map_cons, List.map_nil] at e
  unfold lE at *
  generalize ns.map U.int = NN at *
  unfold B_law_3
  trivial
def wA : List (Int × Int) := [(1, C60), (2, C60)]
def wB : List (Int × Int) := (List.range 198).map fun i : Nat => ((1 + (0 + (i : Nat) : Int) % 2, 1) : Int × Int)
theorem wAB_adj : AdjP (wA ++ wB) := by unfold AdjP; decide +kernel
theorem wAB_ok : ∀ p ∈ wA ++ wB, RunOk p := fun p hp => by
  rcases List.mem_append.mp hp with z | z
  · unfold wA at z
    simp only [List.mem_cons, List.mem_nil_iff, or_false] at z
    rcases z with rfl | rfl
    · exact ⟨by dsimp only; omega, by dsimp only; omega, by dsimp only [C60]; omega, by dsimp only [C60]; omega⟩
    · exact ⟨by dsimp only; omega, by dsimp only; omega, by dsimp only [C60]; omega, by dsimp only [C60]; omega⟩
  · unfold wB at z
    obtain ⟨i, _, rfl⟩ := List.mem_map.mp z
    exact ⟨by dsimp only; omega, by dsimp only; omega, by dsimp only; omega, by dsimp only; omega⟩
theorem lcA (N : U) (s2 : Slot) : lcM (G_law_4 K).m (T_law_5 K).m (E_law_6 K).m [5] (rangeU 0 2) [] [.val N, .non, s2, .non, .non, .non] = some (.ok (wA.map pU) [.val N, .non, s2, .non, .non, .non]) := by
  have m30 := mul30 (K := K)
  have er : rangeU 0 2 = [(0 : Int), 1].map U.int := rfl
  have ew : wA.map pU = [(0 : Int), 1].map fun i => U.tup [.int (1 + i % 2), .int C60] := rfl
  rw [er, ew]
  refine lcM_all U.int _ _ (by show 2 ≤ _; omega) fun i _ => ?_
  have em : (oMod (K := K)).f (.int i) (.int 2) = some (.int (i % 2)) := oMod_i _ _ (by omega)
  generalize i % 2 = j at *
  exact ⟨_, _, _, (by ac_rfl), (by ac_rfl), (by ac_rfl), rfl⟩
theorem lcB (N : U) (s2 : Slot) : lcM (G_law_7 K).m (T_law_8 K).m (E_law_9 K).m [5] (rangeU 0 198) [] [.val N, .non, s2, .non, .non, .non] = some (.ok (wB.map pU) [.val N, .non, s2, .non, .non, .non]) := by
  have er : rangeU 0 198 = ((List.range 198).map fun i => (0 + (i : Nat) : Int)).map U.int := by rw [rangeU_map, List.map_map]; rfl
  have ew : wB.map pU = ((List.range 198).map fun i => (0 + (i : Nat) : Int)).map fun i => U.tup [.int (1 + i % 2), .int 1] := by unfold wB; rw [List.map_map, List.map_map]; rfl
  rw [er, ew]
  refine lcM_all U.int _ _ (by rw [List.length_map, List.length_range]; omega) fun i _ => ?_
  have em : (oMod (K := K)).f (.int i) (.int 2) = some (.int (i % 2)) := oMod_i _ _ (by omega)
  generalize i % 2 = j at *
  exact ⟨_, _, _, (by ac_rfl), (by ac_rfl), (by ac_rfl), rfl⟩
theorem law_true (ns : List Int) (hl : ns.length ≤ 63) : mf_law K [.val (.frl (ns.map U.int))] = some (.val (.bl true) none) := by
  have st2 := @loopM_inv (G_law_2 K).m (B_law_3 K).m [1, 3, 4] (fun us ρ => (∀ u ∈ us, ∃ k : Int, 0 ≤ k ∧ k < 1000 ∧ u = .int k) ∧ ∃ s2, ρ = [.val (.frl (ns.map U.int)), .non, s2, .non, .non, .non]) (by
    rintro u us ρ ⟨hu, s2, rfl⟩
    obtain ⟨k, k0, k1, rfl⟩ := hu u List.mem_cons_self
    obtain ⟨g, s3, e⟩ := cell_k (K := K) ns k k0 k1 s2
    exact ⟨_, _, rfl, .inl e, fun v hv => hu v (List.mem_cons_of_mem _ hv), s3, rfl⟩)
  generalize hn : (if (1 : Int) < (if (ns.length : Int) < 4 then (ns.length : Int) else 4) then (if (ns.length : Int) < 4 then (ns.length : Int) else 4) else 1) = n
  have hn0 : 0 ≤ n ∧ n < 1000 := by rw [← hn]; split <;> split <;> omega
  obtain ⟨ρ', e, _, s2, hρ⟩ := st2 (rangeU 0 n.toNat) [.val (.frl (ns.map U.int)), .non, .non, .non, .non, .non] ⟨fun u hu => by
      rw [rangeU_map] at hu
      obtain ⟨i, hi, rfl⟩ := List.mem_map.mp hu
      have := List.mem_range.mp hi
      exact ⟨0 + (i : Nat), by omega, by omega, rfl⟩, .non, rfl⟩
  subst hρ
  have hr : rngOk 0 n = true := rngOk_i 0 n (by omega) (by omega) (by omega) (by omega)
  have hr2 : rngOk 0 2 = true := by decide
  have hr3 : rngOk 0 198 = true := by decide
  have lA := lcA (K := K) (.frl (ns.map U.int)) s2
  have lB := lcB (K := K) (.frl (ns.map U.int)) s2
  have e1 := word_right_k (K := K) (wA ++ wB) wAB_ok wAB_adj (by decide +kernel) (by decide +kernel)
  have e2 := write_word_k (K := K) [(1, 2), (10, 1)] (fun p hp => by
    simp only [List.mem_cons, List.mem_nil_iff, or_false] at hp
    rcases hp with rfl | rfl
    · exact ⟨by dsimp only; omega, by dsimp only; omega, by dsimp only; omega, by dsimp only; omega⟩
    · exact ⟨by dsimp only; omega, by dsimp only; omega, by dsimp only; omega, by dsimp only; omega⟩) (by simp)
  have et : Txt.join " " ([((1 : Int), (2 : Int)), (10, 1)].map rtx) = "1*2 10" := by decide +kernel
  rw [et] at e2
  replace e2 : mf_write_word K [.val (.lst [.tup [.int 1, .int 2], .tup [.int 10, .int 1]])] = some (.val (.str "1*2 10") none) := e2
  have eqs : (oEq (K := K)).f (.str "1*2 10") (.str "1*2 10") = some (.bl true) := (oEq_s _ _ (by decide +kernel) (by decide +kernel)).trans rfl
  have hlw : (wA.map pU).length + (wB.map pU).length ≤ 16777216 := by rw [List.length_map, List.length_map]; show 2 + (wB).length ≤ _; unfold wB; rw [List.length_map, List.length_range]; omega
  rw [List.map_append] at e1
  have el : (((ns.map U.int).length : Nat) : Int) = (ns.length : Int) := by rw [List.length_map]
  clear st2 hn0 et hl
  generalize wA.map pU = A at *
  generalize wB.map pU = B at *
  generalize ns.map U.int = NN at *
  unfold mf_law M_law
  trivial
end Sg
set_option Elab.async false
set_option linter.all false
set_option maxRecDepth 100000
set_option maxHeartbeats 4000000
namespace Sg
open PySem L2
end Sg
open PySem PySem.W PySem.Calls PyProof.Rows Sg
theorem joint (hT : ∀ (K : PySem.W.Frag) (ns : List Int), ns.length ≤ 63 → mf_law K [.val (.frl (ns.map U.int))] = some (.val (.bl true) none)) : PySem.Challenge.rw_signsheets_k81_texts_both_ways.Holds := by
  w_on; o_law
  refine HandSHeadRun.head_any (r := PySem.W.OpenLaw.row PySem.Challenge.rw_signsheets_k81_texts_both_ways) (q := PySem.W.view (PySem.W.OpenLaw.row PySem.Challenge.rw_signsheets_k81_texts_both_ways).prog [38]) (H := hk) (ob := ob) (M := 9000) (loose := (("_wall" : Str) :: ("SignError" : Str) :: ("InvalidValues" : Str) :: ("InvalidText" : Str) :: ("NEXT" : Str) :: ("is_integer" : Str) :: ("Rule" : Str) :: ("MOST_VALUE" : Str) :: ("are_values" : Str) :: ("is_rule" : Str) :: ("common_divisor" : Str) :: ("System" : Str) :: ("DIGITS" : Str) :: ("GREATEST_SIGN" : Str) :: ("MOST_RUNS" : Str) :: ("MOST_DIGITS" : Str) :: ("number_in" : Str) :: ("sign_in" : Str) :: ("run_in" : Str) :: ("run_text" : Str) :: ("write_word" : Str) :: ("read_word" : Str) :: ("write_system" : Str) :: ("read_system" : Str) :: ("_law_tape" : Str) :: ("_law_next" : Str) :: ("_law_scale" : Str) :: ("_law_kind" : Str) :: ("_law_runs" : Str) :: ("_law_text" : Str) :: ("_law_word_right" : Str) :: ("_law_shown" : Str) :: ("_law_system_right" : Str) :: [])) (d := HandSHeadRun.topDef (PySem.W.OpenLaw.row PySem.Challenge.rw_signsheets_k81_texts_both_ways).prog 38) (kwd := []) ob_eq
    (by kernel_rfl) (fun s => by kernel_rfl) run (by kernel_rfl) (by kernel_rfl) (by kernel_rfl) (by rfl) (by first | assumption | decide +kernel) (by decide +kernel) ⟨rfl, rfl, rfl, rfl, rfl, by decide +kernel⟩ ?hw ?hc
  case hw => w_witness2
  case hc =>
    refine Sg.walk_G (l := PySem.Challenge.rw_signsheets_k81_texts_both_ways) (n := 63) (k := 8) rfl (by decide) (by kernel_rfl) ⟨rfl, by decide, by decide⟩ ?F
    intro w mg fa h Y G hmg0
    obtain ⟨K, KX, c⟩ := Y
    have hmg : mg ("law" : PySem.Str) = some (.ref fa) := by
      have e : (HandSHeadRun.topDef (PySem.W.OpenLaw.row PySem.Challenge.rw_signsheets_k81_texts_both_ways).prog 38).name = ("law" : PySem.Str) := by kernel_rfl
      rw [← e]
      exact hmg0
    have T := top_of KX G c
    have e2 := hmg.symm.trans T.g_law
    cases e2
    exact ⟨K, _, KX, fun H a ns hl _ hS => spM_law (hT K ns hl) hS, fun base _ _ => lawG0 (c_law (P := PySem.Challenge.pw_signsheets_k81_texts_both_ways) (w := w) (base := base) T)⟩
theorem PySem.Challenge.cw_signsheets_k81_texts_both_ways_holds : PySem.Challenge.rw_signsheets_k81_texts_both_ways.Holds := by
  exact joint fun K ns hl => Sg.law_true ns hl
