import PyProof.Rows.All
import HandS.DictTup
import KE.KeyNested
import Wide.All
import OpenK.AllK
import Wide.FinOn
import HandS.ForMost
import HandS.Exc
import HandS.HeadHook1
import HandS.WideBits
import HandS.SortInts
import HandS.TupAny
import HandS.ExcOwn
import HandS.WordsExc
import HandS.IsInst
import HandS.Style
import HandS.Conv
import HandS.ClsMeth
import HandS.TryOnly
import KE.KSuper
import HandS.Nested
import HandS.HeadHook2
import HandS.SetFor
import HandS.Ends
import HandS.HeadEnd
import HandS.Strs
import HandS.Dict
import HandS.Zip
import HandS.Star
import HandS.Property
import HandS.Iter
import HandS.More
import HandS.SortKw
import HandS.Finally
import HandS.ListItems
import HandS.ExcIs
import HandS.HotCalls
import HandS.DictComp
import KE.KEqDict
import KE.KDictPairs
import KE.KDictZip
import HandS.GenBody
import HandS.GenList
import PyProof.SetRoads
import HandS.Deep
import KE.SortData
import HandS.Walk
import HandS.TupLen
import KE.KDictWalk
import KE.KDictCopyH
import KE.KDictDisplayH
import HandS.ExcField
import HandS.ExcInit
import HandS.Text
import HandS.FStr
import KE.GoesEnum
import KE.KUnpackStar
import PyProof.RulesMatchSeq
import PyProof.Rows.MatchSeqLen
import PySem.Challenge.RW_signsheets_k27_whole_words_that_agree
import HandS.Head0
import HandS.Head1
import HandS.Head2
import KE.KStateDown
set_option Elab.async false
set_option linter.all false
set_option maxRecDepth 100000
set_option maxHeartbeats 4000000
namespace Sg
open PySem L2 PySem.Spec PyProof.Rows
inductive KT where
  | non | bl (b : Bool) | int (i : Int) | tup (ks : List KT)
mutual
def KT.key : KT → NestedKey
  | .non => .none
  | .bl b => .num (if b = true then 1 else 0)
  | .int i => .num i
  | .tup ks => .tup (KT.keys ks)
def KT.keys : List KT → List NestedKey
  | [] => []
  | k :: ks => k.key :: KT.keys ks
end
mutual
inductive KeyV (K : PySem.W.Frag) (H : Hp) : KT → V → Prop
  | non : KeyV K H .non .non
  | bl (b : Bool) : KeyV K H (.bl b) (.bl b)
  | int (i : Int) : KeyV K H (.int i) (.int i)
  | tup {a : Addr} {vs : List V} {ks : List KT} : SqT K H a vs → KeysV K H ks vs → KeyV K H (.tup ks) (.ref a)
inductive KeysV (K : PySem.W.Frag) (H : Hp) : List KT → List V → Prop
  | nil : KeysV K H [] []
  | cons {k : KT} {v : V} {ks : List KT} {vs : List V} : KeyV K H k v → KeysV K H ks vs → KeysV K H (k :: ks) (v :: vs)
end
def valKT (kvs : List (KT × V)) (k : NestedKey) : Option V := (kvs.find? fun kv => decide (kv.1.key = k)).map (·.2)
def putKT (kvs : List (KT × V)) (t : KT) (v : V) : List (KT × V) := if (kvs.any fun kv => decide (kv.1.key = t.key)) = true then kvs.map (fun kv => if kv.1.key = t.key then (kv.1, v) else kv) else kvs ++ [(t, v)]
theorem valKT_pos {p : KT × V} {r : List (KT × V)} {k : NestedKey} (h : p.1.key = k) : valKT (p :: r) k = some p.2 := by simp [valKT, List.find?_cons, h]
theorem valKT_neg {p : KT × V} {r : List (KT × V)} {k : NestedKey} (h : ¬ p.1.key = k) : valKT (p :: r) k = valKT r k := by simp [valKT, List.find?_cons, h]
theorem valKT_any (k : NestedKey) : ∀ kvs : List (KT × V), (kvs.any fun kv => decide (kv.1.key = k)) = (valKT kvs k).isSome
  | [] => rfl
  | p :: r => by
    rw [List.any_cons]
    by_cases e : p.1.key = k
    · rw [valKT_pos e]; simp [e]
    · rw [valKT_neg e, valKT_any k r]; simp [e]
theorem length_putKT (kvs : List (KT × V)) (t : KT) (v : V) : (putKT kvs t v).length ≤ kvs.length + 1 := by
  unfold putKT; split <;> simp
mutual
theorem KeyV.up {K : PySem.W.Frag} {H H' : Hp} (e : ∀ a xs, SqT K H a xs → SqT K H' a xs) : ∀ {k : KT} {v : V}, KeyV K H k v → KeyV K H' k v
  | _, _, .non => .non
  | _, _, .bl b => .bl b
  | _, _, .int i => .int i
  | _, _, .tup r t => .tup (e _ _ r) (KeysV.up e t)
theorem KeysV.up {K : PySem.W.Frag} {H H' : Hp} (e : ∀ a xs, SqT K H a xs → SqT K H' a xs) : ∀ {ks : List KT} {vs : List V}, KeysV K H ks vs → KeysV K H' ks vs
  | _, _, .nil => .nil
  | _, _, .cons a b => .cons (KeyV.up e a) (KeysV.up e b)
end
mutual
theorem key_is {X : Cx} {pins : List (Addr × Obj)} {σ : L2.St} {H : Hp} {s : Shared} (I : Inv X pins σ H s) : ∀ {k : KT} {v : V} {u : Value}, KeyV X.K H k v → RelV v u → NestedIs s.heap k.key u
  | _, _, _, .non, r => by cases (show _ = Value.none from r); exact .none
  | _, _, _, .bl b, r => by cases (show _ = Value.bool b from r); exact .bool rfl
  | _, _, _, .int i, r => by obtain ⟨t, rfl⟩ := (show ∃ t, _ = Value.int i t from r); exact .int i t
  | _, _, _, .tup (a := a) (vs := vs) e t, r => by
    cases (show _ = Value.ref a from r)
    rcases e with e | ⟨o, its, n, h0, h1, h2, _, q⟩
    · obtain ⟨_, its, q, o, h1, h2, n, h3⟩ := (show ObjOk X.prog X.w H s.heap a (.tup vs) from e.ok I.hok)
      exact .tup h1 h2 h3 (keys_is I t q)
    · exact .tup (I.kIn a o h0) h1 h2 (keys_is I t q)
theorem keys_is {X : Cx} {pins : List (Addr × Obj)} {σ : L2.St} {H : Hp} {s : Shared} (I : Inv X pins σ H s) : ∀ {ks : List KT} {vs : List V} {us : List Value}, KeysV X.K H ks vs → Vals vs us → NestedAll s.heap (KT.keys ks) us
  | _, _, _, .nil, .nil => .nil
  | _, _, _, .cons a b, .cons r q => .cons (key_is I a r) (keys_is I b q)
end
mutual
def nh : NestedKey → Int
  | .none => reduceHash 0xFCA86420
  | .num i => hashInt i
  | .text _ => 0
  | .tup ks => reduceHash (Builtin.Tuple.tupleHashOf (nhs ks))
def nhs : List NestedKey → List Int
  | [] => []
  | k :: ks => nh k :: nhs ks
end
mutual
theorem nh_eq {w : World} {K : PySem.W.Frag} {H : Hp} : ∀ {k : KT} {v : V}, KeyV K H k v → k.key.hash w = nh k.key
  | _, _, .non => rfl
  | _, _, .bl b => by cases b <;> rfl
  | _, _, .int i => rfl
  | _, _, .tup (ks := ks) _ t => by unfold KT.key NestedKey.hash nh; rw [nhs_eq t]
theorem nhs_eq {w : World} {K : PySem.W.Frag} {H : Hp} : ∀ {ks : List KT} {vs : List V}, KeysV K H ks vs → NestedKey.hashes w (KT.keys ks) = nhs (KT.keys ks)
  | _, _, .nil => rfl
  | _, _, .cons a b => by unfold KT.keys NestedKey.hashes nhs; rw [nh_eq a, nhs_eq b]
end
def entN (x : NestedKey × Addr × Value) : DictEntry := ⟨nh x.1, .ref x.2.1, x.2.2⟩
def NdO (a : Addr) (es : Array DictEntry) (ep : Nat) : HO := .ext fun h => DT.Raw h a es ep
theorem ndO_ok {P : Program} {w : World} {H : Hp} {h : Heap} {a : Addr} {es : Array DictEntry} {ep : Nat} (r : DT.Raw h a es ep) : ObjOk P w H h a (NdO a es ep) :=
  ⟨r, let ⟨o, ho, _⟩ := r; ⟨o, ho⟩, fun _ _ q k => q.at' k⟩
theorem ndO_raw {P : Program} {w : World} {H : Hp} {h : Heap} {a : Addr} {es : Array DictEntry} {ep : Nat} (x : ObjOk P w H h a (NdO a es ep)) : DT.Raw h a es ep := x.1
abbrev NT (K : PySem.W.Frag) (H : Hp) : List (KT × V) → List (NestedKey × Addr × Value) → Prop := Paired fun p q => p.1.key = q.1 ∧ (KeyV K H p.1 (.ref q.2.1) ∧ p.1.key.depth ≤ 8) ∧ RelV p.2 q.2.2
theorem NT.val {K : PySem.W.Frag} {H : Hp} {kvs : List (KT × V)} {xs : List (NestedKey × Addr × Value)} (r : NT K H kvs xs) (k : NestedKey) : RelO (valKT kvs k) ((atKey xs k).map (·.2)) := by
  induction r with
  | nil => exact True.intro
  | @cons p q ps qs h t ih =>
    obtain ⟨h1, _, h2⟩ := h
    by_cases e : p.1.key = k
    · have e' : q.1 = k := h1.symm.trans e
      have b : atKey (q :: qs) k = some q.2 := by simp [atKey, List.find?_cons, e']
      rw [valKT_pos e, b]; exact h2
    · have e' : ¬ q.1 = k := fun z => e (h1.trans z)
      have b : atKey (q :: qs) k = atKey qs k := by simp [atKey, List.find?_cons, e']
      rw [valKT_neg e, b]; exact ih
theorem NT.repl {K : PySem.W.Frag} {H : Hp} {kvs : List (KT × V)} {xs : List (NestedKey × Addr × Value)} (r : NT K H kvs xs) (k : NestedKey) {y : V} {u : Value} (ry : RelV y u) :
    NT K H (kvs.map fun kv => if kv.1.key = k then (kv.1, y) else kv) (xs.map (putAt k u)) := by
  induction r with
  | nil => exact .nil
  | @cons p q ps qs h t ih =>
    rw [List.map_cons, List.map_cons]
    refine .cons ?_ ih
    obtain ⟨h1, h2, h3⟩ := h
    unfold putAt
    by_cases e : p.1.key = k
    · rw [if_pos e, if_pos (h1.symm.trans e)]; exact ⟨h1, h2, ry⟩
    · rw [if_neg e, if_neg (fun z => e (h1.trans z))]; exact ⟨h1, h2, h3⟩
theorem NT.put {K : PySem.W.Frag} {H : Hp} {kvs : List (KT × V)} {xs : List (NestedKey × Addr × Value)} (r : NT K H kvs xs) (k : KT) {b : Addr} {y : V} {u : Value} (hb : KeyV K H k (.ref b)) (hd : k.key.depth ≤ 8) (ry : RelV y u) :
    NT K H (putKT kvs k y) (storedH xs k.key b u) := by
  have e : (kvs.any fun kv => decide (kv.1.key = k.key)) = (atKey xs k.key).isSome := by
    rw [valKT_any, (r.val k.key).isSome_eq, Option.isSome_map]
  unfold putKT storedH
  rw [e]
  by_cases q : (atKey xs k.key).isSome = true
  · rw [if_pos q, if_pos q]; exact r.repl k.key ry
  · rw [if_neg q, if_neg q]; exact Paired.snoc r ⟨rfl, ⟨hb, hd⟩, ry⟩
theorem NT.up {K : PySem.W.Frag} {H H' : Hp} {kvs : List (KT × V)} {xs : List (NestedKey × Addr × Value)} (r : NT K H kvs xs) (e : ∀ a xs, SqT K H a xs → SqT K H' a xs) : NT K H' kvs xs :=
  Paired.mapP r fun _ _ z => ⟨z.1, ⟨z.2.1.1.up e, z.2.1.2⟩, z.2.2⟩
theorem NT.mem {K : PySem.W.Frag} {H : Hp} {kvs : List (KT × V)} {xs : List (NestedKey × Addr × Value)} (r : NT K H kvs xs) : ∀ x ∈ xs, ∃ t : KT, t.key = x.1 ∧ KeyV K H t (.ref x.2.1) ∧ x.1.depth ≤ 8 := by
  induction r with
  | nil => intro x hx; exact nomatch hx
  | @cons p q ps qs hq t ih =>
    intro x hx
    rcases List.mem_cons.mp hx with e | hx
    · subst e
      exact ⟨p.1, hq.1, hq.2.1.1, by rw [← hq.1]; exact hq.2.1.2⟩
    · exact ih x hx
theorem NT.ent {P : Program} {w : World} {K : PySem.W.Frag} {H : Hp} {kvs : List (KT × V)} {xs : List (NestedKey × Addr × Value)} (r : NT K H kvs xs) : xs.map entN = xs.map (entryOfKey (nestedKind P w)) :=
  List.map_congr_left fun x hx => by
    show DictEntry.mk _ _ _ = DictEntry.mk (x.1.hash w) _ _
    obtain ⟨t, e, ht, _⟩ := r.mem x hx
    rw [← e, nh_eq ht, e]
def ND (K : PySem.W.Frag) (H : Hp) (a : Addr) (kvs : List (KT × V)) : Prop :=
  kvs.length ≤ sizeLine ∧ (a == sysModules) = false ∧ ∃ xs es ep, Rd H a (NdO a es ep) ∧ es.toList = xs.map entN ∧ NT K H kvs xs ∧ (xs.map (·.1)).Nodup
def NDm (K : PySem.W.Frag) (H : Hp) (a : Addr) (kvs : List (KT × V)) : Prop :=
  kvs.length ≤ sizeLine ∧ (a == sysModules) = false ∧ ∃ xs es ep, H a = some (NdO a es ep) ∧ es.toList = xs.map entN ∧ NT K H kvs xs ∧ (xs.map (·.1)).Nodup
theorem NDm.rd {K : PySem.W.Frag} {H : Hp} {a : Addr} {kvs : List (KT × V)} (m : NDm K H a kvs) : ND K H a kvs := by
  obtain ⟨z, y, xs, es, ep, e, r⟩ := m
  exact ⟨z, y, xs, es, ep, .inl e, r⟩
theorem nd_of {X : Cx} {pins : List (Addr × Obj)} {σ : L2.St} {H : Hp} {s : Shared} {a : Addr} {kvs : List (KT × V)} (I : Inv X pins σ H s) (m : ND X.K H a kvs) : ∃ xs, NT X.K H kvs xs ∧ s.heap.DictOfH (nestedKind X.prog X.w) a xs := by
  obtain ⟨_, _, xs, es, ep, e, e1, nt, nd⟩ := m
  obtain ⟨o, ho, hx, hd⟩ := ndO_raw (show ObjOk X.prog X.w H s.heap a (NdO a es ep) from e.ok I.hok)
  exact ⟨xs, nt, o, es, ep, ho, hx, hd, e1.trans nt.ent, fun x hx => (let ⟨t, e, ht, hd⟩ := nt.mem x hx; ⟨by rw [← e]; exact key_is I ht rfl, hd⟩), nd⟩
def ND2 (K : PySem.W.Frag) (G H : Hp) (a : Addr) (kvs : List (KT × V)) : Prop :=
  kvs.length ≤ sizeLine ∧ (a == sysModules) = false ∧ ∃ xs es ep, H a = some (NdO a es ep) ∧ es.toList = xs.map entN ∧ NT K G kvs xs ∧ (xs.map (·.1)).Nodup
theorem ND2.m {K : PySem.W.Frag} {G H : Hp} {a : Addr} {kvs : List (KT × V)} (hG : ∀ a xs, SqT K G a xs → SqT K H a xs) (m : ND2 K G H a kvs) : NDm K H a kvs := by
  obtain ⟨z, y, xs, es, ep, e, e1, nt, r⟩ := m
  exact ⟨z, y, xs, es, ep, e, e1, nt.up hG, r⟩
theorem ND2.at {K : PySem.W.Frag} {G H H' : Hp} {a : Addr} {kvs : List (KT × V)} (m : ND2 K G H a kvs) (h : H' a = H a) : ND2 K G H' a kvs := by
  obtain ⟨z, y, xs, es, ep, e, r⟩ := m
  exact ⟨z, y, xs, es, ep, h.trans e, r⟩
theorem ND2.upG {K : PySem.W.Frag} {G G' H : Hp} {a : Addr} {kvs : List (KT × V)} (m : ND2 K G H a kvs) (hG : ∀ a xs, SqT K G a xs → SqT K G' a xs) : ND2 K G' H a kvs := by
  obtain ⟨z, y, xs, es, ep, e, e1, nt, r⟩ := m
  exact ⟨z, y, xs, es, ep, e, e1, nt.up hG, r⟩
theorem ND2.some {K : PySem.W.Frag} {G H : Hp} {a : Addr} {kvs : List (KT × V)} (m : ND2 K G H a kvs) : ∃ es ep, H a = some (NdO a es ep) := by
  obtain ⟨z, y, xs, es, ep, e, r⟩ := m
  exact ⟨es, ep, e⟩
theorem ND.up {K : PySem.W.Frag} {H H' : Hp} {a : Addr} {kvs : List (KT × V)} (m : ND K H a kvs) (e : ∀ u, Rd H a u → Rd H' a u) (t : ∀ b xs, SqT K H b xs → SqT K H' b xs) : ND K H' a kvs := by
  obtain ⟨z, y, xs, es, ep, e0, e1, nt, r⟩ := m
  exact ⟨z, y, xs, es, ep, e _ e0, e1, nt.up t, r⟩
section
variable {X : Cx} {pins : List (Addr × Obj)} {σ : L2.St} {G H : Hp} {s : Shared} {a b : Addr} {v : V} {k : KT} {kvs : List (KT × V)} {r : Value} {A : Around} {E : Value → Shared → Prop}
theorem nd_setItem2 {Q : Unit → Shared → Prop} (hG : ∀ a xs, SqT X.K G a xs → SqT X.K H a xs) (hu : A.in1.units + 8 < cLine) (I : Inv X pins σ H s) (m : ND2 X.K G H a kvs) (kb : KeyV X.K G k (.ref b)) (kd : k.key.depth ≤ 8) (hl : kvs.length < sizeLine) (rv : RelV v r)
    (h : ∀ (es : Array DictEntry) (ep : Nat) (s' : Shared), ND2 X.K G (upd H a (NdO a es ep)) a (putKT kvs k v) → Inv X pins σ (upd H a (NdO a es ep)) s' → Q () s') :
    wpAny (model X.prog X.w) A (setItem (.ref a) (.ref b) r) Q E s := by
  obtain ⟨_, hs0, xs, es0, ep0, e, e1, nt, nd⟩ := m
  obtain ⟨o, ho, hx, hd⟩ := ndO_raw (show ObjOk X.prog X.w H s.heap a (NdO a es0 ep0) from I.hok a _ e)
  have ntH := nt.up hG
  have dd : s.heap.DictOfH (nestedKind X.prog X.w) a xs := ⟨o, es0, ep0, ho, hx, hd, e1.trans nt.ent, fun x hx => (let ⟨t, e, ht, hd⟩ := ntH.mem x hx; ⟨by rw [← e]; exact key_is I ht rfl, hd⟩), nd⟩
  have hz : xs.length ≤ sizeLine := by rw [← Paired.length nt]; exact Nat.le_of_lt hl
  have hl' : (putKT kvs k v).length ≤ sizeLine := by have := length_putKT kvs k v; omega
  refine wpAny_setItem_heap (knd := nestedKind X.prog X.w) (hsz := hz) hu ⟨key_is I (kb.up hG) rfl, kd⟩ dd fun h' dd' hs => ?_
  obtain ⟨q, es, ep, hq, h2, h3, h4, _, h5⟩ := dd'
  have nt2 := nt.put k kb kd rv
  exact h es ep _ ⟨hl', hs0, _, es, ep, upd_same, h4.trans nt2.ent.symm, nt2, h5⟩ (d_write I (by rw [e]; exact True.intro) hs ⟨q, hq⟩ (ndO_ok ⟨q, hq, h2, h3⟩))
end
def NGet (K : PySem.W.Frag) (H : Hp) (a : Addr) (y : V) (r : Option V) : Prop := ∃ kvs k b, ND K H a kvs ∧ y = .ref b ∧ KeyV K H k (.ref b) ∧ k.key.depth ≤ 8 ∧ r = valKT kvs k.key
def tNDNew : TE := fun _ H Q => ∀ p, (p == sysModules) = false → H p = none → Q (.ref p) (upd H p (NdO p #[] 0))
theorem pe_ndnew {X : Cx} {pos : Pos} : PE X (.Dict [] [] pos) tNDNew := ⟨fun pins s σ H Q I h =>
  wpAny_Dict_empty ⟨.ref s.heap.objs.size, _, I.laid (a := s.heap.objs.size) (o := NdO s.heap.objs.size #[] 0) (t' := s.toks) (fun _ _ q => Heap.get?_push_of_some _ q) (Nat.le_refl _) (ndO_ok ⟨_, Heap.get?_push_size _ rfl, ⟨rfl, rfl, rfl⟩, rfl⟩), rfl, h _ (beq_eq_false_iff_ne.mpr (Ne.symm (Nat.ne_of_lt I.big))) (I.hok.fresh (Nat.le_refl _))⟩⟩
end Sg
set_option Elab.async false
set_option linter.all false
set_option maxRecDepth 100000
set_option maxHeartbeats 4000000
namespace Sg
open PySem L2
inductive U where
  | non | bl (b : Bool) | int (i : Int) | str (s : Str) | ref (a : Addr)
  | lst (us : List U) | frl (us : List U) | tup (us : List U) | dic (kvs : List (Key × U)) | ins (c : Str) (fs : List (Str × U)) | exc (c : Str) | exf (c f : Str) (u : U) | ndc (kvs : List (KT × U))
def scV : U → Option V
  | .non => some .non
  | .bl b => some (.bl b)
  | .int i => some (.int i)
  | .str s => some (.str s)
  | .ref a => some (.ref a)
  | _ => none
def CaO (cls : Value) (a : Addr) : HO := .ext fun h => ∃ (oe : Obj) (vs : Array Value), h.get? a = some oe ∧ Zc cls none oe ∧ oe.data = .fields vs
def CaX (cls : Value) (a d : Addr) : HO := .ext fun h => ∃ (oe : Obj) (vs : Array Value), h.get? a = some oe ∧ Zc cls (some d) oe ∧ oe.data = .fields vs
mutual
def Rep (K : PySem.W.Frag) (B : Hp) : U → V → Prop
  | .non, v => v = .non
  | .bl b, v => v = .bl b
  | .int i, v => v = .int i
  | .str s, v => v = .str s
  | .ref a, v => v = .ref a
  | .lst us, v => ∃ a vs, v = .ref a ∧ B a = some (.lst vs) ∧ RepL K B us vs
  | .frl us, v => ∃ a vs, v = .ref a ∧ SqL K B a vs ∧ RepL K B us vs
  | .tup us, v => ∃ a vs, v = .ref a ∧ SqT K B a vs ∧ RepL K B us vs
  | .dic kvs, v => ∃ a ws, v = .ref a ∧ Rd B a (.dK ws) ∧ RepD K B kvs ws
  | .ins c fs, v => ∃ a dx ws, v = .ref a ∧ B a = some (.ins (He.ga K c) dx ws) ∧ RepF K B fs ws
  | .exc c, v => ∃ a, v = .ref a ∧ B a = some (CaO (.ref (He.ga K c)) a)
  | .exf c f u, v => ∃ a d z, v = .ref a ∧ B a = some (CaX (.ref (He.ga K c)) a d) ∧ scV u = some z ∧ B d = some (.xd [(f, z)])
  | .ndc kvs, v => ∃ a ws, v = .ref a ∧ ND K B a ws ∧ RepN K B kvs ws
def RepL (K : PySem.W.Frag) (B : Hp) : List U → List V → Prop
  | [], vs => vs = []
  | u :: us, vs => ∃ v r, vs = v :: r ∧ Rep K B u v ∧ RepL K B us r
def RepD (K : PySem.W.Frag) (B : Hp) : List (Key × U) → List (Key × V) → Prop
  | [], ws => ws = []
  | (k, u) :: us, ws => ∃ v r, ws = (k, v) :: r ∧ Rep K B u v ∧ RepD K B us r
def RepN (K : PySem.W.Frag) (B : Hp) : List (KT × U) → List (KT × V) → Prop
  | [], ws => ws = []
  | (k, u) :: us, ws => ∃ v r, ws = (k, v) :: r ∧ Rep K B u v ∧ RepN K B us r
def RepF (K : PySem.W.Frag) (B : Hp) : List (Str × U) → List (Str × V) → Prop
  | [], ws => ws = []
  | (k, u) :: us, ws => ∃ v r, ws = (k, v) :: r ∧ Rep K B u v ∧ RepF K B us r
end
def Ex (H H' : Hp) : Prop := ∀ a o, H a = some o → H' a = some o
theorem Ex.refl {H : Hp} : Ex H H := fun _ _ h => h
theorem Ex.trans {H H1 H2 : Hp} (a : Ex H H1) (b : Ex H1 H2) : Ex H H2 := fun x o h => b x o (a x o h)
theorem Ex.new {H : Hp} {p : Addr} {o : HO} (h : H p = none) : Ex H (upd H p o) := fun a u e => by
  rw [upd_ne (ne_of_none e h)]; exact e
theorem Ex.none {H H' : Hp} {p : Addr} (e : Ex H H') (h : H' p = none) : H p = none := by
  cases q : H p with
  | none => rfl
  | some o => rw [e p o q] at h; cases h
theorem Ex.rd {H H' : Hp} {a : Addr} {u : HO} (e : Ex H H') (h : Rd H a u) : Rd H' a u := by
  rcases h with h | ⟨o, h⟩
  · exact .inl (e a _ h)
  · exact .inr ⟨o, e a _ h⟩
theorem Ex.l {K : PySem.W.Frag} {H H' : Hp} {a : Addr} {xs : List V} (e : Ex H H') (h : SqL K H a xs) : SqL K H' a xs := by
  rcases h with h | h
  · exact .inl (e.rd h)
  · exact .inr h
theorem Ex.t {K : PySem.W.Frag} {H H' : Hp} {a : Addr} {xs : List V} (e : Ex H H') (h : SqT K H a xs) : SqT K H' a xs := by
  rcases h with h | h
  · exact .inl (e.rd h)
  · exact .inr h
mutual
theorem Rep.mono {K : PySem.W.Frag} {B B' : Hp} (e : Ex B B') : ∀ (u : U) (v : V), Rep K B u v → Rep K B' u v
  | .non, _, h => h
  | .bl _, _, h => h
  | .int _, _, h => h
  | .str _, _, h => h
  | .ref _, _, h => h
  | .lst us, _, h => by
    obtain ⟨a, vs, h1, h2, h3⟩ := h
    exact ⟨a, vs, h1, e _ _ h2, RepL.mono e us vs h3⟩
  | .frl us, _, h => by
    obtain ⟨a, vs, h1, h2, h3⟩ := h
    exact ⟨a, vs, h1, e.l h2, RepL.mono e us vs h3⟩
  | .tup us, _, h => by
    obtain ⟨a, vs, h1, h2, h3⟩ := h
    exact ⟨a, vs, h1, e.t h2, RepL.mono e us vs h3⟩
  | .dic kvs, _, h => by
    obtain ⟨a, vs, h1, h2, h3⟩ := h
    exact ⟨a, vs, h1, e.rd h2, RepD.mono e kvs vs h3⟩
  | .ins c fs, _, h => by
    obtain ⟨a, dx, vs, h1, h2, h3⟩ := h
    exact ⟨a, dx, vs, h1, e _ _ h2, RepF.mono e fs vs h3⟩
  | .exc c, _, h => by
    obtain ⟨a, h1, h2⟩ := h
    exact ⟨a, h1, e _ _ h2⟩
  | .exf c f u, _, h => by
    obtain ⟨a, d, z, h1, h2, h4, h3⟩ := h
    exact ⟨a, d, z, h1, e _ _ h2, h4, e _ _ h3⟩
  | .ndc kvs, _, h => by
    obtain ⟨a, vs, h1, h2, h3⟩ := h
    exact ⟨a, vs, h1, h2.up (fun _ q => e.rd q) (fun _ _ q => e.t q), RepN.mono e kvs vs h3⟩
theorem RepL.mono {K : PySem.W.Frag} {B B' : Hp} (e : Ex B B') : ∀ (us : List U) (vs : List V), RepL K B us vs → RepL K B' us vs
  | [], _, h => h
  | u :: us, _, h => by
    obtain ⟨v, r, h1, h2, h3⟩ := h
    exact ⟨v, r, h1, Rep.mono e u v h2, RepL.mono e us r h3⟩
theorem RepD.mono {K : PySem.W.Frag} {B B' : Hp} (e : Ex B B') : ∀ (us : List (Key × U)) (vs : List (Key × V)), RepD K B us vs → RepD K B' us vs
  | [], _, h => h
  | (k, u) :: us, _, h => by
    obtain ⟨v, r, h1, h2, h3⟩ := h
    exact ⟨v, r, h1, Rep.mono e u v h2, RepD.mono e us r h3⟩
theorem RepN.mono {K : PySem.W.Frag} {B B' : Hp} (e : Ex B B') : ∀ (us : List (KT × U)) (vs : List (KT × V)), RepN K B us vs → RepN K B' us vs
  | [], _, h => h
  | (k, u) :: us, _, h => by
    obtain ⟨v, r, h1, h2, h3⟩ := h
    exact ⟨v, r, h1, Rep.mono e u v h2, RepN.mono e us r h3⟩
theorem RepF.mono {K : PySem.W.Frag} {B B' : Hp} (e : Ex B B') : ∀ (us : List (Str × U)) (vs : List (Str × V)), RepF K B us vs → RepF K B' us vs
  | [], _, h => h
  | (k, u) :: us, _, h => by
    obtain ⟨v, r, h1, h2, h3⟩ := h
    exact ⟨v, r, h1, Rep.mono e u v h2, RepF.mono e us r h3⟩
end
mutual
def ktU : KT → U
  | .non => .non
  | .bl b => .bl b
  | .int i => .int i
  | .tup ks => .tup (ktUs ks)
def ktUs : List KT → List U
  | [] => []
  | k :: ks => ktU k :: ktUs ks
end
mutual
inductive KeyU : U → KT → Prop
  | non : KeyU .non .non
  | bl (b : Bool) : KeyU (.bl b) (.bl b)
  | int (i : Int) : KeyU (.int i) (.int i)
  | tup {us : List U} {ks : List KT} : KeysU us ks → KeyU (.tup us) (.tup ks)
inductive KeysU : List U → List KT → Prop
  | nil : KeysU [] []
  | cons {u : U} {k : KT} {us : List U} {ks : List KT} : KeyU u k → KeysU us ks → KeysU (u :: us) (k :: ks)
end
mutual
theorem KeyV.repU {K : PySem.W.Frag} {B : Hp} : ∀ {k : KT} {v : V}, KeyV K B k v → Rep K B (ktU k) v
  | _, _, .non => rfl
  | _, _, .bl b => rfl
  | _, _, .int i => rfl
  | _, _, .tup e t => ⟨_, _, rfl, e, KeysV.repU t⟩
theorem KeysV.repU {K : PySem.W.Frag} {B : Hp} : ∀ {ks : List KT} {vs : List V}, KeysV K B ks vs → RepL K B (ktUs ks) vs
  | _, _, .nil => rfl
  | _, _, .cons a b => ⟨_, _, rfl, KeyV.repU a, KeysV.repU b⟩
end
mutual
theorem ktU_key : ∀ (k : KT), KeyU (ktU k) k
  | .non => .non
  | .bl b => .bl b
  | .int i => .int i
  | .tup ks => .tup (ktUs_key ks)
theorem ktUs_key : ∀ (ks : List KT), KeysU (ktUs ks) ks
  | [] => .nil
  | k :: ks => .cons (ktU_key k) (ktUs_key ks)
end
theorem KeyV.rep {K : PySem.W.Frag} {B : Hp} {k : KT} {v : V} (h : KeyV K B k v) : ∃ u, KeyU u k ∧ Rep K B u v := ⟨ktU k, ktU_key k, h.repU⟩
mutual
theorem KeyU.v {K : PySem.W.Frag} {B : Hp} : ∀ {u : U} {k : KT} {v : V}, KeyU u k → Rep K B u v → KeyV K B k v
  | _, _, _, .non, r => by cases r; exact .non
  | _, _, _, .bl b, r => by cases r; exact .bl b
  | _, _, _, .int i, r => by cases r; exact .int i
  | _, _, _, .tup t, r => by
    obtain ⟨a, vs, rfl, e, r⟩ := r
    exact .tup e (KeysU.v t r)
theorem KeysU.v {K : PySem.W.Frag} {B : Hp} : ∀ {us : List U} {ks : List KT} {vs : List V}, KeysU us ks → RepL K B us vs → KeysV K B ks vs
  | _, _, _, .nil, r => by cases r; exact .nil
  | _, _, _, .cons a b, r => by
    obtain ⟨v, r, rfl, r1, r2⟩ := r
    exact .cons (KeyU.v a r1) (KeysU.v b r2)
end
theorem KeyV.tr {K : PySem.W.Frag} {B B' : Hp} (t : ∀ u v, Rep K B u v → Rep K B' u v) {k : KT} {v : V} (h : KeyV K B k v) : KeyV K B' k v :=
  let ⟨u, a, r⟩ := h.rep; a.v (t u v r)
theorem NT.tr {K : PySem.W.Frag} {B B' : Hp} (t : ∀ u v, Rep K B u v → Rep K B' u v) {kvs : List (KT × V)} {xs : List (NestedKey × Addr × Value)} (r : NT K B kvs xs) : NT K B' kvs xs :=
  Paired.mapP r fun _ _ z => ⟨z.1, ⟨z.2.1.1.tr t, z.2.1.2⟩, z.2.2⟩
theorem ND2.tr {K : PySem.W.Frag} {B B' H : Hp} (t : ∀ u v, Rep K B u v → Rep K B' u v) {a : Addr} {kvs : List (KT × V)} (m : ND2 K B H a kvs) : ND2 K B' H a kvs := by
  obtain ⟨z, y, xs, es, ep, e, e1, nt, r⟩ := m
  exact ⟨z, y, xs, es, ep, e, e1, nt.tr t, r⟩
theorem RepN.tr {K : PySem.W.Frag} {B B' : Hp} (t : ∀ u v, Rep K B u v → Rep K B' u v) : ∀ {us : List (KT × U)} {vs : List (KT × V)}, RepN K B us vs → RepN K B' us vs
  | [], _, h => h
  | (k, u) :: us, _, h => by
    obtain ⟨v, r, rfl, h1, h2⟩ := h
    exact ⟨v, r, rfl, t u v h1, RepN.tr t h2⟩
theorem rep_sc {K : PySem.W.Frag} {B : Hp} {u : U} {z : V} (h : scV u = some z) : Rep K B u z := by
  cases u <;> first | (cases h; rfl) | cases h
theorem RepL.length {K : PySem.W.Frag} {B : Hp} : ∀ {us : List U} {vs : List V}, RepL K B us vs → vs.length = us.length
  | [], _, h => by cases h; rfl
  | u :: us, _, h => by
    obtain ⟨v, r, rfl, _, h3⟩ := h
    simp [RepL.length h3]
theorem RepL.get {K : PySem.W.Frag} {B : Hp} : ∀ {us : List U} {vs : List V} {i : Nat} {u : U}, RepL K B us vs → us[i]? = some u → ∃ v, vs[i]? = some v ∧ Rep K B u v
  | [], _, _, _, _, e => by simp at e
  | u :: us, _, 0, w, h, e => by
    obtain ⟨v, r, rfl, h2, _⟩ := h
    simp at e; subst e; exact ⟨v, rfl, h2⟩
  | u :: us, _, i + 1, w, h, e => by
    obtain ⟨v, r, rfl, _, h3⟩ := h
    obtain ⟨x, h4, h5⟩ := RepL.get (i := i) h3 (by simpa using e)
    exact ⟨x, by simpa using h4, h5⟩
theorem RepL.append {K : PySem.W.Frag} {B : Hp} : ∀ {us us' : List U} {vs vs' : List V}, RepL K B us vs → RepL K B us' vs' → RepL K B (us ++ us') (vs ++ vs')
  | [], _, _, _, h, h' => by cases h; exact h'
  | u :: us, _, _, _, h, h' => by
    obtain ⟨v, r, rfl, h2, h3⟩ := h
    exact ⟨v, _, rfl, h2, RepL.append h3 h'⟩
theorem RepL.one {K : PySem.W.Frag} {B : Hp} {u : U} {v : V} (h : Rep K B u v) : RepL K B [u] [v] := ⟨v, [], rfl, h, rfl⟩
theorem RepL.set {K : PySem.W.Frag} {B : Hp} {u : U} {v : V} (q : Rep K B u v) : ∀ {us : List U} {vs : List V} (i : Nat), RepL K B us vs → RepL K B (us.set i u) (vs.set i v)
  | [], _, _, h => by cases h; exact rfl
  | w :: us, _, 0, h => by
    obtain ⟨x, r, rfl, _, h3⟩ := h
    exact ⟨v, r, rfl, q, h3⟩
  | w :: us, _, i + 1, h => by
    obtain ⟨x, r, rfl, h2, h3⟩ := h
    exact ⟨x, _, rfl, h2, RepL.set q i h3⟩
theorem RepL.take {K : PySem.W.Frag} {B : Hp} : ∀ {us : List U} {vs : List V} (n : Nat), RepL K B us vs → RepL K B (us.take n) (vs.take n)
  | _, _, 0, _ => by simp [RepL]
  | [], _, _ + 1, h => by cases h; simp [RepL]
  | w :: us, _, n + 1, h => by
    obtain ⟨x, r, rfl, h2, h3⟩ := h
    exact ⟨x, _, rfl, h2, RepL.take n h3⟩
theorem RepL.drop {K : PySem.W.Frag} {B : Hp} : ∀ {us : List U} {vs : List V} (n : Nat), RepL K B us vs → RepL K B (us.drop n) (vs.drop n)
  | _, _, 0, h => h
  | [], _, _ + 1, h => by cases h; simp [RepL]
  | w :: us, _, n + 1, h => by
    obtain ⟨x, r, rfl, h2, h3⟩ := h
    exact RepL.drop n h3
theorem RepL.reverse {K : PySem.W.Frag} {B : Hp} : ∀ {us : List U} {vs : List V}, RepL K B us vs → RepL K B us.reverse vs.reverse
  | [], _, h => by cases h; exact rfl
  | w :: us, _, h => by
    obtain ⟨x, r, rfl, h2, h3⟩ := h
    rw [List.reverse_cons, List.reverse_cons]
    exact RepL.append (RepL.reverse h3) (RepL.one h2)
theorem RepL.eraseIdx {K : PySem.W.Frag} {B : Hp} : ∀ {us : List U} {vs : List V} (i : Nat), RepL K B us vs → RepL K B (us.eraseIdx i) (vs.eraseIdx i)
  | [], _, _, h => by cases h; exact rfl
  | w :: us, _, 0, h => by
    obtain ⟨x, r, rfl, _, h3⟩ := h
    exact h3
  | w :: us, _, i + 1, h => by
    obtain ⟨x, r, rfl, h2, h3⟩ := h
    exact ⟨x, _, rfl, h2, RepL.eraseIdx i h3⟩
theorem RepL.replicate {K : PySem.W.Frag} {B : Hp} {us : List U} {vs : List V} (h : RepL K B us vs) : ∀ n : Nat, RepL K B (List.replicate n us).flatten (List.replicate n vs).flatten
  | 0 => rfl
  | n + 1 => by
    rw [List.replicate_succ, List.replicate_succ, List.flatten_cons, List.flatten_cons]
    exact RepL.append h (RepL.replicate h n)
structure Fc where
  B0 : Hp
  H0 : Hp
  M : List Addr
  X : List (Addr × HO)
  S : St
  O : List Addr
inductive Fld where
  | v (u : U) | l (us : List U) | d (kvs : List (Key × U)) | ll (uss : List (List U)) | dl (kvs : List (Key × List U)) | dn (kvs : List (KT × U))
inductive Slot where
  | non | val (u : U) | cel (own : Bool) (us : List U) | celD (own : Bool) (kvs : List (Key × U)) | lck (kvs : List (Key × U)) | nam (a : Addr) (u : U)
  | obj (own : Bool) (c : Str) (fs : List (Str × Fld)) | fld (own : Bool) (fl : Fld)
abbrev Env := List Slot
def Slot.isC : Slot → Bool
  | .cel _ _ => true
  | .celD _ _ => true
  | .obj _ _ _ => true
  | .fld _ _ => true
  | _ => false
def Slot.lent : Slot → Bool
  | .cel false _ => true
  | .celD false _ => true
  | .obj false _ _ => true
  | .fld false _ => true
  | _ => false
def LsOk (K : PySem.W.Frag) (B H : Hp) : List (List U) → List V → Prop
  | [], ws => ws = []
  | us :: uss, ws => ∃ q vs r, ws = .ref q :: r ∧ H q = some (.lst vs) ∧ RepL K B us vs ∧ LsOk K B H uss r
def DsOk (K : PySem.W.Frag) (B H : Hp) : List (Key × List U) → List (Key × V) → Prop
  | [], ws => ws = []
  | (k, us) :: uss, ws => ∃ q vs r, ws = (k, .ref q) :: r ∧ H q = some (.lst vs) ∧ RepL K B us vs ∧ DsOk K B H uss r
def FlOk (K : PySem.W.Frag) (B H : Hp) : Fld → V → Prop
  | .v u, x => Rep K B u x
  | .l us, x => ∃ q ws, x = .ref q ∧ H q = some (.lst ws) ∧ RepL K B us ws
  | .d kvs, x => ∃ q ws, x = .ref q ∧ H q = some (.dK ws) ∧ RepD K B kvs ws
  | .ll uss, x => ∃ q ws, x = .ref q ∧ H q = some (.lst ws) ∧ LsOk K B H uss ws
  | .dl kvs, x => ∃ q ws, x = .ref q ∧ H q = some (.dK ws) ∧ DsOk K B H kvs ws
  | .dn kvs, x => ∃ q ws, x = .ref q ∧ ND2 K B H q ws ∧ RepN K B kvs ws
def FsOk (K : PySem.W.Frag) (B H : Hp) : List (Str × Fld) → List (Str × V) → Prop
  | [], ws => ws = []
  | (k, f) :: fs, ws => ∃ x r, ws = (k, x) :: r ∧ FlOk K B H f x ∧ FsOk K B H fs r
def adV : V → List Addr
  | .ref q => [q]
  | _ => []
def lstW : Option HO → List V
  | some (.lst ws) => ws
  | _ => []
def dicW : Option HO → List (Key × V)
  | some (.dK ws) => ws
  | _ => []
def inn1 (H : Hp) : Fld → V → List Addr
  | .v _, _ => []
  | .l _, x => adV x
  | .d _, x => adV x
  | .ll _, x => adV x ++ (adV x).flatMap fun p => (lstW (H p)).flatMap adV
  | .dl _, x => adV x ++ (adV x).flatMap fun p => (dicW (H p)).flatMap fun kv => adV kv.2
  | .dn _, x => adV x
def inn (H : Hp) : List (Str × Fld) → List (Str × V) → List Addr
  | (_, f) :: fs, (_, x) :: ws => inn1 H f x ++ inn H fs ws
  | _, _ => []
def adO : Option V → List Addr
  | some (.ref p) => [p]
  | _ => []
def insW : Option HO → List (Str × V)
  | some (.ins _ _ ws) => ws
  | _ => []
def Slot.ow (H : Hp) (s : Slot) (o : Option V) : List Addr :=
  match s with
  | .cel _ _ => adO o
  | .celD _ _ => adO o
  | .obj _ _ fs => match o with
    | some (.ref p) => p :: inn H fs (insW (H p))
    | _ => []
  | .fld _ fl => match o with
    | some x => inn1 H fl x
    | none => []
  | _ => []
def SlotOk (K : PySem.W.Frag) (F : Fc) (B H : Hp) : Slot → Option V → Prop
  | .non, _ => True
  | .val u, o => ∃ v, o = some v ∧ Rep K B u v
  | .cel own us, o => ∃ p ws, o = some (.ref p) ∧ H p = some (.lst ws) ∧ B p = none ∧ RepL K B us ws ∧ (if own then F.H0 p = none else p ∈ F.M)
  | .celD own kvs, o => ∃ p ws, o = some (.ref p) ∧ H p = some (.dK ws) ∧ B p = none ∧ RepD K B kvs ws ∧ (if own then F.H0 p = none else p ∈ F.M)
  | .lck kvs, o => ∃ d ws q, o = some (.ref d) ∧ B d = some (.frz q (.dK ws)) ∧ RepD K B kvs ws
  | .nam a u, o => o = some (.ref a) ∧ Rep K B u (.ref a)
  | .obj own c fs, o => ∃ p dx ws, o = some (.ref p) ∧ H p = some (.ins (He.ga K c) dx ws) ∧ FsOk K B H fs ws ∧ (p :: inn H fs ws).Nodup ∧ ∀ q ∈ p :: inn H fs ws, B q = none ∧ (if own then F.H0 q = none else (q ∈ F.M ∧ q ∈ F.O) ∨ F.H0 q = none)
  | .fld own fl, o => ∃ x, o = some x ∧ FlOk K B H fl x ∧ (inn1 H fl x).Nodup ∧ ∀ q ∈ inn1 H fl x, B q = none ∧ (if own then F.H0 q = none else (q ∈ F.M ∧ q ∉ F.O) ∨ F.H0 q = none)
structure Rel (K : PySem.W.Frag) (F : Fc) (ρ : Env) (σ : St) (B H : Hp) : Prop where
  len : σ.length = ρ.length
  ex : Ex B H
  sl : ∀ (i : Nat) s, ρ[i]? = some s → SlotOk K F B H s (σ.getD i none)
  ds : ∀ (i j : Nat) s t p, i ≠ j → ρ[i]? = some s → ρ[j]? = some t → p ∈ s.ow H (σ.getD i none) → p ∈ t.ow H (σ.getD j none) → False
  bb : Ex F.B0 B
  hh : ∀ a o, a ∉ F.M → F.H0 a = some o → H a = some o
  th : ∀ a o, F.H0 a = some o → ∃ o', H a = some o'
  nw : ∀ a o, F.B0 a = none → F.H0 a = some o → B a = none
  xx : ∀ a o, (a, o) ∈ F.X → H a = some o ∧ B a = none ∧ F.H0 a = none
  xs : ∀ a o, (a, o) ∈ F.X → ∀ (j : Nat) s, ρ[j]? = some s → a ∉ s.ow H (σ.getD j none)
  xd : (F.X.map (·.1)).Nodup
  ln : ∀ (i : Nat) s, ρ[i]? = some s → s.lent = true → σ.getD i none = F.S.getD i none
structure Go (N : List Addr) (B H B' H' : Hp) : Prop where
  bb : Ex B B'
  bh : Ex B' H'
  hh : ∀ a o, a ∉ N → H a = some o → H' a = some o
  th : ∀ a o, H a = some o → ∃ o', H' a = some o'
  nw : ∀ a o, B a = none → H a = some o → B' a = none
section
variable {K : PySem.W.Frag} {F : Fc} {ρ : Env} {σ : St} {B H B' H' : Hp} {p : Addr} {o : HO} {N : List Addr}
theorem Go.refl (e : Ex B H) : Go N B H B H := ⟨Ex.refl, e, fun _ _ _ h => h, fun _ o h => ⟨o, h⟩, fun _ _ h _ => h⟩
theorem Go.trans {B1 H1 : Hp} (a : Go N B H B1 H1) (b : Go N B1 H1 B' H') : Go N B H B' H' :=
  ⟨a.bb.trans b.bb, b.bh, fun x o n h => b.hh x o n (a.hh x o n h), fun x o h => by obtain ⟨o', h'⟩ := a.th x o h; exact b.th x o' h',
    fun x o n h => by obtain ⟨o', h'⟩ := a.th x o h; exact b.nw x o' (a.nw x o n h) h'⟩
theorem Go.mono {N' : List Addr} (g : Go N B H B' H') (h : ∀ a ∈ N, a ∈ N') : Go N' B H B' H' :=
  ⟨g.bb, g.bh, fun a o n => g.hh a o (fun m => n (h a m)), g.th, g.nw⟩
theorem Go.ex (g : Go [] B H B' H') : Ex H H' := fun a o h => g.hh a o (by simp) h
theorem Go.newB (e : Ex B H) (h : H p = none) : Go [] B H (upd B p o) (upd H p o) := by
  refine ⟨Ex.new (e.none h), fun a u q => ?_, fun a u _ q => Ex.new h a u q, fun a u q => ⟨u, Ex.new h a u q⟩, fun a u n q => ?_⟩
  · by_cases c : a = p
    · subst c; rw [upd_same] at q ⊢; exact q
    · rw [upd_ne c] at q ⊢; exact e a u q
  · rw [upd_ne (ne_of_none q h)]; exact n
theorem Go.newC (e : Ex B H) (h : H p = none) : Go [] B H B (upd H p o) :=
  ⟨Ex.refl, e.trans (Ex.new h), fun a u _ q => Ex.new h a u q, fun a u q => ⟨u, Ex.new h a u q⟩, fun _ _ n _ => n⟩
theorem Go.wr (e : Ex B H) (h : B p = none) : Go [p] B H B (upd H p o) := by
  refine ⟨Ex.refl, fun a u q => ?_, fun a u n q => ?_, fun a u q => ?_, fun _ _ n _ => n⟩
  · rw [upd_ne (ne_of_none q h)]; exact e a u q
  · rw [upd_ne (by simpa using n)]; exact q
  · by_cases c : a = p
    · exact ⟨o, by rw [c, upd_same]⟩
    · exact ⟨u, by rw [upd_ne c]; exact q⟩
theorem ow_cel {own : Bool} {us : List U} {ov : Option V} (e : ov = some (.ref p)) : p ∈ (Slot.cel own us).ow H ov := by subst e; exact List.mem_singleton_self p
theorem ow_celD {own : Bool} {us : List (Key × U)} {ov : Option V} (e : ov = some (.ref p)) : p ∈ (Slot.celD own us).ow H ov := by subst e; exact List.mem_singleton_self p
theorem of_adO {ov : Option V} (h : p ∈ adO ov) : ov = some (.ref p) := by
  unfold adO at h
  split at h
  · rw [List.mem_singleton.mp h]
  · cases h
theorem of_ow_cel {own : Bool} {us : List U} {ov : Option V} (h : p ∈ (Slot.cel own us).ow H ov) : ov = some (.ref p) := of_adO h
theorem of_ow_celD {own : Bool} {us : List (Key × U)} {ov : Option V} (h : p ∈ (Slot.celD own us).ow H ov) : ov = some (.ref p) := of_adO h
theorem ow_no {s : Slot} {ov : Option V} (h : s.isC = false) : s.ow H ov = [] := by cases s <;> first | rfl | cases h
theorem ow_isC {s : Slot} {ov : Option V} (h : p ∈ s.ow H ov) : s.isC = true := by
  cases c : s.isC with
  | true => rfl
  | false => rw [ow_no c] at h; cases h
theorem RepL.tr (t : ∀ u v, Rep K B u v → Rep K B' u v) : ∀ {us : List U} {vs : List V}, RepL K B us vs → RepL K B' us vs
  | [], _, h => h
  | u :: us, _, h => by
    obtain ⟨v, r, rfl, h1, h2⟩ := h
    exact ⟨v, r, rfl, t u v h1, RepL.tr t h2⟩
theorem RepD.tr (t : ∀ u v, Rep K B u v → Rep K B' u v) : ∀ {us : List (Key × U)} {vs : List (Key × V)}, RepD K B us vs → RepD K B' us vs
  | [], _, h => h
  | (k, u) :: us, _, h => by
    obtain ⟨v, r, rfl, h1, h2⟩ := h
    exact ⟨v, r, rfl, t u v h1, RepD.tr t h2⟩
theorem LsOk.tr (t : ∀ u v, Rep K B u v → Rep K B' u v) : ∀ {uss : List (List U)} {ws : List V}, (∀ q ∈ ws.flatMap adV, H' q = H q) → LsOk K B H uss ws → LsOk K B' H' uss ws
  | [], _, _, h => h
  | us :: uss, _, hq, h => by
    obtain ⟨q, vs, r, rfl, h1, h2, h3⟩ := h
    exact ⟨q, vs, r, rfl, by rw [hq q List.mem_cons_self]; exact h1, RepL.tr t h2, LsOk.tr t (fun z hz => hq z (List.mem_cons_of_mem _ hz)) h3⟩
theorem DsOk.tr (t : ∀ u v, Rep K B u v → Rep K B' u v) : ∀ {uss : List (Key × List U)} {ws : List (Key × V)}, (∀ q ∈ ws.flatMap (fun kv => adV kv.2), H' q = H q) → DsOk K B H uss ws → DsOk K B' H' uss ws
  | [], _, _, h => h
  | (k, us) :: uss, _, hq, h => by
    obtain ⟨q, vs, r, rfl, h1, h2, h3⟩ := h
    exact ⟨q, vs, r, rfl, by rw [hq q List.mem_cons_self]; exact h1, RepL.tr t h2, DsOk.tr t (fun z hz => hq z (List.mem_cons_of_mem _ hz)) h3⟩
theorem LsOk.alive : ∀ {uss : List (List U)} {ws : List V}, LsOk K B H uss ws → ∀ q ∈ ws.flatMap adV, ∃ u, H q = some u
  | [], _, h, q, hq => by cases h; cases hq
  | us :: uss, _, h, q, hq => by
    obtain ⟨z, vs, r, rfl, h1, h2, h3⟩ := h
    rcases List.mem_cons.mp (show q ∈ z :: r.flatMap adV from hq) with e | e
    · rw [e]; exact ⟨_, h1⟩
    · exact LsOk.alive h3 q e
theorem DsOk.alive : ∀ {uss : List (Key × List U)} {ws : List (Key × V)}, DsOk K B H uss ws → ∀ q ∈ ws.flatMap (fun kv => adV kv.2), ∃ u, H q = some u
  | [], _, h, q, hq => by cases h; cases hq
  | (k, us) :: uss, _, h, q, hq => by
    obtain ⟨z, vs, r, rfl, h1, h2, h3⟩ := h
    rcases List.mem_cons.mp (show q ∈ z :: r.flatMap (fun kv => adV kv.2) from hq) with e | e
    · rw [e]; exact ⟨_, h1⟩
    · exact DsOk.alive h3 q e
theorem inn1_ll {uss : List (List U)} {p : Addr} {ws : List V} (h : H p = some (.lst ws)) : inn1 H (.ll uss) (.ref p) = p :: ws.flatMap adV := by
  show [p] ++ ([p].flatMap fun p => (lstW (H p)).flatMap adV) = _
  rw [List.flatMap_singleton, h]; rfl
theorem inn1_dl {uss : List (Key × List U)} {p : Addr} {ws : List (Key × V)} (h : H p = some (.dK ws)) : inn1 H (.dl uss) (.ref p) = p :: ws.flatMap (fun kv => adV kv.2) := by
  show [p] ++ ([p].flatMap fun p => (dicW (H p)).flatMap fun kv => adV kv.2) = _
  rw [List.flatMap_singleton, h]; rfl
theorem FlOk.tr (t : ∀ u v, Rep K B u v → Rep K B' u v) {fl : Fld} {x : V} (hq : ∀ q ∈ inn1 H fl x, H' q = H q) (h : FlOk K B H fl x) : FlOk K B' H' fl x ∧ inn1 H' fl x = inn1 H fl x := by
  cases fl with
  | v u => exact ⟨t u x h, rfl⟩
  | l us => obtain ⟨q, ws, rfl, h1, h2⟩ := h; exact ⟨⟨q, ws, rfl, by rw [hq q (List.mem_singleton_self q)]; exact h1, RepL.tr t h2⟩, rfl⟩
  | d us => obtain ⟨q, ws, rfl, h1, h2⟩ := h; exact ⟨⟨q, ws, rfl, by rw [hq q (List.mem_singleton_self q)]; exact h1, RepD.tr t h2⟩, rfl⟩
  | ll uss =>
    obtain ⟨q, ws, rfl, h1, h2⟩ := h
    rw [inn1_ll h1] at hq ⊢
    have h1' : H' q = some (.lst ws) := by rw [hq q List.mem_cons_self]; exact h1
    exact ⟨⟨q, ws, rfl, h1', h2.tr t fun z hz => hq z (List.mem_cons_of_mem _ hz)⟩, inn1_ll h1'⟩
  | dl uss =>
    obtain ⟨q, ws, rfl, h1, h2⟩ := h
    rw [inn1_dl h1] at hq ⊢
    have h1' : H' q = some (.dK ws) := by rw [hq q List.mem_cons_self]; exact h1
    exact ⟨⟨q, ws, rfl, h1', h2.tr t fun z hz => hq z (List.mem_cons_of_mem _ hz)⟩, inn1_dl h1'⟩
  | dn us => obtain ⟨q, ws, rfl, h1, h2⟩ := h; exact ⟨⟨q, ws, rfl, (h1.at (hq q (List.mem_singleton_self q))).tr t, RepN.tr t h2⟩, rfl⟩
theorem FlOk.move (xb : Ex B B') {fl : Fld} {x : V} (hq : ∀ q ∈ inn1 H fl x, H' q = H q) (h : FlOk K B H fl x) : FlOk K B' H' fl x ∧ inn1 H' fl x = inn1 H fl x := h.tr (fun u v => Rep.mono xb u v) hq
theorem FlOk.alive {fl : Fld} {x : V} (h : FlOk K B H fl x) : ∀ q ∈ inn1 H fl x, ∃ u, H q = some u := fun q hq => by
  cases fl with
  | v u => cases hq
  | l us => obtain ⟨z, ws, rfl, h1, h2⟩ := h; rw [List.mem_singleton.mp (show q ∈ [z] from hq)]; exact ⟨_, h1⟩
  | d us => obtain ⟨z, ws, rfl, h1, h2⟩ := h; rw [List.mem_singleton.mp (show q ∈ [z] from hq)]; exact ⟨_, h1⟩
  | ll uss =>
    obtain ⟨z, ws, rfl, h1, h2⟩ := h
    rw [inn1_ll h1] at hq
    rcases List.mem_cons.mp hq with e | e
    · rw [e]; exact ⟨_, h1⟩
    · exact h2.alive q e
  | dl uss =>
    obtain ⟨z, ws, rfl, h1, h2⟩ := h
    rw [inn1_dl h1] at hq
    rcases List.mem_cons.mp hq with e | e
    · rw [e]; exact ⟨_, h1⟩
    · exact h2.alive q e
  | dn us => obtain ⟨z, ws, rfl, h1, h2⟩ := h; rw [List.mem_singleton.mp (show q ∈ [z] from hq)]; obtain ⟨es, ep, e⟩ := h1.some; exact ⟨_, e⟩
theorem FsOk.tr (t : ∀ u v, Rep K B u v → Rep K B' u v) : ∀ {fs : List (Str × Fld)} {ws : List (Str × V)}, (∀ q ∈ inn H fs ws, H' q = H q) → FsOk K B H fs ws → FsOk K B' H' fs ws ∧ inn H' fs ws = inn H fs ws
  | [], _, _, h => ⟨h, rfl⟩
  | (k, f) :: fs, _, hq, h => by
    obtain ⟨x, r, rfl, h1, h2⟩ := h
    obtain ⟨a1, a2⟩ := h1.tr t fun q hm => hq q (List.mem_append_left _ hm)
    obtain ⟨b1, b2⟩ := FsOk.tr t (fun q hm => hq q (List.mem_append_right _ hm)) h2
    exact ⟨⟨x, r, rfl, a1, b1⟩, by show inn1 H' f x ++ inn H' fs r = inn1 H f x ++ inn H fs r; rw [a2, b2]⟩
theorem FsOk.move (xb : Ex B B') {fs : List (Str × Fld)} {ws : List (Str × V)} (h : ∀ q ∈ inn H fs ws, H' q = H q) (r : FsOk K B H fs ws) : FsOk K B' H' fs ws ∧ inn H' fs ws = inn H fs ws := r.tr (fun u v => Rep.mono xb u v) h
theorem FsOk.alive : ∀ {fs : List (Str × Fld)} {ws : List (Str × V)}, FsOk K B H fs ws → ∀ q ∈ inn H fs ws, ∃ u, H q = some u
  | [], _, h, q, hq => by cases h; cases hq
  | (k, f) :: fs, _, h, q, hq => by
    obtain ⟨x, r, rfl, h1, h2⟩ := h
    rcases List.mem_append.mp (show q ∈ inn1 H f x ++ inn H fs r from hq) with e | e
    · exact h1.alive q e
    · exact FsOk.alive h2 q e
theorem SlotOk.owned {s : Slot} {ov : Option V} (h : SlotOk K F B H s ov) (hp : p ∈ s.ow H ov) : (∃ u, H p = some u) ∧ B p = none ∧ (F.H0 p = none ∨ p ∈ F.M) := by
  cases s with
  | cel own us =>
    obtain ⟨p', ws, e, h1, h2, h3, h4⟩ := h
    rw [of_ow_cel hp] at e; cases e
    cases own with
    | true => exact ⟨⟨_, h1⟩, h2, .inl h4⟩
    | false => exact ⟨⟨_, h1⟩, h2, .inr h4⟩
  | celD own us =>
    obtain ⟨p', ws, e, h1, h2, h3, h4⟩ := h
    rw [of_ow_celD hp] at e; cases e
    cases own with
    | true => exact ⟨⟨_, h1⟩, h2, .inl h4⟩
    | false => exact ⟨⟨_, h1⟩, h2, .inr h4⟩
  | obj own c fs =>
    obtain ⟨a, dx, ws, rfl, h1, h2, h3, h4⟩ := h
    have hp' : p ∈ a :: inn H fs ws := by
      have : p ∈ a :: inn H fs (insW (H a)) := hp
      rw [h1] at this; exact this
    obtain ⟨q1, q2⟩ := h4 p hp'
    refine ⟨?_, q1, ?_⟩
    · rcases List.mem_cons.mp hp' with e | e
      · rw [e]; exact ⟨_, h1⟩
      · exact h2.alive p e
    · cases own with
      | true => exact .inl q2
      | false => exact (Or.symm q2).imp id And.left
  | fld own fl =>
    obtain ⟨x, rfl, h2, h3, h4⟩ := h
    obtain ⟨q1, q2⟩ := h4 p hp
    refine ⟨h2.alive p hp, q1, ?_⟩
    cases own with
    | true => exact .inl q2
    | false => exact (Or.symm q2).imp id And.left
  | non => cases hp
  | val u => cases hp
  | lck u => cases hp
  | nam a u => cases hp
theorem SlotOk.move {s : Slot} {ov : Option V} (h : SlotOk K F B H s ov) (xb : Ex B B') (hm : ∀ q ∈ s.ow H ov, H' q = H q ∧ B' q = none) : SlotOk K F B' H' s ov ∧ s.ow H' ov = s.ow H ov := by
  cases s with
  | non => exact ⟨trivial, rfl⟩
  | val u => obtain ⟨v, e, r⟩ := h; exact ⟨⟨v, e, Rep.mono xb u v r⟩, rfl⟩
  | cel own us =>
    obtain ⟨p, ws, e, h1, h2, h3, h4⟩ := h
    obtain ⟨m1, m2⟩ := hm p (ow_cel e)
    exact ⟨⟨p, ws, e, by rw [m1]; exact h1, m2, RepL.mono xb us ws h3, h4⟩, rfl⟩
  | celD own us =>
    obtain ⟨p, ws, e, h1, h2, h3, h4⟩ := h
    obtain ⟨m1, m2⟩ := hm p (ow_celD e)
    exact ⟨⟨p, ws, e, by rw [m1]; exact h1, m2, RepD.mono xb us ws h3, h4⟩, rfl⟩
  | lck us => obtain ⟨d, ws, q, e, h1, h2⟩ := h; exact ⟨⟨d, ws, q, e, xb _ _ h1, RepD.mono xb us ws h2⟩, rfl⟩
  | nam a u => exact ⟨⟨h.1, Rep.mono xb u _ h.2⟩, rfl⟩
  | obj own c fs =>
    obtain ⟨a, dx, ws, rfl, h1, h2, h3, h4⟩ := h
    have hm' : ∀ q ∈ a :: inn H fs ws, H' q = H q ∧ B' q = none := fun q hq => hm q (by show q ∈ a :: inn H fs (insW (H a)); rw [h1]; exact hq)
    have ha := (hm' a List.mem_cons_self).1
    obtain ⟨f1, f2⟩ := h2.move (H' := H') xb fun q hq => (hm' q (List.mem_cons_of_mem _ hq)).1
    exact ⟨⟨a, dx, ws, rfl, by rw [ha]; exact h1, f1, by rw [f2]; exact h3, by rw [f2]; exact fun q hq => ⟨(hm' q hq).2, (h4 q hq).2⟩⟩, by show a :: inn H' fs (insW (H' a)) = a :: inn H fs (insW (H a)); rw [ha, h1]; show a :: inn H' fs ws = a :: inn H fs ws; rw [f2]⟩
  | fld own fl =>
    obtain ⟨x, rfl, h2, h3, h4⟩ := h
    obtain ⟨f1, f2⟩ := h2.move (H' := H') xb fun q hq => (hm q hq).1
    exact ⟨⟨x, rfl, f1, by rw [f2]; exact h3, by rw [f2]; exact fun q hq => ⟨(hm q hq).2, (h4 q hq).2⟩⟩, f2⟩
theorem getD_set {σ : St} {i j : Nat} {x : Option V} (hi : i < σ.length) : (σ.set i x).getD j none = if j = i then x else σ.getD j none := by
  rw [List.getD_eq_getElem?_getD, List.getD_eq_getElem?_getD, List.getElem?_set]
  by_cases c : i = j
  · subst c; simp [hi]
  · rw [if_neg c, if_neg (Ne.symm c)]
theorem getD_set_ne {σ : St} {i j : Nat} {x : Option V} (h : j ≠ i) : (σ.set i x).getD j none = σ.getD j none := by
  rw [List.getD_eq_getElem?_getD, List.getD_eq_getElem?_getD, List.getElem?_set_ne (Ne.symm h)]
theorem getElem_set {ρ : Env} {i j : Nat} {x s : Slot} (h : (ρ.set i x)[j]? = some s) : (j = i ∧ s = x) ∨ (j ≠ i ∧ ρ[j]? = some s) := by
  rw [List.getElem?_set] at h
  by_cases c : i = j
  · subst c
    rw [if_pos rfl] at h
    by_cases l : i < ρ.length
    · rw [if_pos l] at h; exact .inl ⟨rfl, (Option.some.inj h).symm⟩
    · rw [if_neg l] at h; cases h
  · rw [if_neg c] at h; exact .inr ⟨Ne.symm c, h⟩
theorem Rel.owned (R : Rel K F ρ σ B H) {j : Nat} {s : Slot} (e : ρ[j]? = some s) (h : p ∈ s.ow H (σ.getD j none)) : (∃ u, H p = some u) ∧ B p = none ∧ (F.H0 p = none ∨ p ∈ F.M) := (R.sl j s e).owned h
theorem Rel.move (R : Rel K F ρ σ B H) (xb : Ex B B') (x : Ex B' H') (h : ∀ (j : Nat) s q, ρ[j]? = some s → q ∈ s.ow H (σ.getD j none) → H' q = H q ∧ B' q = none)
    (hh : ∀ a o, a ∉ F.M → F.H0 a = some o → H' a = some o) (th : ∀ a o, F.H0 a = some o → ∃ o', H' a = some o') (nw : ∀ a o, F.B0 a = none → F.H0 a = some o → B' a = none) (xx : ∀ a o, (a, o) ∈ F.X → H' a = some o ∧ B' a = none ∧ F.H0 a = none) : Rel K F ρ σ B' H' := by
  have hs : ∀ (j : Nat) s, ρ[j]? = some s → SlotOk K F B' H' s (σ.getD j none) ∧ s.ow H' (σ.getD j none) = s.ow H (σ.getD j none) := fun j s e => (R.sl j s e).move xb fun q hq => h j s q e hq
  refine ⟨R.len, x, fun i s e => (hs i s e).1, fun i j s t q ne e1 e2 h1 h2 => ?_, R.bb.trans xb, hh, th, nw, xx, fun a o ho j s e hm => ?_, R.xd, R.ln⟩
  · rw [(hs i s e1).2] at h1; rw [(hs j t e2).2] at h2
    exact R.ds i j s t q ne e1 e2 h1 h2
  · rw [(hs j s e).2] at hm; exact R.xs a o ho j s e hm
theorem Rel.grow (R : Rel K F ρ σ B H) (g : Go [] B H B' H') : Rel K F ρ σ B' H' :=
  R.move g.bb g.bh (fun j s q e hq => by
    obtain ⟨⟨u, hu⟩, hb, _⟩ := R.owned e hq
    exact ⟨by rw [hu]; exact g.ex _ _ hu, g.nw _ _ hb hu⟩) (fun a o n h => g.ex _ _ (R.hh a o n h)) (fun a o h => by obtain ⟨o', h'⟩ := R.th a o h; exact g.th a o' h')
    (fun a o n h => by obtain ⟨o', h'⟩ := R.th a o h; exact g.nw a o' (R.nw a o n h) h') (fun a o h => by obtain ⟨h1, h2, h3⟩ := R.xx a o h; exact ⟨g.ex _ _ h1, g.nw _ _ h2 h1, h3⟩)
theorem Rel.setG {i : Nat} {s' : Slot} {σ' : St} (R : Rel K F ρ σ B H) (hl : σ'.length = σ.length) (he : ∀ j, j ≠ i → σ'.getD j none = σ.getD j none) (ok : i < σ.length → SlotOk K F B H s' (σ'.getD i none))
    (h5 : i < σ.length → ∀ (j : Nat) s q, j ≠ i → ρ[j]? = some s → q ∈ s.ow H (σ.getD j none) → q ∈ s'.ow H (σ'.getD i none) → False) (h6 : i < σ.length → ∀ q o, q ∈ s'.ow H (σ'.getD i none) → (q, o) ∉ F.X)
    (hL : s'.lent = true → σ'.getD i none = F.S.getD i none := by exact fun z => nomatch z) : Rel K F (ρ.set i s') σ' B H := by
  have gi : ∀ {s}, (ρ.set i s')[i]? = some s → i < σ.length := fun e => by
    have := (List.getElem?_eq_some_iff.mp e).1
    rw [List.length_set] at this; rw [R.len]; exact this
  refine ⟨by rw [hl, List.length_set]; exact R.len, R.ex, fun j s e => ?_, fun j l s t q ne e1 e2 h1 h2 => ?_, R.bb, R.hh, R.th, R.nw, R.xx, fun a o h j s e hm => ?_, R.xd, fun j s e l => ?_⟩
  rotate_left 3
  · rcases getElem_set e with ⟨rfl, rfl⟩ | ⟨ne, e'⟩
    · exact hL l
    · rw [he j ne]; exact R.ln j s e' l
  · rcases getElem_set e with ⟨rfl, rfl⟩ | ⟨ne, e'⟩
    · exact ok (gi e)
    · rw [he j ne]; exact R.sl j s e'
  · rcases getElem_set e1 with ⟨rfl, rfl⟩ | ⟨n1, f1⟩
    · rcases getElem_set e2 with ⟨rfl, rfl⟩ | ⟨n2, f2⟩
      · exact ne rfl
      · rw [he l n2] at h2; exact h5 (gi e1) l t q n2 f2 h2 h1
    · rcases getElem_set e2 with ⟨rfl, rfl⟩ | ⟨n2, f2⟩
      · rw [he j n1] at h1; exact h5 (gi e2) j s q n1 f1 h1 h2
      · rw [he j n1] at h1; rw [he l n2] at h2; exact R.ds j l s t q ne f1 f2 h1 h2
  · rcases getElem_set e with ⟨rfl, rfl⟩ | ⟨ne, e'⟩
    · exact h6 (gi e) a o hm h
    · rw [he j ne] at hm; exact R.xs a o h j s e' hm
theorem Rel.setV {i : Nat} {u : U} {v : V} (R : Rel K F ρ σ B H) (r : Rep K B u v) : Rel K F (ρ.set i (.val u)) (σ.set i (some v)) B H :=
  R.setG (by simp) (fun j ne => getD_set_ne ne) (fun hi => ⟨v, by rw [getD_set hi, if_pos rfl], r⟩) (fun _ _ _ _ _ _ _ h => nomatch h) fun _ _ _ h => nomatch h
theorem Rel.kill {i : Nat} (R : Rel K F ρ σ B H) : Rel K F (ρ.set i .non) σ B H :=
  R.setG rfl (fun _ _ => rfl) (fun _ => trivial) (fun _ _ _ _ _ _ _ h => nomatch h) fun _ _ _ h => nomatch h
theorem Rel.killσ {i : Nat} {x : Option V} (R : Rel K F ρ σ B H) : Rel K F (ρ.set i .non) (σ.set i x) B H :=
  R.setG (by simp) (fun j ne => getD_set_ne ne) (fun _ => trivial) (fun _ _ _ _ _ _ _ h => nomatch h) fun _ _ _ h => nomatch h
theorem Rel.lt (R : Rel K F ρ σ B H) {i : Nat} {s : Slot} (h : ρ[i]? = some s) : i < σ.length := by rw [R.len]; exact (List.getElem?_eq_some_iff.mp h).1
theorem Rel.setC {i : Nat} {us : List U} {ws : List V} (R : Rel K F ρ σ B H) (h1 : H p = some (.lst ws)) (h2 : B p = none) (h3 : RepL K B us ws) (h4 : F.H0 p = none)
    (h5 : ∀ (j : Nat) s, ρ[j]? = some s → p ∉ s.ow H (σ.getD j none)) (h6 : ∀ o, (p, o) ∉ F.X) : Rel K F (ρ.set i (.cel true us)) (σ.set i (some (.ref p))) B H :=
  R.setG (by simp) (fun j ne => getD_set_ne ne) (fun hi => ⟨p, ws, by rw [getD_set hi, if_pos rfl], h1, h2, h3, h4⟩) (fun hi j s q ne e hq hq2 => by
    rw [getD_set hi, if_pos rfl] at hq2
    have : q = p := List.mem_singleton.mp hq2
    subst this; exact h5 j s e hq) fun hi q o hq => by
    rw [getD_set hi, if_pos rfl] at hq
    have : q = p := List.mem_singleton.mp hq
    subst this; exact h6 o
theorem Rel.chg {i : Nat} {s : Slot} (R : Rel K F ρ σ B H) (hi : ρ[i]? = some s) (xb : Ex B B') (x : Ex B' H') (hn : ∀ a o, a ∉ s.ow H (σ.getD i none) → H a = some o → H' a = some o ∧ (B a = none → B' a = none))
    (ht : ∀ a ∈ s.ow H (σ.getD i none), ∃ o', H' a = some o') (hM : ∀ a o, a ∈ s.ow H (σ.getD i none) → F.H0 a = some o → B' a = none) : Rel K F (ρ.set i .non) σ B' H' := by
  refine R.kill.move xb x (fun j t q e hq => ?_) (fun a o n h => ?_) (fun a o h => ?_) (fun a o n h => ?_) (fun a o h => ?_)
  · rcases getElem_set e with ⟨rfl, rfl⟩ | ⟨ne, e⟩
    · cases hq
    · obtain ⟨⟨u, hu⟩, hb, _⟩ := R.owned e hq
      have nq : q ∉ s.ow H (σ.getD i none) := fun z => R.ds j i t s q ne e hi hq z
      obtain ⟨z1, z2⟩ := hn q u nq hu
      exact ⟨by rw [hu]; exact z1, z2 hb⟩
  · refine (hn a o (fun z => ?_) (R.hh a o n h)).1
    rcases (R.owned hi z).2.2 with y | y
    · rw [y] at h; cases h
    · exact n y
  · obtain ⟨o', h'⟩ := R.th a o h
    by_cases z : a ∈ s.ow H (σ.getD i none)
    · exact ht a z
    · exact ⟨o', (hn a o' z h').1⟩
  · obtain ⟨o', h'⟩ := R.th a o h
    by_cases z : a ∈ s.ow H (σ.getD i none)
    · exact hM a o z h
    · exact (hn a o' z h').2 (R.nw a o n h)
  · obtain ⟨z1, z2, z3⟩ := R.xx a o h
    obtain ⟨y1, y2⟩ := hn a o (R.xs a o h i s hi) z1
    exact ⟨y1, y2 z2, z3⟩
theorem Rel.wr1 {i : Nat} {s : Slot} {o' : HO} (R : Rel K F ρ σ B H) (hi : ρ[i]? = some s) (hp : p ∈ s.ow H (σ.getD i none)) : Rel K F (ρ.set i .non) σ B (upd H p o') := by
  have hb := (R.owned hi hp).2.1
  have g := Go.wr (o := o') R.ex hb
  refine R.chg hi Ex.refl g.bh (fun a u n h => ⟨by rw [upd_ne fun z => n (by rw [z]; exact hp)]; exact h, fun z => z⟩) (fun a ha => ?_) fun a _ ha _ => (R.owned hi ha).2.1
  obtain ⟨⟨u, hu⟩, _⟩ := R.owned hi ha
  exact g.th a u hu
theorem Rel.back {i : Nat} {s' : Slot} (R : Rel K F (ρ.set i .non) σ B H) (ok : SlotOk K F B H s' (σ.getD i none)) (h5 : ∀ (j : Nat) s q, j ≠ i → ρ[j]? = some s → q ∈ s.ow H (σ.getD j none) → q ∈ s'.ow H (σ.getD i none) → False) (h6 : ∀ q o, q ∈ s'.ow H (σ.getD i none) → (q, o) ∉ F.X)
    (hL : s'.lent = true → σ.getD i none = F.S.getD i none := by exact fun z => nomatch z) : Rel K F (ρ.set i s') σ B H := by
  have := R.setG (i := i) (s' := s') (σ' := σ) rfl (fun _ _ => rfl) (fun _ => ok) (fun _ j s q ne e => h5 j s q ne (by rw [List.getElem?_set_ne (Ne.symm ne)] at e; exact e)) (fun _ => h6) hL
  rw [List.set_set] at this
  exact this
theorem Rel.reslot {i : Nat} {s s' : Slot} {o' : HO} (R : Rel K F ρ σ B H) (hi : ρ[i]? = some s) (hp : p ∈ s.ow H (σ.getD i none)) (ok : SlotOk K F B (upd H p o') s' (σ.getD i none))
    (low : ∀ q ∈ s'.ow (upd H p o') (σ.getD i none), q ∈ s.ow H (σ.getD i none) ∨ ((∀ (j : Nat) t, ρ[j]? = some t → q ∉ t.ow H (σ.getD j none)) ∧ ∀ o, (q, o) ∉ F.X)) (hL : s'.lent = true → s.lent = true) : Rel K F (ρ.set i s') σ B (upd H p o') := by
  have g := R.wr1 (o' := o') hi hp
  refine g.back ok (fun j t y ne es hy hy2 => ?_) (fun y o hy ho => ?_) (fun l => R.ln i _ hi (hL l))
  · have hs := (R.sl j t es).move (B' := B) (H' := upd H p o') Ex.refl fun z hz => ⟨by rw [upd_ne fun w => R.ds j i t _ p ne es hi (by rw [← w]; exact hz) hp], (R.owned es hz).2.1⟩
    rw [hs.2] at hy
    rcases low y hy2 with w | w
    · exact R.ds j i t _ y ne es hi hy w
    · exact w.1 j t es hy
  · rcases low y hy with w | w
    · exact R.xs y o ho i _ hi w
    · exact w.2 o ho
theorem Rel.wrC {i : Nat} {own : Bool} {us us' : List U} {ws ws' : List V} (R : Rel K F ρ σ B H) (hi : ρ[i]? = some (.cel own us)) (e : σ.getD i none = some (.ref p)) (h1 : H p = some (.lst ws)) (h2 : B p = none) (h3 : RepL K B us' ws') :
    Rel K F (ρ.set i (.cel own us')) σ B (upd H p (.lst ws')) := by
  have pm0 : (if own then F.H0 p = none else p ∈ F.M) := by
    obtain ⟨p', _, e', _, _, _, h⟩ := R.sl i _ hi
    rw [e] at e'; cases e'; exact h
  have hp : p ∈ (Slot.cel own us).ow H (σ.getD i none) := ow_cel e
  have g := R.wr1 (o' := .lst ws') hi hp
  refine g.back ⟨p, ws', e, upd_same, h2, h3, pm0⟩ (fun j s q ne es hq hq2 => ?_) (fun q o hq ho => ?_) (fun l => R.ln i _ hi (by cases own <;> exact l))
  · have ez := of_ow_cel hq2
    rw [e] at ez; cases ez
    have hs := (R.sl j s es).move (B' := B) (H' := upd H p (.lst ws')) Ex.refl fun z hz => ⟨by rw [upd_ne fun y => R.ds j i s _ p ne es hi (by rw [← y]; exact hz) hp], (R.owned es hz).2.1⟩
    rw [hs.2] at hq
    exact R.ds j i s _ p ne es hi hq hp
  · have ez := of_ow_cel hq
    rw [e] at ez; cases ez
    exact R.xs p o ho i _ hi hp
theorem Rel.freeze {i : Nat} {us : List U} (R : Rel K F ρ σ B H) (hi : ρ[i]? = some (.cel true us)) : ∃ p ws, σ.getD i none = some (.ref p) ∧ H p = some (.lst ws) ∧ RepL K B us ws ∧ B p = none ∧
    Rel K F (ρ.set i (.val (.lst us))) σ (upd B p (.lst ws)) H ∧ Ex B (upd B p (.lst ws)) ∧ Rep K (upd B p (.lst ws)) (.lst us) (.ref p) := by
  obtain ⟨p, ws, e, h1, h2, h3, pm⟩ := R.sl i _ hi
  have xb : Ex B (upd B p (.lst ws)) := Ex.new h2
  have rp : Rep K (upd B p (.lst ws)) (.lst us) (.ref p) := ⟨p, ws, rfl, upd_same, RepL.mono xb _ _ h3⟩
  have hp : p ∈ (Slot.cel true us).ow H (σ.getD i none) := ow_cel e
  have g := R.chg (B' := upd B p (.lst ws)) (H' := H) hi xb (fun a o q => by
    by_cases c : a = p
    · subst c; rw [upd_same] at q; cases q; exact h1
    · rw [upd_ne c] at q; exact R.ex a o q) (fun a o n h => ⟨h, fun z => by rw [upd_ne fun y => n (by rw [y]; exact hp)]; exact z⟩) (fun a ha => (R.owned hi ha).1) fun a o ha hm => by
      have ez := of_ow_cel ha
      rw [e] at ez; cases ez
      have z : F.H0 p = none := pm
      rw [z] at hm; cases hm
  exact ⟨p, ws, e, h1, h3, h2, g.back ⟨_, e, rp⟩ (fun _ _ _ _ _ _ h => nomatch h) (fun _ _ h => nomatch h), xb, rp⟩
theorem Rel.know {q : Addr} (R : Rel K F ρ σ B H) (h1 : H q = some o) (h2 : B q = none) (h3 : F.H0 q = none) (h4 : ∀ (j : Nat) s, ρ[j]? = some s → q ∉ s.ow H (σ.getD j none)) (h5 : ∀ u, (q, u) ∉ F.X) :
    Rel K F ρ σ (upd B q o) H := by
  have xb : Ex B (upd B q o) := Ex.new h2
  refine R.move xb (fun b u e => ?_) (fun j s z e hz => ⟨rfl, ?_⟩) R.hh R.th (fun b u n e => ?_) fun b u e => ?_
  · by_cases c : b = q
    · subst c; rw [upd_same] at e; cases e; exact h1
    · rw [upd_ne c] at e; exact R.ex b u e
  · rw [upd_ne fun c => h4 j s e (by rw [← c]; exact hz)]; exact (R.owned e hz).2.1
  · have np : b ≠ q := fun c => by rw [c, h3] at e; cases e
    rw [upd_ne np]; exact R.nw b u n e
  · obtain ⟨z1, z2, z3⟩ := R.xx b u e
    have np : b ≠ q := fun c => by rw [c] at e; exact h5 u e
    exact ⟨z1, by rw [upd_ne np]; exact z2, z3⟩
theorem Rel.notC {q : Addr} (R : Rel K F ρ σ B H) (h : H q = none) (j : Nat) (s : Slot) (e : ρ[j]? = some s) : q ∉ s.ow H (σ.getD j none) := fun z => by
  obtain ⟨⟨u, hu⟩, _⟩ := R.owned e z
  rw [h] at hu; cases hu
theorem Rel.ow_eq (R : Rel K F ρ σ B H) (g : Go [] B H B' H') {j : Nat} {s : Slot} (e : ρ[j]? = some s) : s.ow H' (σ.getD j none) = s.ow H (σ.getD j none) :=
  ((R.sl j s e).move g.bb fun z hz => by
    obtain ⟨⟨u, hu⟩, hb, _⟩ := R.owned e hz
    exact ⟨by rw [hu]; exact g.ex _ _ hu, g.nw _ _ hb hu⟩).2
theorem Rel.plain {ρ' : Env} {S : St} {O : List Addr} (hl : σ.length = ρ'.length) (x : Ex B H) (h : ∀ (j : Nat) s, ρ'[j]? = some s → s.isC = false ∧ SlotOk K ⟨B, H, [], [], S, O⟩ B H s (σ.getD j none)) : Rel K ⟨B, H, [], [], S, O⟩ ρ' σ B H :=
  ⟨hl, x, fun j s e => (h j s e).2, fun j l s t p ne e1 e2 h1 h2 => (by rw [ow_no (h j s e1).1] at h1; cases h1), Ex.refl, fun _ _ _ h => h, fun _ o h => ⟨o, h⟩, fun _ _ h _ => h, fun _ _ h => by simp at h, fun _ _ h => by simp at h, by simp, fun j s e l => (by
    have := (h j s e).1
    cases s <;> first | (cases l; done) | (cases this; done))⟩
end
end Sg
set_option Elab.async false
set_option linter.all false
set_option maxRecDepth 100000
set_option maxHeartbeats 4000000
namespace Sg
open PySem L2
structure Exn where
  c : Str
  arg : Option (Str × U) := none
inductive EO where
  | ok (u : U) (ρ : Env)
  | ex (e : Exn) (ρ : Env)
def XRelC (K : PySem.W.Frag) (H0 : Hp) (e : Exn) (cls : Value) (d : Option Addr) (H : Hp) : Prop :=
  cls = .ref (He.ga K e.c) ∧ match e.arg with
  | none => d = none
  | some (f, u) => ∃ dd z, d = some dd ∧ scV u = some z ∧ H dd = some (.xd [(f, z)]) ∧ H0 dd = none
def XRel (K : PySem.W.Frag) (F : Fc) (e : Exn) (cls : Value) (d : Option Addr) (H : Hp) : Prop := XRelC K F.H0 e cls d H ∧ ∀ dd, d = some dd → ∀ o, (dd, o) ∉ F.X
theorem XRel.up {K : PySem.W.Frag} {F : Fc} {ρ : Env} {σ : St} {B H H' : Hp} {e : Exn} {cls : Value} {d : Option Addr} (R : Rel K F ρ σ B H) (x : XRelC K H e cls d H') : XRel K F e cls d H' := by
  obtain ⟨h1, h2⟩ := x
  cases q : e.arg with
  | none =>
    rw [q] at h2
    exact ⟨⟨h1, by rw [q]; exact h2⟩, fun dd e1 => by rw [h2] at e1; cases e1⟩
  | some p =>
    rw [q] at h2
    obtain ⟨dd, z, h3, h4, h5, h6⟩ := h2
    have h7 : F.H0 dd = none := by
      cases g : F.H0 dd with
      | none => rfl
      | some o =>
        obtain ⟨o', h'⟩ := R.th dd o g
        rw [h6] at h'; cases h'
    refine ⟨⟨h1, by rw [q]; exact ⟨dd, z, h3, h4, h5, h7⟩⟩, fun d2 e1 o ho => ?_⟩
    · rw [h3] at e1
      cases e1
      have z1 := (R.xx _ _ ho).1
      rw [h6] at z1; cases z1
theorem XRel.down {K : PySem.W.Frag} {F : Fc} {e : Exn} {cls : Value} {d : Option Addr} {H' : Hp} (x : XRel K F e cls d H') : XRelC K F.H0 e cls d H' := x.1
theorem XRel.sub {K : PySem.W.Frag} {F F' : Fc} {e : Exn} {cls : Value} {d : Option Addr} {H' : Hp} (h0 : F'.H0 = F.H0) (hX : ∀ y ∈ F'.X, y ∈ F.X) (x : XRel K F e cls d H') : XRel K F' e cls d H' := ⟨by rw [h0]; exact x.1, fun dd e1 o ho => x.2 dd e1 o (hX _ ho)⟩
def Fin (K : PySem.W.Frag) (F : Fc) (W : WX) (p k : Bool) (ρ : Env) (σ : St) (B H : Hp) (Q : VK) : EO → Prop
  | .ok u ρ' => ∀ v B' H', Ex B B' → (p = true → Ex H H' ∧ ρ' = ρ) → Rel K F ρ' σ B' H' → Rep K (if k then B' else H') u v → Q v H'
  | .ex e ρ' => ∀ cls d B' H', Ex B B' → Rel K F ρ' σ B' H' → XRel K F e cls d H' → W cls d σ H'
structure ME (K : PySem.W.Frag) where
  t : WX → TE
  m : Env → Option EO
  p : Bool
  k : Bool
  ok : ∀ (F : Fc) (W : WX) (ρ : Env) (σ : St) (B H : Hp) (Q : VK) (o : EO), m ρ = some o → Rel K F ρ σ B H → Fin K F W p k ρ σ B H Q o → t W σ H Q
def bindE (a : Option EO) (f : U → Env → Option EO) : Option EO :=
  match a with
  | none => none
  | some (.ex e ρ) => some (.ex e ρ)
  | some (.ok u ρ) => f u ρ
theorem bindE_ok {u : U} {ρ : Env} {f : U → Env → Option EO} : bindE (some (.ok u ρ)) f = f u ρ := rfl
theorem bindE_ex {e : Exn} {ρ : Env} {f : U → Env → Option EO} : bindE (some (.ex e ρ)) f = some (.ex e ρ) := rfl
theorem bindE_some {a : Option EO} {f : U → Env → Option EO} {o : EO} (h : bindE a f = some o) : (∃ u ρ', a = some (.ok u ρ') ∧ f u ρ' = some o) ∨ ∃ e ρ', a = some (.ex e ρ') ∧ o = .ex e ρ' := by
  cases a with
  | none => cases h
  | some x =>
    cases x with
    | ok u ρ => exact .inl ⟨u, ρ, rfl, h⟩
    | ex e ρ => exact .inr ⟨e, ρ, rfl, (Option.some.inj h).symm⟩
section
variable {K : PySem.W.Frag} {F : Fc} {W : WX} {ρ ρ' : Env} {σ : St} {B H : Hp} {Q : VK}
theorem rep_up {k : Bool} {B' H' : Hp} {u : U} {v : V} (R : Rel K F ρ σ B' H') (r : Rep K (if k = true then B' else H') u v) : Rep K H' u v := by
  cases k with
  | true => exact Rep.mono R.ex u v r
  | false => exact r
end
variable {K : PySem.W.Frag}
def mC (u : U) (z : V) (h : scV u = some z := by exact id rfl) : ME K where
  t := fun _ => tC z
  m := fun ρ => some (.ok u ρ)
  p := true
  k := true
  ok := fun F W ρ σ B H Q o e R f => by
    cases e
    exact f z B H Ex.refl (fun _ => ⟨Ex.refl, rfl⟩) R (rep_sc h)
def mVar (i : Nat) : ME K where
  t := fun _ => tVar i
  m := fun ρ => match ρ[i]? with
    | some (.val u) => some (.ok u ρ)
    | some (.lck kvs) => some (.ok (.dic kvs) ρ)
    | some (.nam _ u) => some (.ok u ρ)
    | _ => none
  p := true
  k := true
  ok := fun F W ρ σ B H Q o e R f => by
    split at e
    · rename_i u hu
      cases e
      obtain ⟨v, hv, r⟩ := R.sl i _ hu
      refine ⟨v, ?_, f v B H Ex.refl (fun _ => ⟨Ex.refl, rfl⟩) R r⟩
      rw [List.getD_eq_getElem?_getD] at hv
      cases q : σ[i]? with
      | none => rw [q] at hv; cases hv
      | some x => rw [q] at hv; exact congrArg some hv
    · rename_i us hu
      cases e
      obtain ⟨d, ws, q, hv, h1, h2⟩ := R.sl i _ hu
      refine ⟨.ref d, ?_, f _ B H Ex.refl (fun _ => ⟨Ex.refl, rfl⟩) R ⟨d, ws, rfl, .inr ⟨q, h1⟩, h2⟩⟩
      rw [List.getD_eq_getElem?_getD] at hv
      cases q : σ[i]? with
      | none => rw [q] at hv; cases hv
      | some x => rw [q] at hv; exact congrArg some hv
    · rename_i a u hu
      cases e
      obtain ⟨hv, r⟩ := R.sl i _ hu
      refine ⟨.ref a, ?_, f _ B H Ex.refl (fun _ => ⟨Ex.refl, rfl⟩) R r⟩
      rw [List.getD_eq_getElem?_getD] at hv
      cases q : σ[i]? with
      | none => rw [q] at hv; cases hv
      | some x => rw [q] at hv; exact congrArg some hv
    · cases e
theorem getD_some {σ : St} {i : Nat} {v : V} (h : σ.getD i none = some v) : σ[i]? = some (some v) := by
  rw [List.getD_eq_getElem?_getD] at h
  cases q : σ[i]? with
  | none => rw [q] at h; cases h
  | some x => rw [q] at h; exact congrArg some h
def mLook (i : Nat) : ME K where
  t := fun _ => tVar i
  m := fun ρ => match ρ[i]? with
    | some (.val u) => some (.ok u ρ)
    | some (.cel _ us) => some (.ok (.lst us) ρ)
    | some (.celD _ us) => some (.ok (.dic us) ρ)
    | some (.lck us) => some (.ok (.dic us) ρ)
    | some (.nam _ u) => some (.ok u ρ)
    | _ => none
  p := true
  k := false
  ok := fun F W ρ σ B H Q o e R f => by
    split at e
    · rename_i u hu
      cases e
      obtain ⟨v, hv, r⟩ := R.sl i _ hu
      exact ⟨v, getD_some hv, f v B H Ex.refl (fun _ => ⟨Ex.refl, rfl⟩) R (Rep.mono R.ex _ _ r)⟩
    · rename_i own us hu
      cases e
      obtain ⟨p, ws, hv, h1, h2, h3, _⟩ := R.sl i _ hu
      exact ⟨_, getD_some hv, f _ B H Ex.refl (fun _ => ⟨Ex.refl, rfl⟩) R ⟨p, ws, rfl, h1, RepL.mono R.ex _ _ h3⟩⟩
    · rename_i own us hu
      cases e
      obtain ⟨p, ws, hv, h1, h2, h3, _⟩ := R.sl i _ hu
      exact ⟨_, getD_some hv, f _ B H Ex.refl (fun _ => ⟨Ex.refl, rfl⟩) R ⟨p, ws, rfl, .inl h1, RepD.mono R.ex _ _ h3⟩⟩
    · rename_i us hu
      cases e
      obtain ⟨d, ws, q, hv, h1, h2⟩ := R.sl i _ hu
      exact ⟨_, getD_some hv, f _ B H Ex.refl (fun _ => ⟨Ex.refl, rfl⟩) R ⟨d, ws, rfl, .inr ⟨q, R.ex _ _ h1⟩, RepD.mono R.ex _ _ h2⟩⟩
    · rename_i a u hu
      cases e
      obtain ⟨hv, r⟩ := R.sl i _ hu
      exact ⟨_, getD_some hv, f _ B H Ex.refl (fun _ => ⟨Ex.refl, rfl⟩) R (Rep.mono R.ex _ _ r)⟩
    · cases e
def mLet (i : Nat) : ME K where
  t := fun _ => tVar i
  m := fun ρ => match ρ[i]? with
    | some (.val u) => some (.ok u ρ)
    | some (.cel true us) => some (.ok (.lst us) (ρ.set i (.val (.lst us))))
    | _ => none
  p := false
  k := true
  ok := fun F W ρ σ B H Q o e R f => by
    split at e
    · rename_i u hu
      cases e
      obtain ⟨v, hv, r⟩ := R.sl i _ hu
      exact ⟨v, getD_some hv, f v B H Ex.refl (fun z => nomatch z) R r⟩
    · rename_i us hu
      cases e
      obtain ⟨p, ws, hv, h1, h3, h2, R', xb, rp⟩ := R.freeze hu
      exact ⟨_, getD_some hv, f _ _ H xb (fun z => nomatch z) R' rp⟩
    · cases e
structure Op2 (K : PySem.W.Frag) where
  r : R2
  f : U → U → Option U
  ok : ∀ (H : Hp) (x y : V) (u v w : U), Rep K H u x → Rep K H v y → f u v = some w → ∃ z, scV w = some z ∧ ∀ Q : VK, Q z H → r x y H Q
def mOp (o : Op2 K) (a b : ME K) (h : (a.k || b.p) = true := by exact id rfl) : ME K where
  t := fun W => tOp o.r (a.t W) (b.t W)
  m := fun ρ => bindE (a.m ρ) fun u ρ1 => bindE (b.m ρ1) fun v ρ2 => (o.f u v).map fun w => .ok w ρ2
  p := a.p && b.p
  k := true
  ok := fun F W ρ σ B H Q out e R f => by
    rcases bindE_some e with ⟨u, ρ1, e1, e⟩ | ⟨x, ρ1, e1, rfl⟩
    · refine a.ok F W ρ σ B H _ _ e1 R fun v1 B1 H1 x1 p1 R1 r1 => ?_
      rcases bindE_some e with ⟨v, ρ2, e2, e⟩ | ⟨x, ρ2, e2, rfl⟩
      · refine b.ok F W ρ1 σ B1 H1 _ _ e2 R1 fun v2 B2 H2 x2 p2 R2' r2 => ?_
        obtain ⟨w, ew, rfl⟩ := Option.map_eq_some_iff.mp e
        have r1' : Rep K H2 u v1 := by
          rcases Bool.or_eq_true_iff.mp h with c | c
          · rw [c] at r1
            exact Rep.mono R2'.ex _ _ (Rep.mono x2 _ _ r1)
          · exact Rep.mono (p2 c).1 _ _ (rep_up R1 r1)
        obtain ⟨z, hz, q⟩ := o.ok H2 v1 v2 u v w r1' (rep_up R2' r2) ew
        refine q _ (f z B2 H2 (x1.trans x2) (fun c => ?_) R2' (by show Rep K B2 w z; exact rep_sc hz))
        obtain ⟨c1, c2⟩ := Bool.and_eq_true_iff.mp c
        exact ⟨(p1 c1).1.trans (p2 c2).1, (p2 c2).2.trans (p1 c1).2⟩
      · exact b.ok F W ρ1 σ B1 H1 _ _ e2 R1 fun cls d B2 H2 x2 R2' xr => f cls d B2 H2 (x1.trans x2) R2' xr
    · exact a.ok F W ρ σ B H _ _ e1 R fun cls d B1 H1 x1 R1 xr => f cls d B1 H1 x1 R1 xr
structure Op1 (K : PySem.W.Frag) where
  r : V → Hp → VK → Prop
  f : U → Option U
  ok : ∀ (H : Hp) (x : V) (u w : U), Rep K H u x → f u = some w → ∃ z, scV w = some z ∧ ∀ Q : VK, Q z H → r x H Q
def mUn (o : Op1 K) (a : ME K) : ME K where
  t := fun W => tUn o.r (a.t W)
  m := fun ρ => bindE (a.m ρ) fun u ρ1 => (o.f u).map fun w => .ok w ρ1
  p := a.p
  k := true
  ok := fun F W ρ σ B H Q out e R f => by
    rcases bindE_some e with ⟨u, ρ1, e1, e⟩ | ⟨x, ρ1, e1, rfl⟩
    · refine a.ok F W ρ σ B H _ _ e1 R fun v1 B1 H1 x1 p1 R1 r1 => ?_
      obtain ⟨w, ew, rfl⟩ := Option.map_eq_some_iff.mp e
      obtain ⟨z, hz, q⟩ := o.ok H1 v1 u w (rep_up R1 r1) ew
      exact q _ (f z B1 H1 x1 p1 R1 (by show Rep K B1 w z; exact rep_sc hz))
    · exact a.ok F W ρ σ B H _ _ e1 R fun cls d B1 H1 x1 R1 xr => f cls d B1 H1 x1 R1 xr
structure OpI (K : PySem.W.Frag) where
  r : R2
  f : U → U → Option U
  ok : ∀ (B H : Hp) (x y : V) (u v w : U) (Q : VK), Ex B H → Rep K B u x → Rep K H v y → f u v = some w → (∀ z, Rep K B w z → Q z H) → r x y H Q
def mIx (o : OpI K) (a b : ME K) (h : (a.k || b.p) = true := by exact id rfl) : ME K where
  t := fun W => tOp o.r (a.t W) (b.t W)
  m := fun ρ => bindE (a.m ρ) fun u ρ1 => bindE (b.m ρ1) fun v ρ2 => (o.f u v).map fun w => .ok w ρ2
  p := a.p && b.p
  k := a.k
  ok := fun F W ρ σ B H Q out e R f => by
    rcases bindE_some e with ⟨u, ρ1, e1, e⟩ | ⟨x, ρ1, e1, rfl⟩
    · refine a.ok F W ρ σ B H _ _ e1 R fun v1 B1 H1 x1 p1 R1 r1 => ?_
      rcases bindE_some e with ⟨v, ρ2, e2, e⟩ | ⟨x, ρ2, e2, rfl⟩
      · refine b.ok F W ρ1 σ B1 H1 _ _ e2 R1 fun v2 B2 H2 x2 p2 R2' r2 => ?_
        obtain ⟨w, ew, rfl⟩ := Option.map_eq_some_iff.mp e
        have r1' : Rep K (if a.k = true then B2 else H2) u v1 := by
          cases ck : a.k with
          | true =>
            rw [ck] at r1
            exact Rep.mono x2 _ _ r1
          | false =>
            rw [ck] at r1 h
            exact Rep.mono (p2 (by simpa using h)).1 _ _ r1
        have ex' : Ex (if a.k = true then B2 else H2) H2 := by
          split
          · exact R2'.ex
          · exact Ex.refl
        refine o.ok _ H2 v1 v2 u v w _ ex' r1' (rep_up R2' r2) ew fun z r3 => ?_
        refine f z B2 H2 (x1.trans x2) (fun c => ?_) R2' r3
        obtain ⟨c1, c2⟩ := Bool.and_eq_true_iff.mp c
        exact ⟨(p1 c1).1.trans (p2 c2).1, (p2 c2).2.trans (p1 c1).2⟩
      · exact b.ok F W ρ1 σ B1 H1 _ _ e2 R1 fun cls d B2 H2 x2 R2' xr => f cls d B2 H2 (x1.trans x2) R2' xr
    · exact a.ok F W ρ σ B H _ _ e1 R fun cls d B1 H1 x1 R1 xr => f cls d B1 H1 x1 R1 xr
inductive AO where
  | ok (us : List U) (ρ : Env)
  | ex (e : Exn) (ρ : Env)
def FinA (K : PySem.W.Frag) (F : Fc) (W : WX) (p k : Bool) (ρ : Env) (σ : St) (B H : Hp) (Q : List V → Hp → Prop) : AO → Prop
  | .ok us ρ' => ∀ vs B' H', Ex B B' → (p = true → Ex H H' ∧ ρ' = ρ) → Rel K F ρ' σ B' H' → RepL K (if k then B' else H') us vs → Q vs H'
  | .ex e ρ' => ∀ cls d B' H', Ex B B' → Rel K F ρ' σ B' H' → XRel K F e cls d H' → W cls d σ H'
structure MA (K : PySem.W.Frag) where
  t : WX → TA
  m : Env → Option AO
  p : Bool
  k : Bool
  ok : ∀ (F : Fc) (W : WX) (ρ : Env) (σ : St) (B H : Hp) (Q : List V → Hp → Prop) (o : AO), m ρ = some o → Rel K F ρ σ B H → FinA K F W p k ρ σ B H Q o → t W σ H Q
def bindEA (a : Option EO) (f : U → Env → Option AO) : Option AO :=
  match a with
  | none => none
  | some (.ex e ρ) => some (.ex e ρ)
  | some (.ok u ρ) => f u ρ
theorem bindEA_some {a : Option EO} {f : U → Env → Option AO} {o : AO} (h : bindEA a f = some o) : (∃ u ρ', a = some (.ok u ρ') ∧ f u ρ' = some o) ∨ ∃ e ρ', a = some (.ex e ρ') ∧ o = .ex e ρ' := by
  cases a with
  | none => cases h
  | some x =>
    cases x with
    | ok u ρ => exact .inl ⟨u, ρ, rfl, h⟩
    | ex e ρ => exact .inr ⟨e, ρ, rfl, (Option.some.inj h).symm⟩
def bindAE (a : Option AO) (f : List U → Env → Option EO) : Option EO :=
  match a with
  | none => none
  | some (.ex e ρ) => some (.ex e ρ)
  | some (.ok u ρ) => f u ρ
theorem bindAE_some {a : Option AO} {f : List U → Env → Option EO} {o : EO} (h : bindAE a f = some o) : (∃ u ρ', a = some (.ok u ρ') ∧ f u ρ' = some o) ∨ ∃ e ρ', a = some (.ex e ρ') ∧ o = .ex e ρ' := by
  cases a with
  | none => cases h
  | some x =>
    cases x with
    | ok u ρ => exact .inl ⟨u, ρ, rfl, h⟩
    | ex e ρ => exact .inr ⟨e, ρ, rfl, (Option.some.inj h).symm⟩
def mNil : MA K where
  t := fun _ => tNil
  m := fun ρ => some (.ok [] ρ)
  p := true
  k := true
  ok := fun F W ρ σ B H Q o e R f => by
    cases e
    exact f [] B H Ex.refl (fun _ => ⟨Ex.refl, rfl⟩) R rfl
def mCons (a : ME K) (b : MA K) (h : (a.k || b.p) = true := by exact id rfl) : MA K where
  t := fun W => tCons (a.t W) (b.t W)
  m := fun ρ => bindEA (a.m ρ) fun u ρ1 => match b.m ρ1 with
    | none => none
    | some (.ex e ρ2) => some (.ex e ρ2)
    | some (.ok us ρ2) => some (.ok (u :: us) ρ2)
  p := a.p && b.p
  k := a.k && b.k
  ok := fun F W ρ σ B H Q out e R f => by
    rcases bindEA_some e with ⟨u, ρ1, e1, e⟩ | ⟨x, ρ1, e1, rfl⟩
    · refine a.ok F W ρ σ B H _ _ e1 R fun v1 B1 H1 x1 p1 R1 r1 => ?_
      split at e
      · cases e
      · rename_i x ρ2 e2
        cases e
        exact b.ok F W ρ1 σ B1 H1 _ _ e2 R1 fun cls d B2 H2 x2 R2' xr => f cls d B2 H2 (x1.trans x2) R2' xr
      · rename_i us ρ2 e2
        cases e
        refine b.ok F W ρ1 σ B1 H1 _ _ e2 R1 fun vs B2 H2 x2 p2 R2' r2 => ?_
        refine f (v1 :: vs) B2 H2 (x1.trans x2) (fun c => ?_) R2' ?_
        · obtain ⟨c1, c2⟩ := Bool.and_eq_true_iff.mp c
          exact ⟨(p1 c1).1.trans (p2 c2).1, (p2 c2).2.trans (p1 c1).2⟩
        · cases ck : a.k with
          | true =>
            rw [ck] at r1
            cases cb : b.k with
            | true =>
              rw [cb] at r2
              exact ⟨v1, vs, rfl, Rep.mono x2 _ _ r1, r2⟩
            | false =>
              rw [cb] at r2
              exact ⟨v1, vs, rfl, Rep.mono R2'.ex _ _ (Rep.mono x2 _ _ r1), r2⟩
          | false =>
            rw [ck] at r1 h
            have q1 := Rep.mono (p2 (by simpa using h)).1 _ _ r1
            refine ⟨v1, vs, rfl, q1, ?_⟩
            cases cb : b.k with
            | true => rw [cb] at r2; exact RepL.mono R2'.ex _ _ r2
            | false => rw [cb] at r2; exact r2
    · exact a.ok F W ρ σ B H _ _ e1 R fun cls d B1 H1 x1 R1 xr => f cls d B1 H1 x1 R1 xr
def mTup (a : MA K) (h : a.k = true := by exact id rfl) : ME K where
  t := fun W => tTup (a.t W)
  m := fun ρ => bindAE (a.m ρ) fun us ρ1 => if us.length ≤ 16777216 then some (.ok (.tup us) ρ1) else none
  p := a.p
  k := true
  ok := fun F W ρ σ B H Q out e R f => by
    rcases bindAE_some e with ⟨us, ρ1, e1, e⟩ | ⟨x, ρ1, e1, rfl⟩
    · refine a.ok F W ρ σ B H _ _ e1 R fun vs B1 H1 x1 p1 R1 r1 => ?_
      rw [h] at r1
      split at e
      · rename_i hl
        cases e
        refine ⟨by rw [r1.length, PySem.sizeLine_eq]; exact hl, fun p hp => ?_⟩
        have g := Go.newB (o := .tup vs) R1.ex hp
        exact f (.ref p) _ _ (x1.trans g.bb) (fun c => ⟨(p1 c).1.trans g.ex, (p1 c).2⟩) (R1.grow g) ⟨p, vs, rfl, .inl (.inl upd_same), RepL.mono g.bb _ _ r1⟩
      · cases e
    · exact a.ok F W ρ σ B H _ _ e1 R fun cls d B1 H1 x1 R1 xr => f cls d B1 H1 x1 R1 xr
def FinF (K : PySem.W.Frag) (F : Fc) (W : WX) (p : Bool) (ρ : Env) (σ : St) (B H : Hp) (Q : VK) : AO → Prop
  | .ok us ρ' => ∀ (q : Addr) ws B' H', Ex B B' → (p = true → Ex H H' ∧ ρ' = ρ) → Rel K F ρ' σ B' H' → H' q = some (.lst ws) → B' q = none → F.H0 q = none →
      (∀ (j : Nat) s, ρ'[j]? = some s → q ∉ s.ow H' (σ.getD j none)) → (∀ o, (q, o) ∉ F.X) → RepL K B' us ws → Q (.ref q) H'
  | .ex e ρ' => ∀ cls d B' H', Ex B B' → Rel K F ρ' σ B' H' → XRel K F e cls d H' → W cls d σ H'
structure MF (K : PySem.W.Frag) where
  t : WX → TE
  m : Env → Option AO
  p : Bool
  ok : ∀ (F : Fc) (W : WX) (ρ : Env) (σ : St) (B H : Hp) (Q : VK) (o : AO), m ρ = some o → Rel K F ρ σ B H → FinF K F W p ρ σ B H Q o → t W σ H Q
theorem Rel.fresh0 {F : Fc} {ρ : Env} {σ : St} {B H : Hp} {q : Addr} (R : Rel K F ρ σ B H) (h : H q = none) : F.H0 q = none := by
  cases e : F.H0 q with
  | none => rfl
  | some o =>
    obtain ⟨o', h'⟩ := R.th q o e
    rw [h] at h'; cases h'
theorem newF {F : Fc} {W : WX} {p : Bool} {ρ ρ1 : Env} {σ : St} {B H B1 H1 : Hp} {Q : VK} {us : List U} {ws : List V} (f : FinF K F W p ρ σ B H Q (.ok us ρ1)) (x1 : Ex B B1) (p1 : p = true → Ex H H1 ∧ ρ1 = ρ) (R1 : Rel K F ρ1 σ B1 H1)
    (r : RepL K B1 us ws) {q : Addr} (hq : H1 q = none) : Q (.ref q) (upd H1 q (.lst ws)) := by
  have g := Go.newC (o := .lst ws) R1.ex hq
  exact f q ws B1 _ x1 (fun c => ⟨(p1 c).1.trans g.ex, (p1 c).2⟩) (R1.grow g) upd_same (R1.ex.none hq) (R1.fresh0 hq) (fun j s e => by rw [R1.ow_eq g e]; exact R1.notC hq j s e) (fun o ho => by rw [(R1.xx _ _ ho).1] at hq; cases hq) r
def mFr (a : MF K) : ME K where
  t := a.t
  m := fun ρ => bindAE (a.m ρ) fun us ρ1 => some (.ok (.lst us) ρ1)
  p := a.p
  k := true
  ok := fun F W ρ σ B H Q out e R f => by
    rcases bindAE_some e with ⟨us, ρ1, e1, e⟩ | ⟨x, ρ1, e1, rfl⟩
    · cases e
      refine a.ok F W ρ σ B H _ _ e1 R fun q ws B1 H1 x1 p1 R1 h1 h2 h3 h4 h5 r1 => ?_
      have xb : Ex B1 (upd B1 q (.lst ws)) := Ex.new h2
      exact f (.ref q) (upd B1 q (.lst ws)) H1 (x1.trans xb) p1 (R1.know h1 h2 h3 h4 h5) ⟨q, ws, rfl, upd_same, RepL.mono xb _ _ r1⟩
    · exact a.ok F W ρ σ B H _ _ e1 R fun cls d B1 H1 x1 R1 xr => f cls d B1 H1 x1 R1 xr
def mLst (a : MA K) (h : a.k = true := by exact id rfl) : MF K where
  t := fun W => tLst (a.t W)
  m := fun ρ => match a.m ρ with
    | some (.ok us ρ1) => if us.length ≤ 16777216 then some (.ok us ρ1) else none
    | o => o
  p := a.p
  ok := fun F W ρ σ B H Q out e R f => by
    split at e
    · rename_i us ρ1 e1
      split at e
      · rename_i hl
        cases e
        refine a.ok F W ρ σ B H _ _ e1 R fun vs B1 H1 x1 p1 R1 r1 => ?_
        rw [h] at r1
        exact ⟨by rw [r1.length, PySem.sizeLine_eq]; exact hl, fun p hp => newF f x1 p1 R1 r1 hp⟩
      · cases e
    · rename_i h2
      cases o : a.m ρ with
      | none => rw [o] at e; cases e
      | some x =>
        rw [o] at e; cases e
        cases out with
        | ok us ρ1 => exact absurd o (h2 us ρ1)
        | ex x ρ1 => exact a.ok F W ρ σ B H _ _ o R fun cls d B1 H1 x1 R1 xr => f cls d B1 H1 x1 R1 xr
end Sg
set_option Elab.async false
set_option linter.all false
set_option maxRecDepth 100000
set_option maxHeartbeats 4000000
namespace Sg
open PySem L2
variable {K : PySem.W.Frag}
inductive TOu where
  | ok (b : Bool) (ρ : Env)
  | ex (e : Exn) (ρ : Env)
def FinT (K : PySem.W.Frag) (F : Fc) (W : WX) (p : Bool) (ρ : Env) (σ : St) (B H : Hp) (Q : Bool → Hp → Prop) : TOu → Prop
  | .ok b ρ' => ∀ B' H', Ex B B' → (p = true → Ex H H' ∧ ρ' = ρ) → Rel K F ρ' σ B' H' → Q b H'
  | .ex e ρ' => ∀ cls d B' H', Ex B B' → Rel K F ρ' σ B' H' → XRel K F e cls d H' → W cls d σ H'
structure MT (K : PySem.W.Frag) where
  t : WX → TT
  m : Env → Option TOu
  p : Bool
  ok : ∀ (F : Fc) (W : WX) (ρ : Env) (σ : St) (B H : Hp) (Q : Bool → Hp → Prop) (o : TOu), m ρ = some o → Rel K F ρ σ B H → FinT K F W p ρ σ B H Q o → t W σ H Q
def bindET (a : Option EO) (f : U → Env → Option TOu) : Option TOu :=
  match a with
  | none => none
  | some (.ex e ρ) => some (.ex e ρ)
  | some (.ok u ρ) => f u ρ
theorem bindET_some {a : Option EO} {f : U → Env → Option TOu} {o : TOu} (h : bindET a f = some o) : (∃ u ρ', a = some (.ok u ρ') ∧ f u ρ' = some o) ∨ ∃ e ρ', a = some (.ex e ρ') ∧ o = .ex e ρ' := by
  cases a with
  | none => cases h
  | some x =>
    cases x with
    | ok u ρ => exact .inl ⟨u, ρ, rfl, h⟩
    | ex e ρ => exact .inr ⟨e, ρ, rfl, (Option.some.inj h).symm⟩
def bindTT (a : Option TOu) (f : Bool → Env → Option TOu) : Option TOu :=
  match a with
  | none => none
  | some (.ex e ρ) => some (.ex e ρ)
  | some (.ok u ρ) => f u ρ
theorem bindTT_some {a : Option TOu} {f : Bool → Env → Option TOu} {o : TOu} (h : bindTT a f = some o) : (∃ u ρ', a = some (.ok u ρ') ∧ f u ρ' = some o) ∨ ∃ e ρ', a = some (.ex e ρ') ∧ o = .ex e ρ' := by
  cases a with
  | none => cases h
  | some x =>
    cases x with
    | ok u ρ => exact .inl ⟨u, ρ, rfl, h⟩
    | ex e ρ => exact .inr ⟨e, ρ, rfl, (Option.some.inj h).symm⟩
def bindTE (a : Option TOu) (f : Bool → Env → Option EO) : Option EO :=
  match a with
  | none => none
  | some (.ex e ρ) => some (.ex e ρ)
  | some (.ok u ρ) => f u ρ
theorem bindTE_some {a : Option TOu} {f : Bool → Env → Option EO} {o : EO} (h : bindTE a f = some o) : (∃ u ρ', a = some (.ok u ρ') ∧ f u ρ' = some o) ∨ ∃ e ρ', a = some (.ex e ρ') ∧ o = .ex e ρ' := by
  cases a with
  | none => cases h
  | some x =>
    cases x with
    | ok u ρ => exact .inl ⟨u, ρ, rfl, h⟩
    | ex e ρ => exact .inr ⟨e, ρ, rfl, (Option.some.inj h).symm⟩
def mTest (a : ME K) : MT K where
  t := fun W => tTest (a.t W)
  m := fun ρ => bindET (a.m ρ) fun u ρ1 => match u with
    | .bl b => some (.ok b ρ1)
    | _ => none
  p := a.p
  ok := fun F W ρ σ B H Q out e R f => by
    rcases bindET_some e with ⟨u, ρ1, e1, e⟩ | ⟨x, ρ1, e1, rfl⟩
    · refine a.ok F W ρ σ B H _ _ e1 R fun v1 B1 H1 x1 p1 R1 r1 => ?_
      split at e
      · rename_i b
        cases e
        have r2 : v1 = .bl b := rep_up R1 r1
        exact ⟨b, r2, f B1 H1 x1 p1 R1⟩
      · cases e
    · exact a.ok F W ρ σ B H _ _ e1 R fun cls d B1 H1 x1 R1 xr => f cls d B1 H1 x1 R1 xr
def truU : U → Option Bool
  | .non => some false
  | .bl b => some b
  | .int i => some (i != 0)
  | .str s => if s.length ≤ 16777216 then some ((s.length : Int) != 0) else none
  | .lst us => some (!us.isEmpty)
  | .frl us => some (!us.isEmpty)
  | .tup us => some (!us.isEmpty)
  | _ => none
theorem RepL.empty {B : Hp} {us : List U} {vs : List V} (h : RepL K B us vs) : us.isEmpty = vs.isEmpty := by
  cases us with
  | nil => cases h; rfl
  | cons u us => obtain ⟨v, r, rfl, _⟩ := h; rfl
theorem RepD.empty {B : Hp} {us : List (Key × U)} {vs : List (Key × V)} (h : RepD K B us vs) : us.isEmpty = vs.isEmpty := by
  cases us with
  | nil => cases h; rfl
  | cons u us => obtain ⟨k, u⟩ := u; obtain ⟨v, r, rfl, _⟩ := h; rfl
theorem truU_ok {H : Hp} {u : U} {v : V} {b : Bool} (r : Rep K H u v) (h : truU u = some b) : TruV K v H b := by
  cases u with
  | non => cases r; cases h; rfl
  | bl c => cases r; cases h; rfl
  | int i => cases r; cases h; rfl
  | str s =>
    cases r
    have h' : (if s.length ≤ 16777216 then some ((s.length : Int) != 0) else none) = some b := h
    by_cases q : s.length ≤ 16777216
    · rw [if_pos q] at h'; cases h'; exact ⟨by rw [PySem.sizeLine_eq]; exact q, rfl⟩
    · rw [if_neg q] at h'; cases h'
  | ref a => cases h
  | lst us => obtain ⟨a, vs, rfl, h1, h2⟩ := r; cases h; exact .inl ⟨vs, SqL.of h1, by rw [h2.empty]⟩
  | frl us => obtain ⟨a, vs, rfl, h1, h2⟩ := r; cases h; exact .inl ⟨vs, h1, by rw [h2.empty]⟩
  | tup us => obtain ⟨a, vs, rfl, h1, h2⟩ := r; cases h; exact .inr (.inl ⟨vs, h1, by rw [h2.empty]⟩)
  | dic us => cases h
  | ins c fs => cases h
  | exc c => cases h
  | exf c f z => cases h
  | ndc us => cases h
def tTruth (K : PySem.W.Frag) (ta : TE) : TT := fun σ H Q => ta σ H fun x H' => ∃ k, TruV K x H' k ∧ Q k H'
def mTru (a : ME K) : MT K where
  t := fun W => tTruth K (a.t W)
  m := fun ρ => bindET (a.m ρ) fun u ρ1 => (truU u).map fun b => .ok b ρ1
  p := a.p
  ok := fun F W ρ σ B H Q out e R f => by
    rcases bindET_some e with ⟨u, ρ1, e1, e⟩ | ⟨x, ρ1, e1, rfl⟩
    · refine a.ok F W ρ σ B H _ _ e1 R fun v1 B1 H1 x1 p1 R1 r1 => ?_
      obtain ⟨b, eb, rfl⟩ := Option.map_eq_some_iff.mp e
      exact ⟨b, truU_ok (rep_up R1 r1) eb, f B1 H1 x1 p1 R1⟩
    · exact a.ok F W ρ σ B H _ _ e1 R fun cls d B1 H1 x1 R1 xr => f cls d B1 H1 x1 R1 xr
def mAnd (a b : MT K) : MT K where
  t := fun W => tAnd (a.t W) (b.t W)
  m := fun ρ => bindTT (a.m ρ) fun c ρ1 => if c = true then b.m ρ1 else some (.ok false ρ1)
  p := a.p && b.p
  ok := fun F W ρ σ B H Q out e R f => by
    rcases bindTT_some e with ⟨c, ρ1, e1, e⟩ | ⟨x, ρ1, e1, rfl⟩
    · refine a.ok F W ρ σ B H _ _ e1 R fun B1 H1 x1 p1 R1 => ?_
      cases c with
      | true =>
        rw [if_pos rfl] at e ⊢
        refine b.ok F W ρ1 σ B1 H1 _ _ e R1 ?_
        cases out with
        | ok d ρ2 => exact fun B2 H2 x2 p2 R2 => f B2 H2 (x1.trans x2) (fun z => by
            obtain ⟨c1, c2⟩ := Bool.and_eq_true_iff.mp z
            exact ⟨(p1 c1).1.trans (p2 c2).1, (p2 c2).2.trans (p1 c1).2⟩) R2
        | ex x ρ2 => exact fun cls d B2 H2 x2 R2 xr => f cls d B2 H2 (x1.trans x2) R2 xr
      | false =>
        rw [if_neg (by decide)] at e ⊢
        cases e
        exact f B1 H1 x1 (fun z => p1 (Bool.and_eq_true_iff.mp z).1) R1
    · exact a.ok F W ρ σ B H _ _ e1 R fun cls d B1 H1 x1 R1 xr => f cls d B1 H1 x1 R1 xr
def mOr (a b : MT K) : MT K where
  t := fun W => tOr (a.t W) (b.t W)
  m := fun ρ => bindTT (a.m ρ) fun c ρ1 => if c = true then some (.ok true ρ1) else b.m ρ1
  p := a.p && b.p
  ok := fun F W ρ σ B H Q out e R f => by
    rcases bindTT_some e with ⟨c, ρ1, e1, e⟩ | ⟨x, ρ1, e1, rfl⟩
    · refine a.ok F W ρ σ B H _ _ e1 R fun B1 H1 x1 p1 R1 => ?_
      cases c with
      | false =>
        rw [if_neg (by decide)] at e ⊢
        refine b.ok F W ρ1 σ B1 H1 _ _ e R1 ?_
        cases out with
        | ok d ρ2 => exact fun B2 H2 x2 p2 R2 => f B2 H2 (x1.trans x2) (fun z => by
            obtain ⟨c1, c2⟩ := Bool.and_eq_true_iff.mp z
            exact ⟨(p1 c1).1.trans (p2 c2).1, (p2 c2).2.trans (p1 c1).2⟩) R2
        | ex x ρ2 => exact fun cls d B2 H2 x2 R2 xr => f cls d B2 H2 (x1.trans x2) R2 xr
      | true =>
        rw [if_pos rfl] at e ⊢
        cases e
        exact f B1 H1 x1 (fun z => p1 (Bool.and_eq_true_iff.mp z).1) R1
    · exact a.ok F W ρ σ B H _ _ e1 R fun cls d B1 H1 x1 R1 xr => f cls d B1 H1 x1 R1 xr
def mNot (a : MT K) : MT K where
  t := fun W => tNot (a.t W)
  m := fun ρ => bindTT (a.m ρ) fun c ρ1 => some (.ok (!c) ρ1)
  p := a.p
  ok := fun F W ρ σ B H Q out e R f => by
    rcases bindTT_some e with ⟨c, ρ1, e1, e⟩ | ⟨x, ρ1, e1, rfl⟩
    · cases e
      exact a.ok F W ρ σ B H _ _ e1 R fun B1 H1 x1 p1 R1 => f B1 H1 x1 p1 R1
    · exact a.ok F W ρ σ B H _ _ e1 R fun cls d B1 H1 x1 R1 xr => f cls d B1 H1 x1 R1 xr
def mAndV (a b : ME K) : ME K where
  t := fun W => tAndV (a.t W) (b.t W)
  m := fun ρ => bindE (a.m ρ) fun u ρ1 => match u with
    | .bl true => bindE (b.m ρ1) fun v ρ2 => match v with
      | .bl c => some (.ok (.bl c) ρ2)
      | _ => none
    | .bl false => some (.ok (.bl false) ρ1)
    | _ => none
  p := a.p && b.p
  k := true
  ok := fun F W ρ σ B H Q out e R f => by
    rcases bindE_some e with ⟨u, ρ1, e1, e⟩ | ⟨x, ρ1, e1, rfl⟩
    · refine a.ok F W ρ σ B H _ _ e1 R fun v1 B1 H1 x1 p1 R1 r1 => ?_
      have r2 := rep_up R1 r1
      split at e
      · refine ⟨true, r2, ?_⟩
        rw [if_pos rfl]
        rcases bindE_some e with ⟨w, ρ2, e2, e⟩ | ⟨x, ρ2, e2, rfl⟩
        · refine b.ok F W ρ1 σ B1 H1 _ _ e2 R1 fun v2 B2 H2 x2 p2 R2 q2 => ?_
          split at e
          · cases e
            exact f v2 B2 H2 (x1.trans x2) (fun z => by
              obtain ⟨c1, c2⟩ := Bool.and_eq_true_iff.mp z
              exact ⟨(p1 c1).1.trans (p2 c2).1, (p2 c2).2.trans (p1 c1).2⟩) R2 (show Rep K B2 _ v2 from by
              have z : v2 = _ := rep_up R2 q2
              exact z)
          · cases e
        · exact b.ok F W ρ1 σ B1 H1 _ _ e2 R1 fun cls d B2 H2 x2 R2 xr => f cls d B2 H2 (x1.trans x2) R2 xr
      · cases e
        refine ⟨false, r2, ?_⟩
        rw [if_neg (by decide)]
        exact f (.bl false) B1 H1 x1 (fun z => p1 (Bool.and_eq_true_iff.mp z).1) R1 rfl
      · cases e
    · exact a.ok F W ρ σ B H _ _ e1 R fun cls d B1 H1 x1 R1 xr => f cls d B1 H1 x1 R1 xr
def mOrV (a b : ME K) : ME K where
  t := fun W => tOrV (a.t W) (b.t W)
  m := fun ρ => bindE (a.m ρ) fun u ρ1 => match u with
    | .bl false => bindE (b.m ρ1) fun v ρ2 => match v with
      | .bl c => some (.ok (.bl c) ρ2)
      | _ => none
    | .bl true => some (.ok (.bl true) ρ1)
    | _ => none
  p := a.p && b.p
  k := true
  ok := fun F W ρ σ B H Q out e R f => by
    rcases bindE_some e with ⟨u, ρ1, e1, e⟩ | ⟨x, ρ1, e1, rfl⟩
    · refine a.ok F W ρ σ B H _ _ e1 R fun v1 B1 H1 x1 p1 R1 r1 => ?_
      have r2 := rep_up R1 r1
      split at e
      · refine ⟨false, r2, ?_⟩
        rw [if_neg (by decide)]
        rcases bindE_some e with ⟨w, ρ2, e2, e⟩ | ⟨x, ρ2, e2, rfl⟩
        · refine b.ok F W ρ1 σ B1 H1 _ _ e2 R1 fun v2 B2 H2 x2 p2 R2 q2 => ?_
          split at e
          · cases e
            exact f v2 B2 H2 (x1.trans x2) (fun z => by
              obtain ⟨c1, c2⟩ := Bool.and_eq_true_iff.mp z
              exact ⟨(p1 c1).1.trans (p2 c2).1, (p2 c2).2.trans (p1 c1).2⟩) R2 (show Rep K B2 _ v2 from by
              have z : v2 = _ := rep_up R2 q2
              exact z)
          · cases e
        · exact b.ok F W ρ1 σ B1 H1 _ _ e2 R1 fun cls d B2 H2 x2 R2 xr => f cls d B2 H2 (x1.trans x2) R2 xr
      · cases e
        refine ⟨true, r2, ?_⟩
        rw [if_pos rfl]
        exact f (.bl true) B1 H1 x1 (fun z => p1 (Bool.and_eq_true_iff.mp z).1) R1 rfl
      · cases e
    · exact a.ok F W ρ σ B H _ _ e1 R fun cls d B1 H1 x1 R1 xr => f cls d B1 H1 x1 R1 xr
def mNotV (a : ME K) : ME K where
  t := fun W => tNotV (a.t W)
  m := fun ρ => bindE (a.m ρ) fun u ρ1 => match u with
    | .bl c => some (.ok (.bl (!c)) ρ1)
    | _ => none
  p := a.p
  k := true
  ok := fun F W ρ σ B H Q out e R f => by
    rcases bindE_some e with ⟨u, ρ1, e1, e⟩ | ⟨x, ρ1, e1, rfl⟩
    · refine a.ok F W ρ σ B H _ _ e1 R fun v1 B1 H1 x1 p1 R1 r1 => ?_
      have r2 := rep_up R1 r1
      split at e
      · rename_i c
        cases e
        exact ⟨c, r2, f (.bl (!c)) B1 H1 x1 p1 R1 rfl⟩
      · cases e
    · exact a.ok F W ρ σ B H _ _ e1 R fun cls d B1 H1 x1 R1 xr => f cls d B1 H1 x1 R1 xr
def mIf (c : MT K) (a b : ME K) : ME K where
  t := fun W => tIf (c.t W) (a.t W) (b.t W)
  m := fun ρ => bindTE (c.m ρ) fun x ρ1 => if x = true then a.m ρ1 else b.m ρ1
  p := c.p && (a.p && b.p)
  k := a.k && b.k
  ok := fun F W ρ σ B H Q out e R f => by
    rcases bindTE_some e with ⟨x, ρ1, e1, e⟩ | ⟨x, ρ1, e1, rfl⟩
    · refine c.ok F W ρ σ B H _ _ e1 R fun B1 H1 x1 p1 R1 => ?_
      cases x with
      | true =>
        rw [if_pos rfl] at e ⊢
        refine a.ok F W ρ1 σ B1 H1 _ _ e R1 ?_
        cases out with
        | ok d ρ2 => exact fun v2 B2 H2 x2 p2 R2 r2 => f v2 B2 H2 (x1.trans x2) (fun z => by
            obtain ⟨c1, c2⟩ := Bool.and_eq_true_iff.mp z
            obtain ⟨c2, c3⟩ := Bool.and_eq_true_iff.mp c2
            exact ⟨(p1 c1).1.trans (p2 c2).1, (p2 c2).2.trans (p1 c1).2⟩) R2 (by
            cases ck : (a.k && b.k) with
            | true => rw [(Bool.and_eq_true_iff.mp ck).1] at r2; exact r2
            | false => exact rep_up R2 r2)
        | ex x ρ2 => exact fun cls d B2 H2 x2 R2 xr => f cls d B2 H2 (x1.trans x2) R2 xr
      | false =>
        rw [if_neg (by decide)] at e ⊢
        refine b.ok F W ρ1 σ B1 H1 _ _ e R1 ?_
        cases out with
        | ok d ρ2 => exact fun v2 B2 H2 x2 p2 R2 r2 => f v2 B2 H2 (x1.trans x2) (fun z => by
            obtain ⟨c1, c2⟩ := Bool.and_eq_true_iff.mp z
            obtain ⟨c2, c3⟩ := Bool.and_eq_true_iff.mp c2
            exact ⟨(p1 c1).1.trans (p2 c3).1, (p2 c3).2.trans (p1 c1).2⟩) R2 (by
            cases ck : (a.k && b.k) with
            | true => rw [(Bool.and_eq_true_iff.mp ck).2] at r2; exact r2
            | false => exact rep_up R2 r2)
        | ex x ρ2 => exact fun cls d B2 H2 x2 R2 xr => f cls d B2 H2 (x1.trans x2) R2 xr
    · exact c.ok F W ρ σ B H _ _ e1 R fun cls d B1 H1 x1 R1 xr => f cls d B1 H1 x1 R1 xr
def kills (ρ : Env) : List Nat → Env
  | [] => ρ
  | i :: is => (kills ρ is).set i .non
structure MG (K : PySem.W.Frag) where
  t : TG
  m : U → Env → Option Env
  is : List Nat
  ok : ∀ (F : Fc) (ρ ρ' : Env) (σ : St) (B H : Hp) (u : U) (v : V) (Q : St → Hp → Prop), m u ρ = some ρ' → Rel K F ρ σ B H → Rep K B u v →
    (∀ σ', Rel K F ρ' σ' B H → σ'.length = σ.length → (∀ j, j ∉ is → σ'[j]? = σ[j]?) → Q σ' H) → t v σ H Q
structure MGs (K : PySem.W.Frag) where
  t : TGs
  m : List U → Env → Option Env
  is : List Nat
  ok : ∀ (F : Fc) (ρ ρ' : Env) (σ : St) (B H : Hp) (us : List U) (vs : List V) (Q : St → Hp → Prop), m us ρ = some ρ' → Rel K F ρ σ B H → RepL K B us vs →
    (∀ σ', Rel K F ρ' σ' B H → σ'.length = σ.length → (∀ j, j ∉ is → σ'[j]? = σ[j]?) → Q σ' H) → t vs σ H Q
def mgName (i : Nat) : MG K where
  t := gName i
  m := fun u ρ => some (ρ.set i (.val u))
  is := [i]
  ok := fun F ρ ρ' σ B H u v Q e R r f => by
    cases e
    refine f _ (R.setV r) (by simp) fun j hj => ?_
    rw [List.getElem?_set_ne (by intro c; subst c; simp at hj)]
def mgNil : MGs K where
  t := gNil
  m := fun us ρ => match us with
    | [] => some ρ
    | _ => none
  is := []
  ok := fun F ρ ρ' σ B H us vs Q e R r f => by
    split at e
    · cases e; cases r; exact ⟨rfl, f σ R rfl fun _ _ => rfl⟩
    · cases e
def mgCons (g : MG K) (gs : MGs K) : MGs K where
  t := gCons g.t gs.t
  m := fun us ρ => match us with
    | u :: us => (g.m u ρ).bind fun ρ1 => gs.m us ρ1
    | [] => none
  is := g.is ++ gs.is
  ok := fun F ρ ρ' σ B H us vs Q e R r f => by
    split at e
    · rename_i u us
      obtain ⟨ρ1, e1, e2⟩ := Option.bind_eq_some_iff.mp e
      obtain ⟨v, vr, rfl, r1, r2⟩ := r
      refine ⟨v, vr, rfl, g.ok F ρ ρ1 σ B H u v _ e1 R r1 fun σ1 R1 l1 h1 => ?_⟩
      refine gs.ok F ρ1 ρ' σ1 B H us vr _ e2 R1 r2 fun σ2 R2 l2 h2 => f σ2 R2 (l2.trans l1) fun j hj => ?_
      rw [List.mem_append] at hj
      rw [h2 j (fun z => hj (.inr z)), h1 j (fun z => hj (.inl z))]
    · cases e
def mgTup (n : Nat) (gs : MGs K) : MG K where
  t := gTup K n gs.t
  m := fun u ρ => match u with
    | .tup us => if us.length = n then gs.m us ρ else none
    | _ => none
  is := gs.is
  ok := fun F ρ ρ' σ B H u v Q e R r f => by
    split at e
    · rename_i us
      split at e
      · rename_i hl
        obtain ⟨a, vs, rfl, h1, h2⟩ := r
        exact ⟨a, vs, rfl, Ex.t R.ex h1, by rw [h2.length, hl], gs.ok F ρ ρ' σ B H us vs Q e R h2 f⟩
      · cases e
    · cases e
inductive RV where
  | val (u : U)
  | cel (us : List U)
inductive SO where
  | nx (ρ : Env) | bk (ρ : Env) | ct (ρ : Env) | rt (r : RV) (ρ : Env) | ex (e : Exn) (ρ : Env)
def FinR (K : PySem.W.Frag) (F : Fc) (D : Ends) (B : Hp) : SO → Prop
  | .rt (.val u) ρ' => ∀ v σ' B' H', Ex B B' → Rel K F ρ' σ' B' H' → Rep K B' u v → D.rt v H'
  | .rt (.cel us) ρ' => ∀ q ws σ' B' H', Ex B B' → Rel K F ρ' σ' B' H' → H' q = some (.lst ws) → B' q = none → F.H0 q = none → RepL K B' us ws → D.rt (.ref q) H'
  | _ => True
def FinS (K : PySem.W.Frag) (F : Fc) (W : WX) (D : Ends) (B : Hp) : SO → Prop
  | .nx ρ' => ∀ σ' B' H', Ex B B' → Rel K F ρ' σ' B' H' → D.nx σ' H'
  | .bk ρ' => ∀ σ' B' H', Ex B B' → Rel K F ρ' σ' B' H' → D.bk σ' H'
  | .ct ρ' => ∀ σ' B' H', Ex B B' → Rel K F ρ' σ' B' H' → D.ct σ' H'
  | .ex e ρ' => ∀ cls d σ' B' H', Ex B B' → Rel K F ρ' σ' B' H' → XRel K F e cls d H' → W cls d σ' H'
  | o => FinR K F D B o
theorem FinR.mono {F : Fc} {D D' : Ends} {B B1 : Hp} {o : SO} (x : Ex B B1) (hd : D'.rt = D.rt) (f : FinR K F D B o) : FinR K F D' B1 o := by
  cases o with
  | rt r ρ =>
    cases r with
    | val u => exact fun v σ' B' H' x1 R r => by rw [hd]; exact f v σ' B' H' (x.trans x1) R r
    | cel us => exact fun q ws σ' B' H' x1 R h1 h2 h3 r => by rw [hd]; exact f q ws σ' B' H' (x.trans x1) R h1 h2 h3 r
  | _ => trivial
theorem FinS.mono {F : Fc} {W : WX} {D : Ends} {B B1 : Hp} {o : SO} (x : Ex B B1) (f : FinS K F W D B o) : FinS K F W D B1 o := by
  cases o with
  | nx ρ => exact fun σ' B' H' x1 R => f σ' B' H' (x.trans x1) R
  | bk ρ => exact fun σ' B' H' x1 R => f σ' B' H' (x.trans x1) R
  | ct ρ => exact fun σ' B' H' x1 R => f σ' B' H' (x.trans x1) R
  | ex e ρ => exact fun cls d σ' B' H' x1 R => f cls d σ' B' H' (x.trans x1) R
  | rt r ρ => exact FinR.mono (o := .rt r ρ) x rfl f
structure MS (K : PySem.W.Frag) where
  t : WX → TS
  m : Env → Option SO
  ok : ∀ (F : Fc) (W : WX) (ρ : Env) (σ : St) (B H : Hp) (D : Ends) (o : SO), m ρ = some o → Rel K F ρ σ B H → FinS K F W D B o → t W D σ H
def bindES (a : Option EO) (f : U → Env → Option SO) : Option SO :=
  match a with
  | none => none
  | some (.ex e ρ) => some (.ex e ρ)
  | some (.ok u ρ) => f u ρ
theorem bindES_some {a : Option EO} {f : U → Env → Option SO} {o : SO} (h : bindES a f = some o) : (∃ u ρ', a = some (.ok u ρ') ∧ f u ρ' = some o) ∨ ∃ e ρ', a = some (.ex e ρ') ∧ o = .ex e ρ' := by
  cases a with
  | none => cases h
  | some x =>
    cases x with
    | ok u ρ => exact .inl ⟨u, ρ, rfl, h⟩
    | ex e ρ => exact .inr ⟨e, ρ, rfl, (Option.some.inj h).symm⟩
def bindAS (a : Option AO) (f : List U → Env → Option SO) : Option SO :=
  match a with
  | none => none
  | some (.ex e ρ) => some (.ex e ρ)
  | some (.ok u ρ) => f u ρ
theorem bindAS_some {a : Option AO} {f : List U → Env → Option SO} {o : SO} (h : bindAS a f = some o) : (∃ u ρ', a = some (.ok u ρ') ∧ f u ρ' = some o) ∨ ∃ e ρ', a = some (.ex e ρ') ∧ o = .ex e ρ' := by
  cases a with
  | none => cases h
  | some x =>
    cases x with
    | ok u ρ => exact .inl ⟨u, ρ, rfl, h⟩
    | ex e ρ => exact .inr ⟨e, ρ, rfl, (Option.some.inj h).symm⟩
def bindTS (a : Option TOu) (f : Bool → Env → Option SO) : Option SO :=
  match a with
  | none => none
  | some (.ex e ρ) => some (.ex e ρ)
  | some (.ok u ρ) => f u ρ
theorem bindTS_some {a : Option TOu} {f : Bool → Env → Option SO} {o : SO} (h : bindTS a f = some o) : (∃ u ρ', a = some (.ok u ρ') ∧ f u ρ' = some o) ∨ ∃ e ρ', a = some (.ex e ρ') ∧ o = .ex e ρ' := by
  cases a with
  | none => cases h
  | some x =>
    cases x with
    | ok u ρ => exact .inl ⟨u, ρ, rfl, h⟩
    | ex e ρ => exact .inr ⟨e, ρ, rfl, (Option.some.inj h).symm⟩
def msNil : MS K where
  t := fun _ => tNext
  m := fun ρ => some (.nx ρ)
  ok := fun F W ρ σ B H D o e R f => by cases e; exact f σ B H Ex.refl R
def thenS (a : Option SO) (f : Env → Option SO) : Option SO :=
  match a with
  | some (.nx ρ) => f ρ
  | o => o
def msSeq (a b : MS K) : MS K where
  t := fun W => tSeq (a.t W) (b.t W)
  m := fun ρ => thenS (a.m ρ) b.m
  ok := fun F W ρ σ B H D o e R f => by
    cases ea : a.m ρ with
    | none => rw [ea] at e; cases e
    | some x =>
      rw [ea] at e
      refine a.ok F W ρ σ B H _ x ea R ?_
      cases x with
      | nx ρ1 => exact fun σ1 B1 H1 x1 R1 => b.ok F W ρ1 σ1 B1 H1 D o e R1 (f.mono x1)
      | bk ρ1 => cases e; exact f
      | ct ρ1 => cases e; exact f
      | rt r ρ1 => cases e; exact FinR.mono (o := .rt r ρ1) Ex.refl rfl f
      | ex r ρ1 => cases e; exact f
def msIf (c : MT K) (a b : MS K) : MS K where
  t := fun W => tIfS (c.t W) (a.t W) (b.t W)
  m := fun ρ => bindTS (c.m ρ) fun x ρ1 => if x = true then a.m ρ1 else b.m ρ1
  ok := fun F W ρ σ B H D o e R f => by
    rcases bindTS_some e with ⟨x, ρ1, e1, e⟩ | ⟨x, ρ1, e1, rfl⟩
    · refine c.ok F W ρ σ B H _ _ e1 R fun B1 H1 x1 p1 R1 => ?_
      cases x with
      | true =>
        rw [if_pos rfl] at e ⊢
        exact a.ok F W ρ1 σ B1 H1 D o e R1 (f.mono x1)
      | false =>
        rw [if_neg (by decide)] at e ⊢
        exact b.ok F W ρ1 σ B1 H1 D o e R1 (f.mono x1)
    · exact c.ok F W ρ σ B H _ _ e1 R fun cls d B1 H1 x1 R1 xr => f cls d σ B1 H1 x1 R1 xr
def msAsg (e : ME K) (g : MG K) (h : e.k = true := by exact id rfl) : MS K where
  t := fun W => tAsg (e.t W) g.t
  m := fun ρ => bindES (e.m ρ) fun u ρ1 => (g.m u ρ1).map .nx
  ok := fun F W ρ σ B H D o q R f => by
    rcases bindES_some q with ⟨u, ρ1, e1, q⟩ | ⟨x, ρ1, e1, rfl⟩
    · refine e.ok F W ρ σ B H _ _ e1 R fun v1 B1 H1 x1 p1 R1 r1 => ?_
      obtain ⟨ρ2, e2, rfl⟩ := Option.map_eq_some_iff.mp q
      rw [h] at r1
      exact g.ok F ρ1 ρ2 σ B1 H1 u v1 _ e2 R1 r1 fun σ' R2 _ _ => f σ' B1 H1 x1 R2
    · exact e.ok F W ρ σ B H _ _ e1 R fun cls d B1 H1 x1 R1 xr => f cls d σ B1 H1 x1 R1 xr
def msAsgF (e : MF K) (i : Nat) : MS K where
  t := fun W => tAsg (e.t W) (gName i)
  m := fun ρ => bindAS (e.m ρ) fun us ρ1 => some (.nx (ρ1.set i (.cel true us)))
  ok := fun F W ρ σ B H D o q R f => by
    rcases bindAS_some q with ⟨us, ρ1, e1, q⟩ | ⟨x, ρ1, e1, rfl⟩
    · cases q
      exact e.ok F W ρ σ B H _ _ e1 R fun q ws B1 H1 x1 p1 R1 h1 h2 h3 h4 h5 r1 => f _ B1 H1 x1 (R1.setC h1 h2 r1 h3 h4 h5)
    · exact e.ok F W ρ σ B H _ _ e1 R fun cls d B1 H1 x1 R1 xr => f cls d σ B1 H1 x1 R1 xr
def msDrop (e : ME K) : MS K where
  t := fun W => tDrop (e.t W)
  m := fun ρ => bindES (e.m ρ) fun _ ρ1 => some (.nx ρ1)
  ok := fun F W ρ σ B H D o q R f => by
    rcases bindES_some q with ⟨u, ρ1, e1, q⟩ | ⟨x, ρ1, e1, rfl⟩
    · cases q
      exact e.ok F W ρ σ B H _ _ e1 R fun v1 B1 H1 x1 p1 R1 r1 => f σ B1 H1 x1 R1
    · exact e.ok F W ρ σ B H _ _ e1 R fun cls d B1 H1 x1 R1 xr => f cls d σ B1 H1 x1 R1 xr
def msRet (e : ME K) (h : e.k = true := by exact id rfl) : MS K where
  t := fun W => tRet (e.t W)
  m := fun ρ => bindES (e.m ρ) fun u ρ1 => some (.rt (.val u) ρ1)
  ok := fun F W ρ σ B H D o q R f => by
    rcases bindES_some q with ⟨u, ρ1, e1, q⟩ | ⟨x, ρ1, e1, rfl⟩
    · cases q
      refine e.ok F W ρ σ B H _ _ e1 R fun v1 B1 H1 x1 p1 R1 r1 => ?_
      rw [h] at r1
      exact f v1 σ B1 H1 x1 R1 r1
    · exact e.ok F W ρ σ B H _ _ e1 R fun cls d B1 H1 x1 R1 xr => f cls d σ B1 H1 x1 R1 xr
def msRetF (e : MF K) : MS K where
  t := fun W => tRet (e.t W)
  m := fun ρ => bindAS (e.m ρ) fun us ρ1 => some (.rt (.cel us) ρ1)
  ok := fun F W ρ σ B H D o q R f => by
    rcases bindAS_some q with ⟨us, ρ1, e1, q⟩ | ⟨x, ρ1, e1, rfl⟩
    · cases q
      exact e.ok F W ρ σ B H _ _ e1 R fun q ws B1 H1 x1 p1 R1 h1 h2 h3 h4 h5 r1 => f q ws σ B1 H1 x1 R1 h1 h2 h3 r1
    · exact e.ok F W ρ σ B H _ _ e1 R fun cls d B1 H1 x1 R1 xr => f cls d σ B1 H1 x1 R1 xr
def msRaise (c : Str) : MS K where
  t := fun W => fun _ σ H => W (.ref (He.ga K c)) none σ H
  m := fun ρ => some (.ex ⟨c, none⟩ ρ)
  ok := fun F W ρ σ B H D o q R f => by cases q; exact f _ none σ B H Ex.refl R ⟨⟨rfl, rfl⟩, fun _ h => nomatch h⟩
def ItOk (K : PySem.W.Frag) (B : Hp) (us : List U) (J : It) : Prop :=
  ∀ (i : Nat) (B1 H1 : Hp), Ex B B1 → Ex B1 H1 → (us.length ≤ i → J.stop i H1) ∧ ∀ u, us[i]? = some u → J.go i H1 ∧ ∀ x H2, J.yld i H1 x H2 → ∃ B2, Go [] B1 H1 B2 H2 ∧ Rep K B2 u x
def FinI (K : PySem.W.Frag) (F : Fc) (W : WX) (ρ : Env) (σ : St) (B H : Hp) (R : It → Hp → Prop) : AO → Prop
  | .ok us ρ' => ∀ J B' H', Ex B B' → Rel K F ρ' σ B' H' → ItOk K B' us J → R J H'
  | .ex e ρ' => ∀ cls d B' H', Ex B B' → Rel K F ρ' σ B' H' → XRel K F e cls d H' → W cls d σ H'
structure MI (K : PySem.W.Frag) where
  t : WX → TI
  m : Env → Option AO
  ok : ∀ (F : Fc) (W : WX) (ρ : Env) (σ : St) (B H : Hp) (R : It → Hp → Prop) (o : AO), m ρ = some o → Rel K F ρ σ B H → FinI K F W ρ σ B H R o → t W σ H R
def loopM (g : U → Env → Option Env) (b : Env → Option SO) (kl : List Nat) : List U → Env → Option SO
  | [], ρ => some (.nx ρ)
  | u :: us, ρ => match g u ρ with
    | none => none
    | some ρ1 => match b ρ1 with
      | none => none
      | some (.nx ρ2) => loopM g b kl us (kills ρ2 kl)
      | some (.ct ρ2) => loopM g b kl us (kills ρ2 kl)
      | some (.bk ρ2) => some (.nx (kills ρ2 kl))
      | some (.rt r ρ2) => some (.rt r ρ2)
      | some (.ex e ρ2) => some (.ex e ρ2)
theorem Rel.killAll {F : Fc} {ρ : Env} {σ : St} {B H : Hp} (R : Rel K F ρ σ B H) : ∀ is : List Nat, Rel K F (kills ρ is) σ B H
  | [] => R
  | _ :: is => (Rel.killAll R is).kill
def msFor (it : MI K) (g : MG K) (b : MS K) (kl : List Nat) : MS K where
  t := fun W => tFor (it.t W) g.t (b.t W)
  m := fun ρ => bindAS (it.m ρ) fun us ρ1 => loopM g.m b.m kl us ρ1
  ok := fun F W ρ σ B H D o q R f => by
    rcases bindAS_some q with ⟨us, ρ1, e1, q⟩ | ⟨x, ρ1, e1, rfl⟩
    · refine it.ok F W ρ σ B H _ _ e1 R fun J B1 H1 x1 R1 ji => ?_
      refine ⟨fun i m σ' H' => m = us.length - i ∧ i ≤ us.length ∧ ∃ ρ' B', Ex B1 B' ∧ Rel K F ρ' σ' B' H' ∧ loopM g.m b.m kl (us.drop i) ρ' = some o, ⟨us.length, rfl, Nat.zero_le _, ρ1, B1, Ex.refl, R1, q⟩, ?_⟩
      rintro i m σ' H' ⟨rfl, hi, ρ', B', xb, R', e'⟩
      obtain ⟨j1, j2⟩ := ji i B' H' xb R'.ex
      by_cases hlt : i < us.length
      · obtain ⟨jg, jy⟩ := j2 us[i] (List.getElem?_eq_getElem hlt)
        refine .inr ⟨jg, fun σ2 H2 => ∃ ρ2 B2, Ex B1 B2 ∧ Rel K F ρ2 σ2 B2 H2 ∧ loopM g.m b.m kl (us.drop (i + 1)) ρ2 = some o, fun σ2 H2 h => ⟨us.length - (i + 1), by omega, rfl, hlt, h⟩, fun x H2 y => ?_⟩
        obtain ⟨B2, gg, rx⟩ := jy x H2 y
        rw [List.drop_eq_getElem_cons hlt] at e'
        unfold loopM at e'
        split at e'
        · cases e'
        · rename_i ρ3 eg
          refine g.ok F ρ' ρ3 σ' B2 H2 _ x _ eg (R'.grow gg) rx fun σ3 R3 _ _ => ?_
          have xb2 : Ex B1 B2 := xb.trans gg.bb
          have xB : Ex B B2 := x1.trans xb2
          split at e'
          · cases e'
          · rename_i ρ4 eb
            exact b.ok F W ρ3 σ3 B2 H2 _ _ eb R3 fun σ4 B4 H4 x4 R4 => ⟨_, B4, xb2.trans x4, R4.killAll kl, e'⟩
          · rename_i ρ4 eb
            exact b.ok F W ρ3 σ3 B2 H2 _ _ eb R3 fun σ4 B4 H4 x4 R4 => ⟨_, B4, xb2.trans x4, R4.killAll kl, e'⟩
          · rename_i ρ4 eb
            cases e'
            exact b.ok F W ρ3 σ3 B2 H2 _ _ eb R3 fun σ4 B4 H4 x4 R4 => f σ4 B4 H4 (xB.trans x4) (R4.killAll kl)
          · rename_i r ρ4 eb
            cases e'
            exact b.ok F W ρ3 σ3 B2 H2 _ _ eb R3 (FinR.mono (o := .rt r ρ4) xB rfl f)
          · rename_i r ρ4 eb
            cases e'
            exact b.ok F W ρ3 σ3 B2 H2 _ _ eb R3 fun cls d σ4 B4 H4 x4 R4 xr => f cls d σ4 B4 H4 (xB.trans x4) R4 xr
      · have ei : i = us.length := by omega
        subst ei
        rw [List.drop_length] at e'
        cases e'
        exact .inl ⟨j1 (Nat.le_refl _), f σ' B' H' (x1.trans xb) R'⟩
    · exact it.ok F W ρ σ B H _ _ e1 R fun cls d B1 H1 x1 R1 xr => f cls d σ B1 H1 x1 R1 xr
end Sg
set_option Elab.async false
set_option linter.all false
set_option maxRecDepth 100000
set_option maxHeartbeats 4000000
namespace Sg
open PySem L2
variable {K : PySem.W.Frag}
def Fc.push (F : Fc) (D : Addr) (o : HO) : Fc := { F with X := (D, o) :: F.X }
theorem XRel.pop {F : Fc} {D : Addr} {o : HO} {e : Exn} {cls : Value} {d : Option Addr} {H' : Hp} (x : XRel K (F.push D o) e cls d H') : XRel K F e cls d H' := XRel.sub (F := F.push D o) rfl (fun _ h => List.mem_cons_of_mem _ h) x
theorem Rel.addX {F : Fc} {ρ : Env} {σ : St} {B H : Hp} {D : Addr} {o : HO} (R : Rel K F ρ σ B H) (h : H D = none) : Rel K (F.push D o) ρ σ B (upd H D o) := by
  have g := Go.newC (o := o) R.ex h
  have R2 := R.grow g
  refine ⟨R2.len, R2.ex, R2.sl, R2.ds, R2.bb, R2.hh, R2.th, R2.nw, fun a u e => ?_, fun a u e j s es => ?_, ?_, ?_⟩
  · rcases List.mem_cons.mp e with e | e
    · cases e; exact ⟨upd_same, R.ex.none h, R.fresh0 h⟩
    · exact R2.xx a u e
  · rcases List.mem_cons.mp e with e | e
    · cases e; rw [R.ow_eq g es]; exact R.notC h j s es
    · exact R2.xs a u e j s es
  · show ((D, o) :: F.X |>.map (·.1)).Nodup
    rw [List.map_cons, List.nodup_cons]
    refine ⟨fun hm => ?_, R.xd⟩
    obtain ⟨⟨a, u⟩, hu, e⟩ := List.mem_map.mp hm
    have e' : a = D := e
    rw [e'] at hu
    rw [(R.xx D u hu).1] at h; cases h
  · exact R.ln
theorem Rel.getX {F : Fc} {ρ : Env} {σ : St} {B H : Hp} {D : Addr} {o : HO} (R : Rel K (F.push D o) ρ σ B H) : H D = some o ∧ B D = none ∧ F.H0 D = none := R.xx D o List.mem_cons_self
theorem Rel.updX {F : Fc} {ρ : Env} {σ : St} {B H : Hp} {D : Addr} {o o' : HO} (R : Rel K (F.push D o) ρ σ B H) : Rel K (F.push D o') ρ σ B (upd H D o') := by
  obtain ⟨h1, h2, h3⟩ := R.getX
  have nd : D ∉ F.X.map (·.1) := (List.nodup_cons.mp R.xd).1
  have g := Go.wr (o := o') R.ex h2
  have hs : ∀ (j : Nat) s, ρ[j]? = some s → SlotOk K (F.push D o) B (upd H D o') s (σ.getD j none) ∧ s.ow (upd H D o') (σ.getD j none) = s.ow H (σ.getD j none) := fun j s e => (R.sl j s e).move Ex.refl fun z hz => ⟨by rw [upd_ne fun y => R.xs D o List.mem_cons_self j s e (by rw [← y]; exact hz)], (R.owned e hz).2.1⟩
  refine ⟨R.len, g.bh, fun i s e => ?_, fun i j s t p ne e1 e2 q1 q2 => ?_, R.bb, fun a u n e => ?_, fun a u e => ?_, R.nw, fun a u e => ?_, fun a u e j s es hm => ?_, ?_, R.ln⟩
  · have q := (hs i s e).1
    cases s <;> exact q
  · rw [(hs i s e1).2] at q1; rw [(hs j t e2).2] at q2
    exact R.ds i j s t p ne e1 e2 q1 q2
  · have e' : F.H0 a = some u := e
    have np : a ≠ D := fun c => by rw [c, h3] at e'; cases e'
    rw [upd_ne np]; exact R.hh a u n e
  · obtain ⟨o', h'⟩ := R.th a u e
    exact g.th a o' h'
  · rcases List.mem_cons.mp e with e | e
    · cases e; exact ⟨upd_same, h2, h3⟩
    · obtain ⟨z1, z2, z3⟩ := R.xx a u (List.mem_cons_of_mem _ e)
      have np : a ≠ D := fun c => nd (List.mem_map.mpr ⟨(a, u), e, c⟩)
      exact ⟨by rw [upd_ne np]; exact z1, z2, z3⟩
  · rw [(hs j s es).2] at hm
    rcases List.mem_cons.mp e with e | e
    · cases e; exact R.xs D o List.mem_cons_self j s es hm
    · exact R.xs a u (List.mem_cons_of_mem _ e) j s es hm
  · exact R.xd
theorem Rel.popX {F : Fc} {ρ : Env} {σ : St} {B H : Hp} {D : Addr} {o : HO} (R : Rel K (F.push D o) ρ σ B H) : Rel K F ρ σ B H :=
  ⟨R.len, R.ex, R.sl, R.ds, R.bb, R.hh, R.th, R.nw, fun a u e => R.xx a u (List.mem_cons_of_mem _ e), fun a u e => R.xs a u (List.mem_cons_of_mem _ e), (List.nodup_cons.mp R.xd).2, R.ln⟩
theorem Rel.notX {F : Fc} {ρ : Env} {σ : St} {B H : Hp} {D : Addr} {o : HO} (R : Rel K (F.push D o) ρ σ B H) : ∀ u, (D, u) ∉ F.X := fun u h =>
  (List.nodup_cons.mp R.xd).1 (List.mem_map.mpr ⟨(D, u), h, rfl⟩)
theorem wipe_get (σ : St) : ∀ (vs : List Nat) (j : Nat), (wipe σ vs)[j]? = if j ∈ vs then (if j < σ.length then some none else none) else σ[j]?
  | [], j => by simp [wipe]
  | v :: vs, j => by
    unfold wipe
    rw [List.getElem?_set, wipe_length, wipe_get σ vs j]
    by_cases c : v = j
    · subst c; simp
    · rw [if_neg c]
      have : (j ∈ v :: vs) ↔ j ∈ vs := by simp [Ne.symm c]
      simp only [this]
theorem wipe_eq {σ σ' : St} {vs : List Nat} (hl : σ'.length = σ.length) (h : ∀ j, j ∉ vs → σ'[j]? = σ[j]?) : wipe σ' vs = wipe σ vs := by
  apply List.ext_getElem?
  intro j
  rw [wipe_get, wipe_get, hl]
  by_cases c : j ∈ vs
  · rw [if_pos c, if_pos c]
  · rw [if_neg c, if_neg c, h j c]
theorem wipe_wipe (σ : St) (vs : List Nat) : wipe (wipe σ vs) vs = wipe σ vs := wipe_eq (wipe_length σ vs) fun j c => by rw [wipe_get, if_neg c]
theorem Rel.wiped {F : Fc} {ρ : Env} {σ : St} {B H : Hp} (R : Rel K F ρ σ B H) : ∀ vs : List Nat, Rel K F (kills ρ vs) (wipe σ vs) B H
  | [] => R
  | _ :: vs => (Rel.wiped R vs).killσ
theorem kills_get (ρ : Env) : ∀ (vs : List Nat) (j : Nat), j ∈ vs → ∀ s, (kills ρ vs)[j]? = some s → s = .non
  | v :: vs, j, h, s, e => by
    unfold kills at e
    rw [List.getElem?_set] at e
    by_cases c : v = j
    · rw [if_pos c] at e
      split at e
      · exact (Option.some.inj e).symm
      · cases e
    · rw [if_neg c] at e
      exact kills_get ρ vs j (by rcases List.mem_cons.mp h with q | q; exact absurd q.symm c; exact q) s e
theorem Rel.unwipe {F : Fc} {ρ : Env} {σ : St} {B H : Hp} {vs : List Nat} (R : Rel K F (kills ρ vs) (L2.wipe σ vs) B H) : Rel K F (kills ρ vs) σ B H := by
  have gd : ∀ j, j ∉ vs → (L2.wipe σ vs).getD j none = σ.getD j none := fun j c => by
    rw [List.getD_eq_getElem?_getD, List.getD_eq_getElem?_getD, wipe_get, if_neg c]
  have nc : ∀ (j : Nat) s p, (kills ρ vs)[j]? = some s → p ∈ s.ow H (σ.getD j none) → j ∉ vs := fun j s p e c hm => by
    rw [kills_get ρ vs j hm s e] at c; cases c
  refine ⟨by have := R.len; rw [wipe_length] at this; exact this, R.ex, fun j s e => ?_, fun i j s t p ne e1 e2 h1 h2 => ?_, R.bb, R.hh, R.th, R.nw, R.xx, fun a o h j s e hm => ?_, R.xd, fun j s e l => ?_⟩
  rotate_left 3
  · by_cases hm : j ∈ vs
    · rw [kills_get ρ vs j hm s e] at l; cases l
    · rw [← gd j hm]; exact R.ln j s e l
  · by_cases hm : j ∈ vs
    · rw [kills_get ρ vs j hm s e]; trivial
    · rw [← gd j hm]; exact R.sl j s e
  · have n1 := nc i s p e1 h1
    have n2 := nc j t p e2 h2
    rw [← gd i n1] at h1
    rw [← gd j n2] at h2
    exact R.ds i j s t p ne e1 e2 h1 h2
  · have n1 := nc j s a e hm
    rw [← gd j n1] at hm; exact R.xs a o h j s e hm
theorem notW {F : Fc} {ρ : Env} {σ : St} {B H : Hp} {vs : List Nat} {D : Addr} {o : HO} (R : Rel K F (kills ρ vs) (L2.wipe σ vs) B H) (h : (D, o) ∈ F.X) (j : Nat) (s : Slot) (es : (kills ρ vs)[j]? = some s) : D ∉ s.ow H (σ.getD j none) := fun c => by
  have hj : j ∉ vs := fun hm => by rw [kills_get ρ vs j hm s es] at c; cases c
  have R8 := R.xs D o h j s es
  rw [List.getD_eq_getElem?_getD, wipe_get, if_neg hj, ← List.getD_eq_getElem?_getD] at R8
  exact R8 c
structure MTs (K : PySem.W.Frag) where
  t : WX → TT
  m : Env → Option TOu
  ok : ∀ (F : Fc) (W : WX) (ρ : Env) (σ : St) (B H : Hp) (Q : Bool → Hp → Prop) (o : TOu), m ρ = some o → Rel K F ρ σ B H → FinT K F W false ρ σ B H Q o → t W σ H Q
def mtYes : MTs K where
  t := fun _ => tYes
  m := fun ρ => some (.ok true ρ)
  ok := fun F W ρ σ B H Q o e R f => by cases e; exact f B H Ex.refl (fun z => nomatch z) R
def WNo : WX := fun _ _ _ _ => False
def lcM (g : U → Env → Option Env) (tt : Env → Option TOu) (e : Env → Option EO) (vs : List Nat) : List U → List U → Env → Option AO
  | [], acc, ρ => some (.ok acc ρ)
  | u :: us, acc, ρ => match g u ρ with
    | none => none
    | some ρ1 => match tt ρ1 with
      | some (.ok false ρ2) => lcM g tt e vs us acc (kills ρ2 vs)
      | some (.ok true ρ2) => match e ρ2 with
        | some (.ok w ρ3) => if acc.length < 16777216 then lcM g tt e vs us (acc ++ [w]) (kills ρ3 vs) else none
        | _ => none
      | _ => none
def mLc (it : MI K) (g : MG K) (tt : MTs K) (e : ME K) (vs : List Nat) (hg : (g.is.all fun i => vs.contains i) = true := by exact id rfl) (hk : e.k = true := by exact id rfl) : MF K where
  t := fun W => tLc (it.t W) g.t (tt.t WNo) (e.t WNo) vs
  m := fun ρ => match it.m ρ with
    | some (.ok us ρ1) => lcM g.m tt.m e.m vs us [] (kills ρ1 vs)
    | o => o
  p := false
  ok := fun F W ρ σ B H Q out q R f => by
    have sub : ∀ j, j ∉ vs → j ∉ g.is := fun j c hm => c (by
      have := List.all_eq_true.mp hg j hm
      simpa using this)
    split at q
    · rename_i us ρ1 e1
      refine it.ok F W ρ σ B H _ _ e1 R fun J B1 H1 x1 R1 ji => ?_
      intro D hD
      refine ⟨fun i m H' => m = us.length - i ∧ i ≤ us.length ∧ ∃ ρ' B' acc ws, Ex B1 B' ∧ Rel K (F.push D (.lst ws)) (kills ρ' vs) (wipe σ vs) B' H' ∧ RepL K B' acc ws ∧ lcM g.m tt.m e.m vs (us.drop i) acc (kills ρ' vs) = some out,
        ⟨us.length, rfl, Nat.zero_le _, ρ1, B1, [], [], Ex.refl, (R1.wiped vs).addX hD, rfl, q⟩, ?_⟩
      rintro i m H' ⟨rfl, hi, ρ', B', acc, ws, xb, R', ra, e'⟩
      obtain ⟨j1, j2⟩ := ji i B' H' xb R'.ex
      by_cases hlt : i < us.length
      · obtain ⟨jg, jy⟩ := j2 us[i] (List.getElem?_eq_getElem hlt)
        refine .inr ⟨jg, fun H2 => ∃ ρ2 B2 acc2 ws2, Ex B1 B2 ∧ Rel K (F.push D (.lst ws2)) (kills ρ2 vs) (wipe σ vs) B2 H2 ∧ RepL K B2 acc2 ws2 ∧ lcM g.m tt.m e.m vs (us.drop (i + 1)) acc2 (kills ρ2 vs) = some out, fun H2 h => ⟨us.length - (i + 1), by omega, rfl, hlt, h⟩, fun x H2 y => ?_⟩
        obtain ⟨B2, gg, rx⟩ := jy x H2 y
        rw [List.drop_eq_getElem_cons hlt] at e'
        unfold lcM at e'
        split at e'
        · cases e'
        · rename_i ρ3 eg
          refine g.ok _ _ ρ3 (wipe σ vs) B2 H2 _ x _ eg (R'.grow gg) rx fun σ3 R3 hl hs => ?_
          have hw : wipe σ3 vs = wipe σ vs := by
            rw [wipe_eq (σ := wipe σ vs) hl fun j c => hs j (sub j c), wipe_wipe]
          refine ⟨hw, ?_⟩
          split at e'
          · rename_i ρ4 et
            refine tt.ok _ WNo ρ3 σ3 B2 H2 _ _ et R3 fun B4 H4 x4 _ R4 => ?_
            have R5 := R4.wiped vs
            rw [hw] at R5
            exact ⟨ρ4, B4, acc, ws, (xb.trans gg.bb).trans x4, R5, RepL.mono (gg.bb.trans x4) _ _ ra, e'⟩
          · rename_i ρ4 et
            refine tt.ok _ WNo ρ3 σ3 B2 H2 _ _ et R3 fun B4 H4 x4 _ R4 => ?_
            rw [if_pos rfl]
            split at e'
            · rename_i w ρ5 ee
              split at e'
              · rename_i hlen
                refine e.ok _ WNo ρ4 σ3 B4 H4 _ _ ee R4 fun v5 B5 H5 x5 _ R5 r5 => ?_
                rw [hk] at r5
                have xx : Ex B' B5 := (gg.bb.trans x4).trans x5
                have ra5 := RepL.mono xx _ _ ra
                refine ⟨ws, R5.getX.1, by rw [ra5.length, PySem.sizeLine_eq]; exact hlen, ρ5, B5, acc ++ [w], ws ++ [v5], xb.trans xx, ?_, RepL.append ra5 (RepL.one r5), e'⟩
                have R6 := (R5.updX (o' := .lst (ws ++ [v5]))).wiped vs
                rw [hw] at R6
                exact R6
              · cases e'
            · cases e'
          · cases e'
      · have ei : i = us.length := by omega
        subst ei
        rw [List.drop_length] at e'
        cases e'
        refine .inl ⟨j1 (Nat.le_refl _), ?_⟩
        obtain ⟨h1, h2, h3⟩ := R'.getX
        have R7 := R'.popX.unwipe
        refine f D ws B' H' (x1.trans xb) (fun z => nomatch z) R7 h1 h2 h3 (notW R' List.mem_cons_self) R'.notX ra
    · rename_i h2
      cases o : it.m ρ with
      | none => rw [o] at q; cases q
      | some x =>
        rw [o] at q; cases q
        cases out with
        | ok us ρ1 => exact absurd o (h2 us ρ1)
        | ex x ρ1 => exact it.ok F W ρ σ B H _ _ o R fun cls d B1 H1 x1 R1 xr => f cls d B1 H1 x1 R1 xr
inductive CO where
  | val (u : U) (c : Option (List U))
  | cel (us : List U) (c : Option (List U))
  | ex (e : Exn) (c : Option (List U))
def ArgsOk (K : PySem.W.Frag) (B H : Hp) : List Slot → List V → Prop
  | [], vs => vs = []
  | .val u :: r, vs => ∃ v vr, vs = v :: vr ∧ Rep K B u v ∧ ArgsOk K B H r vr
  | .cel _ us :: r, vs => ∃ p ws vr, vs = .ref p :: vr ∧ H p = some (.lst ws) ∧ B p = none ∧ RepL K B us ws ∧ ArgsOk K B H r vr
  | _ :: _, _ => False
def cellsOf : List Slot → List V → List Addr
  | .cel _ _ :: r, .ref p :: vs => p :: cellsOf r vs
  | _ :: r, _ :: vs => cellsOf r vs
  | _, _ => []
def nCel (as : List Slot) : Nat := (as.filter Slot.isC).length
def CellOk (K : PySem.W.Frag) (B H : Hp) (M : List Addr) (c : Option (List U)) : Prop :=
  ∀ p ∈ M, ∃ us ws, c = some us ∧ H p = some (.lst ws) ∧ B p = none ∧ RepL K B us ws
def FinC (K : PySem.W.Frag) (B H : Hp) (M : List Addr) (Q : VK) (E : XK) : CO → Prop
  | .val u c => ∀ v B' H', Go M B H B' H' → CellOk K B' H' M c → Rep K B' u v → Q v H'
  | .cel us c => ∀ q ws B' H', Go M B H B' H' → CellOk K B' H' M c → H' q = some (.lst ws) → B' q = none → H q = none → q ∉ M → RepL K B' us ws → Q (.ref q) H'
  | .ex e c => ∀ cls d B' H', Go M B H B' H' → CellOk K B' H' M c → XRelC K H e cls d H' → E cls d H'
def spM (K : PySem.W.Frag) (n : Nat) (mf : List Slot → Option CO) : Sp := fun vs H Q E => ∃ (B : Hp) (as : List Slot) (o : CO),
  Ex B H ∧ as.length = n ∧ ArgsOk K B H as vs ∧ nCel as ≤ 1 ∧ mf as = some o ∧ FinC K B H (cellsOf as vs) Q E o
theorem ArgsOk.length {B H : Hp} : ∀ {as : List Slot} {vs : List V}, ArgsOk K B H as vs → vs.length = as.length
  | [], _, h => by cases h; rfl
  | .val u :: r, _, h => by
    obtain ⟨v, vr, rfl, _, h2⟩ := h
    simp [ArgsOk.length h2]
  | .cel _ us :: r, _, h => by
    obtain ⟨p, ws, vr, rfl, _, _, _, h2⟩ := h
    simp [ArgsOk.length h2]
  | .non :: _, _, h => h.elim
  | .celD _ _ :: _, _, h => h.elim
  | .lck _ :: _, _, h => h.elim
  | .nam _ _ :: _, _, h => h.elim
  | .obj _ _ _ :: _, _, h => h.elim
  | .fld _ _ :: _, _, h => h.elim
theorem spM_len {n : Nat} {mf : List Slot → Option CO} (vs : List V) (H : Hp) (Q : VK) (E : XK) (h : spM K n mf vs H Q E) : vs.length = n := by
  obtain ⟨B, as, o, _, e, a, _⟩ := h
  rw [a.length, e]
def unown : Slot → Slot
  | .cel _ us => .cel false us
  | s => s
def cellAt : List Slot → Env → Option (Option (List U))
  | [], _ => some none
  | .cel _ _ :: _, s :: _ => match s with
    | .cel false us => some (some us)
    | _ => none
  | _ :: r, _ :: ρ => cellAt r ρ
  | _, _ => none
def mfOf (N : Nat) (body : Env → Option SO) (as : List Slot) : Option CO :=
  match body (as.map unown ++ List.replicate (N - as.length) .non) with
  | some (.nx ρ) => (cellAt as ρ).map fun c => .val .non c
  | some (.rt (.val u) ρ) => (cellAt as ρ).map fun c => .val u c
  | some (.rt (.cel us) ρ) => (cellAt as ρ).map fun c => .cel us c
  | some (.ex e ρ) => (cellAt as ρ).map fun c => .ex e c
  | _ => none
def mfOf0 (N : Nat) (body : Env → Option SO) (as : List Slot) : Option CO :=
  match mfOf N body as with
  | some (.ex _ _) => none
  | o => o
theorem cells_mem {B H : Hp} : ∀ {as : List Slot} {vs : List V} {i : Nat} {own : Bool} {us : List U}, ArgsOk K B H as vs → as[i]? = some (.cel own us) → ∃ p ws, vs[i]? = some (.ref p) ∧ p ∈ cellsOf as vs ∧ H p = some (.lst ws) ∧ B p = none ∧ RepL K B us ws
  | .val u :: r, _, i, own, us, h, e => by
    obtain ⟨v, vr, rfl, h1, h2⟩ := h
    cases i with
    | zero => cases e
    | succ i =>
      obtain ⟨p, ws, e1, e2, e3⟩ := cells_mem h2 (by simpa using e)
      exact ⟨p, ws, by simpa using e1, by simpa [cellsOf] using e2, e3⟩
  | .cel own' us' :: r, _, i, own, us, h, e => by
    obtain ⟨p, ws, vr, rfl, h0, h1, h2, h3⟩ := h
    cases i with
    | zero => cases e; exact ⟨p, ws, rfl, by simp [cellsOf], h0, h1, h2⟩
    | succ i =>
      obtain ⟨p', ws', e1, e2, e3⟩ := cells_mem h3 (by simpa using e)
      exact ⟨p', ws', by simpa using e1, by simp [cellsOf, e2], e3⟩
  | [], _, _, _, _, _, e => by simp at e
  | .non :: _, _, _, _, _, h, _ => h.elim
  | .celD _ _ :: _, _, _, _, _, h, _ => h.elim
  | .lck _ :: _, _, _, _, _, h, _ => h.elim
  | .nam _ _ :: _, _, _, _, _, h, _ => h.elim
  | .obj _ _ _ :: _, _, _, _, _, h, _ => h.elim
  | .fld _ _ :: _, _, _, _, _, h, _ => h.elim
theorem args_val {B H : Hp} : ∀ {as : List Slot} {vs : List V} {i : Nat} {u : U}, ArgsOk K B H as vs → as[i]? = some (.val u) → ∃ v, vs[i]? = some v ∧ Rep K B u v
  | .val u :: r, _, i, w, h, e => by
    obtain ⟨v, vr, rfl, h1, h2⟩ := h
    cases i with
    | zero => cases e; exact ⟨v, rfl, h1⟩
    | succ i =>
      obtain ⟨v', e1, e2⟩ := args_val (i := i) h2 (by simpa using e)
      exact ⟨v', by simpa using e1, e2⟩
  | .cel own' us' :: r, _, i, w, h, e => by
    obtain ⟨p, ws, vr, rfl, h0, h1, h2, h3⟩ := h
    cases i with
    | zero => cases e
    | succ i =>
      obtain ⟨v', e1, e2⟩ := args_val (i := i) h3 (by simpa using e)
      exact ⟨v', by simpa using e1, e2⟩
  | [], _, _, _, _, e => by simp at e
  | .non :: _, _, _, _, h, _ => h.elim
  | .celD _ _ :: _, _, _, _, h, _ => h.elim
  | .lck _ :: _, _, _, _, h, _ => h.elim
  | .nam _ _ :: _, _, _, _, h, _ => h.elim
  | .obj _ _ _ :: _, _, _, _, h, _ => h.elim
  | .fld _ _ :: _, _, _, _, h, _ => h.elim
theorem cells_none {B H : Hp} : ∀ {as : List Slot} {vs : List V}, ArgsOk K B H as vs → ∀ p ∈ cellsOf as vs, B p = none ∧ ∃ ws, H p = some (.lst ws)
  | .val u :: r, _, h, p, hp => by
    obtain ⟨v, vr, rfl, h1, h2⟩ := h
    exact cells_none h2 p (by simpa [cellsOf] using hp)
  | .cel own' us' :: r, _, h, p, hp => by
    obtain ⟨p', ws, vr, rfl, h0, h1, h2, h3⟩ := h
    have hp' : p ∈ p' :: cellsOf r vr := hp
    rcases List.mem_cons.mp hp' with rfl | q
    · exact ⟨h1, ws, h0⟩
    · exact cells_none h3 p q
  | [], _, _, p, hp => by simp [cellsOf] at hp
  | .non :: _, _, h, _, _ => h.elim
  | .celD _ _ :: _, _, h, _, _ => h.elim
  | .lck _ :: _, _, h, _, _ => h.elim
  | .nam _ _ :: _, _, h, _, _ => h.elim
  | .obj _ _ _ :: _, _, h, _, _ => h.elim
  | .fld _ _ :: _, _, h, _, _ => h.elim
theorem nCel_one {as : List Slot} (h : nCel as ≤ 1) {i j : Nat} {s t : Slot} (hi : as[i]? = some s) (hj : as[j]? = some t) (ci : s.isC = true) (cj : t.isC = true) : i = j := by
  induction as generalizing i j with
  | nil => simp at hi
  | cons a r ih =>
    have hc : nCel (a :: r) = (if a.isC = true then 1 else 0) + nCel r := by
      unfold nCel
      rw [List.filter_cons]
      split <;> simp <;> omega
    have pos : ∀ {k : Nat} {u : Slot}, r[k]? = some u → u.isC = true → 0 < nCel r := fun {k u} hk cu => by
      unfold nCel
      exact List.length_pos_of_mem (List.mem_filter.mpr ⟨List.mem_of_getElem? hk, cu⟩)
    cases i with
    | zero =>
      cases j with
      | zero => rfl
      | succ j =>
        have e : a = s := by simpa using hi
        subst e
        have := pos (k := j) (by simpa using hj) cj
        rw [hc, if_pos ci] at h
        omega
    | succ i =>
      cases j with
      | zero =>
        have e : a = t := by simpa using hj
        subst e
        have := pos (k := i) (by simpa using hi) ci
        rw [hc, if_pos cj] at h
        omega
      | succ j =>
        have : nCel r ≤ 1 := by omega
        exact congrArg Nat.succ (ih this (by simpa using hi) (by simpa using hj))
theorem cells_one {B H : Hp} : ∀ {as : List Slot} {vs : List V}, ArgsOk K B H as vs → (cellsOf as vs).length = nCel as
  | .val u :: r, _, h => by
    obtain ⟨v, vr, rfl, h1, h2⟩ := h
    have := cells_one h2
    simpa [cellsOf, nCel, Slot.isC, List.filter_cons] using this
  | .cel own' us' :: r, _, h => by
    obtain ⟨p', ws, vr, rfl, h0, h1, h2, h3⟩ := h
    have := cells_one h3
    simp only [cellsOf, nCel, List.filter_cons, Slot.isC, if_true, List.length_cons]
    unfold nCel at this
    omega
  | [], _, h => by cases h; rfl
  | .non :: _, _, h => h.elim
  | .celD _ _ :: _, _, h => h.elim
  | .lck _ :: _, _, h => h.elim
  | .nam _ _ :: _, _, h => h.elim
  | .obj _ _ _ :: _, _, h => h.elim
  | .fld _ _ :: _, _, h => h.elim
theorem start_rel {B H : Hp} {as : List Slot} {vs : List V} {N : List Str} (x : Ex B H) (a : ArgsOk K B H as vs) (n1 : nCel as ≤ 1) (hn : as.length ≤ N.length) :
    Rel K ⟨B, H, cellsOf as vs, [], L2.start N vs, []⟩ (as.map unown ++ List.replicate (N.length - as.length) .non) (L2.start N vs) B H := by
  have hl := a.length
  have get : ∀ (i : Nat) s, (as.map unown ++ List.replicate (N.length - as.length) Slot.non)[i]? = some s → (i < as.length ∧ ∃ t, as[i]? = some t ∧ s = unown t) ∨ s = .non := fun i s e => by
    by_cases c : i < as.length
    · rw [List.getElem?_append_left (by simpa using c), List.getElem?_map] at e
      obtain ⟨t, e1, e2⟩ := Option.map_eq_some_iff.mp e
      exact .inl ⟨c, t, e1, e2.symm⟩
    · rw [List.getElem?_append_right (by simpa using c)] at e
      exact .inr (List.eq_of_mem_replicate (List.mem_of_getElem? e))
  have gv : ∀ i, i < as.length → (L2.start N vs).getD i none = vs[i]? := fun i c => by
    unfold L2.start
    rw [List.getD_eq_getElem?_getD, List.getElem?_append_left (by simpa [hl] using c), List.getElem?_map]
    have : i < vs.length := by omega
    rw [List.getElem?_eq_getElem this]
    rfl
  have cel : ∀ {s : Slot} {t : Slot}, s = unown t → s.isC = true → t.isC = true := fun {s t} e c => by
    subst e
    cases t <;> first | exact c | rfl
  refine ⟨by simp [L2.start, hl], x, fun i s e => ?_, fun i j s t p ne e1 e2 h1 h2 => ?_, Ex.refl, fun _ _ _ h => h, fun _ o h => ⟨o, h⟩, fun _ _ h _ => h, fun _ _ h => by simp at h, fun _ _ h => by simp at h, by simp, fun _ _ _ _ => rfl⟩
  · rcases get i s e with ⟨c, t, e1, rfl⟩ | rfl
    · rw [gv i c]
      cases t with
      | non => trivial
      | val u =>
        obtain ⟨v, e2, r⟩ := args_val a e1
        exact ⟨v, e2, r⟩
      | cel own us =>
        obtain ⟨p, ws, e2, hm, h1, h2, h3⟩ := cells_mem a e1
        exact ⟨p, ws, e2, h1, h2, h3, hm⟩
      | celD own us =>
        exfalso
        have bad : ∀ {as : List Slot} {vs : List V} {i : Nat}, ArgsOk K B H as vs → as[i]? = some (.celD own us) → False := by
          intro as
          induction as with
          | nil => intro vs i _ e; simp at e
          | cons w r ih =>
            intro vs i h e
            cases w with
            | non => exact h
            | val u =>
              obtain ⟨v, vr, rfl, _, h2⟩ := h
              cases i with
              | zero => cases e
              | succ i => exact ih h2 (by simpa using e)
            | cel _ _ =>
              obtain ⟨p, ws, vr, rfl, _, _, _, h2⟩ := h
              cases i with
              | zero => cases e
              | succ i => exact ih h2 (by simpa using e)
            | celD _ _ => exact h
            | lck _ => exact h
            | nam _ _ => exact h
            | obj _ _ _ => exact h
            | fld _ _ => exact h
        exact bad a e1
      | lck us =>
        exfalso
        have bad : ∀ {as : List Slot} {vs : List V} {i : Nat}, ArgsOk K B H as vs → as[i]? = some (.lck us) → False := by
          intro as
          induction as with
          | nil => intro vs i _ e; simp at e
          | cons w r ih =>
            intro vs i h e
            cases w with
            | non => exact h
            | val u =>
              obtain ⟨v, vr, rfl, _, h2⟩ := h
              cases i with
              | zero => cases e
              | succ i => exact ih h2 (by simpa using e)
            | cel _ _ =>
              obtain ⟨p, ws, vr, rfl, _, _, _, h2⟩ := h
              cases i with
              | zero => cases e
              | succ i => exact ih h2 (by simpa using e)
            | celD _ _ => exact h
            | lck _ => exact h
            | nam _ _ => exact h
            | obj _ _ _ => exact h
            | fld _ _ => exact h
        exact bad a e1
      | nam a0 us =>
        exfalso
        have bad : ∀ {as : List Slot} {vs : List V} {i : Nat}, ArgsOk K B H as vs → as[i]? = some (.nam a0 us) → False := by
          intro as
          induction as with
          | nil => intro vs i _ e; simp at e
          | cons w r ih =>
            intro vs i h e
            cases w with
            | non => exact h
            | val u =>
              obtain ⟨v, vr, rfl, _, h2⟩ := h
              cases i with
              | zero => cases e
              | succ i => exact ih h2 (by simpa using e)
            | cel _ _ =>
              obtain ⟨p, ws, vr, rfl, _, _, _, h2⟩ := h
              cases i with
              | zero => cases e
              | succ i => exact ih h2 (by simpa using e)
            | celD _ _ => exact h
            | lck _ => exact h
            | nam _ _ => exact h
            | obj _ _ _ => exact h
            | fld _ _ => exact h
        exact bad a e1
      | obj o0 c0 us =>
        exfalso
        have bad : ∀ {as : List Slot} {vs : List V} {i : Nat}, ArgsOk K B H as vs → as[i]? = some (.obj o0 c0 us) → False := by
          intro as
          induction as with
          | nil => intro vs i _ e; simp at e
          | cons w r ih =>
            intro vs i h e
            cases w with
            | non => exact h
            | val u =>
              obtain ⟨v, vr, rfl, _, h2⟩ := h
              cases i with
              | zero => cases e
              | succ i => exact ih h2 (by simpa using e)
            | cel _ _ =>
              obtain ⟨p, ws, vr, rfl, _, _, _, h2⟩ := h
              cases i with
              | zero => cases e
              | succ i => exact ih h2 (by simpa using e)
            | celD _ _ => exact h
            | lck _ => exact h
            | nam _ _ => exact h
            | obj _ _ _ => exact h
            | fld _ _ => exact h
        exact bad a e1
      | fld o0 us =>
        exfalso
        have bad : ∀ {as : List Slot} {vs : List V} {i : Nat}, ArgsOk K B H as vs → as[i]? = some (.fld o0 us) → False := by
          intro as
          induction as with
          | nil => intro vs i _ e; simp at e
          | cons w r ih =>
            intro vs i h e
            cases w with
            | non => exact h
            | val u =>
              obtain ⟨v, vr, rfl, _, h2⟩ := h
              cases i with
              | zero => cases e
              | succ i => exact ih h2 (by simpa using e)
            | cel _ _ =>
              obtain ⟨p, ws, vr, rfl, _, _, _, h2⟩ := h
              cases i with
              | zero => cases e
              | succ i => exact ih h2 (by simpa using e)
            | celD _ _ => exact h
            | lck _ => exact h
            | nam _ _ => exact h
            | obj _ _ _ => exact h
            | fld _ _ => exact h
        exact bad a e1
    · trivial
  · have c1 := ow_isC h1
    have c2 := ow_isC h2
    rcases get i s e1 with ⟨_, u, q1, z1⟩ | rfl
    · rcases get j t e2 with ⟨_, w, q2, z2⟩ | rfl
      · exact ne (nCel_one n1 q1 q2 (cel z1 c1) (cel z2 c2))
      · cases c2
    · cases c1
theorem end_cell {B H B' H' : Hp} {as : List Slot} {vs : List V} {ρ' : Env} {σ' : St} {X : List (Addr × HO)} {S : St} {O : List Addr} {c : Option (List U)} (a : ArgsOk K B H as vs) (n1 : nCel as ≤ 1) (R : Rel K ⟨B, H, cellsOf as vs, X, S, O⟩ ρ' σ' B' H') (e : cellAt as ρ' = some c) : CellOk K B' H' (cellsOf as vs) c := by
  have noD : ∀ {as : List Slot} {vs : List V}, ArgsOk K B H as vs → ∀ o u, Slot.celD o u ∉ as := by
    intro as
    induction as with
    | nil => intro vs _ o u h; simp at h
    | cons w r ih =>
      intro vs h o u hm
      cases w with
      | non => exact h
      | celD _ _ => exact h
      | lck _ => exact h
      | nam _ _ => exact h
      | obj _ _ _ => exact h
      | fld _ _ => exact h
      | val u' =>
        obtain ⟨v, vr, rfl, _, h2⟩ := h
        rcases List.mem_cons.mp hm with q | q
        · cases q
        · exact ih h2 o u q
      | cel _ _ =>
        obtain ⟨p, ws, vr, rfl, _, _, _, h2⟩ := h
        rcases List.mem_cons.mp hm with q | q
        · cases q
        · exact ih h2 o u q
  have noO : ∀ {as : List Slot} {vs : List V}, ArgsOk K B H as vs → ∀ o c u, Slot.obj o c u ∉ as := by
    intro as
    induction as with
    | nil => intro vs _ o c u h; simp at h
    | cons w r ih =>
      intro vs h o c u hm
      cases w with
      | non => exact h
      | celD _ _ => exact h
      | lck _ => exact h
      | nam _ _ => exact h
      | obj _ _ _ => exact h
      | fld _ _ => exact h
      | val u' =>
        obtain ⟨v, vr, rfl, _, h2⟩ := h
        rcases List.mem_cons.mp hm with q | q
        · cases q
        · exact ih h2 o c u q
      | cel _ _ =>
        obtain ⟨p, ws, vr, rfl, _, _, _, h2⟩ := h
        rcases List.mem_cons.mp hm with q | q
        · cases q
        · exact ih h2 o c u q
  have noF : ∀ {as : List Slot} {vs : List V}, ArgsOk K B H as vs → ∀ o u, Slot.fld o u ∉ as := by
    intro as
    induction as with
    | nil => intro vs _ o u h; simp at h
    | cons w r ih =>
      intro vs h o u hm
      cases w with
      | non => exact h
      | celD _ _ => exact h
      | lck _ => exact h
      | nam _ _ => exact h
      | obj _ _ _ => exact h
      | fld _ _ => exact h
      | val u' =>
        obtain ⟨v, vr, rfl, _, h2⟩ := h
        rcases List.mem_cons.mp hm with q | q
        · cases q
        · exact ih h2 o u q
      | cel _ _ =>
        obtain ⟨p, ws, vr, rfl, _, _, _, h2⟩ := h
        rcases List.mem_cons.mp hm with q | q
        · cases q
        · exact ih h2 o u q
  have key : ∀ {as : List Slot} {ρ : Env}, (∀ o u, Slot.celD o u ∉ as) → (∀ o c u, Slot.obj o c u ∉ as) → (∀ o u, Slot.fld o u ∉ as) → cellAt as ρ = some c → 0 < nCel as → ∃ (i : Nat) (us : List U), ρ[i]? = some (Slot.cel false us) ∧ c = some us := by
    intro as
    induction as with
    | nil => intro ρ _ _ _ _ h; simp [nCel] at h
    | cons s r ih =>
      intro ρ nd ndo ndf e h
      have ndf' : ∀ o u, Slot.fld o u ∉ r := fun o u hm => ndf o u (List.mem_cons_of_mem _ hm)
      have ndo' : ∀ o c u, Slot.obj o c u ∉ r := fun o c u hm => ndo o c u (List.mem_cons_of_mem _ hm)
      have nd' : ∀ o u, Slot.celD o u ∉ r := fun o u hm => nd o u (List.mem_cons_of_mem _ hm)
      cases ρ with
      | nil => cases s <;> cases e
      | cons t ρ =>
        cases s with
        | cel own us =>
          unfold cellAt at e
          split at e
          · rename_i us'; cases e; exact ⟨0, us', rfl, rfl⟩
          · cases e
        | non =>
          obtain ⟨i, us, e1, e2⟩ := ih (ρ := ρ) nd' ndo' ndf' e (by simpa [nCel, List.filter_cons, Slot.isC] using h)
          exact ⟨i + 1, us, by simpa using e1, e2⟩
        | val u =>
          obtain ⟨i, us, e1, e2⟩ := ih (ρ := ρ) nd' ndo' ndf' e (by simpa [nCel, List.filter_cons, Slot.isC] using h)
          exact ⟨i + 1, us, by simpa using e1, e2⟩
        | celD o u => exact absurd List.mem_cons_self (nd o u)
        | lck u =>
          obtain ⟨i, us, e1, e2⟩ := ih (ρ := ρ) nd' ndo' ndf' e (by simpa [nCel, List.filter_cons, Slot.isC] using h)
          exact ⟨i + 1, us, by simpa using e1, e2⟩
        | nam a0 u =>
          obtain ⟨i, us, e1, e2⟩ := ih (ρ := ρ) nd' ndo' ndf' e (by simpa [nCel, List.filter_cons, Slot.isC] using h)
          exact ⟨i + 1, us, by simpa using e1, e2⟩
        | obj o c u => exact absurd List.mem_cons_self (ndo o c u)
        | fld o u => exact absurd List.mem_cons_self (ndf o u)
  intro p hp
  have hl := cells_one a
  have pos : 0 < nCel as := by rw [← hl]; exact List.length_pos_of_mem hp
  obtain ⟨i, us, e1, rfl⟩ := key (noD a) (noO a) (noF a) e pos
  obtain ⟨p', ws, _, h1, h2, h3, h4⟩ := R.sl i _ e1
  have h4' : p' ∈ cellsOf as vs := h4
  have : p' = p := by
    have l1 : (cellsOf as vs).length = 1 := by omega
    match q : cellsOf as vs, l1 with
    | [x], _ =>
      rw [q] at h4' hp
      rw [List.mem_singleton.mp h4', List.mem_singleton.mp hp]
  subst this
  exact ⟨us, ws, rfl, h1, h2, h3⟩
end Sg
set_option Elab.async false
set_option linter.all false
set_option maxRecDepth 100000
set_option maxHeartbeats 4000000
namespace Sg
open PySem L2
variable {K : PySem.W.Frag}
theorem Rel.go {F : Fc} {B H B' H' : Hp} {ρ' : Env} {σ' : St} (h0 : F.B0 = B) (h1 : F.H0 = H) (R : Rel K F ρ' σ' B' H') : Go F.M B H B' H' := by
  subst h0 h1
  exact ⟨R.bb, R.ex, R.hh, R.th, R.nw⟩
theorem body_fin {n : Nat} {N : List Str} {b : MS K} {vs : List V} {H : Hp} {Q : VK} {E : XK} {B : Hp} {as : List Slot} {o : CO} (x : Ex B H) (hn : as.length ≤ N.length) (a : ArgsOk K B H as vs) (n1 : nCel as ≤ 1)
    (e : mfOf N.length b.m as = some o) (f : FinC K B H (cellsOf as vs) Q E o) : b.t (fun cls d _ H' => E cls d H') { nx := fun _ H' => Q .non H', rt := Q } (L2.start N vs) H := by
  unfold mfOf at e
  split at e
  · rename_i ρ eb
    obtain ⟨c, ec, rfl⟩ := Option.map_eq_some_iff.mp e
    exact b.ok _ _ _ _ B H _ _ eb (start_rel x a n1 hn) fun σ' B' H' _ R => f .non B' H' (R.go rfl rfl) (end_cell a n1 R ec) rfl
  · rename_i u ρ eb
    obtain ⟨c, ec, rfl⟩ := Option.map_eq_some_iff.mp e
    exact b.ok _ _ _ _ B H _ _ eb (start_rel x a n1 hn) fun v σ' B' H' _ R r => f v B' H' (R.go rfl rfl) (end_cell a n1 R ec) r
  · rename_i us ρ eb
    obtain ⟨c, ec, rfl⟩ := Option.map_eq_some_iff.mp e
    refine b.ok _ _ _ _ B H _ _ eb (start_rel x a n1 hn) fun q ws σ' B' H' _ R h1 h2 h3 r => f q ws B' H' (R.go rfl rfl) (end_cell a n1 R ec) h1 h2 h3 (fun hm => ?_) r
    obtain ⟨_, ws', hw⟩ := cells_none a q hm
    have h3' : H q = none := h3
    rw [hw] at h3'; cases h3'
  · rename_i xx ρ eb
    obtain ⟨c, ec, rfl⟩ := Option.map_eq_some_iff.mp e
    exact b.ok _ _ _ _ B H _ _ eb (start_rel x a n1 hn) fun cls d σ' B' H' _ R xr => f cls d B' H' (R.go rfl rfl) (end_cell a n1 R ec) (XRel.down xr)
  · cases e
section
variable {P : Program} {w : World} {mg : Str → Option Value} {base : Heap}
theorem fn_ok0 {x qual : Str} {st : Stmt} {f : Addr} {fd : FuncData} {N ps : List Str} {k n : Nat} (F : Fun K x qual st f fd) (S : FnScope N ps (defScope st)) (b : MS K) (hn : ps.length = n) (hN : n ≤ N.length)
    (d : ∀ (cdv : Value) (A : Around) (outer : List PySem.Env) (s : Shared) (H : Hp) (E : XK), Room k (A.deeper (PyProof.Rows.envOfC qual (defScope st) s.heap.objs.size f cdv)) → ∃ t, PSs (cxOf CX0 P w K mg base N qual (defScope st) f cdv A outer s H E).nox (defBody st) t ∧ t = b.t WNo) :
    FnOk P w K mg base CX0 (k + 1) f fd ps (spM K n (mfOf0 N.length b.m)) := by
  refine F.ok S (fun vs H Q E h => by rw [hn]; exact spM_len vs H Q E h) fun cdv A outer s H vs Q E hr h => ⟨b.t WNo, (by obtain ⟨t, h1, h2⟩ := d cdv A outer s H E hr; rw [← h2]; exact h1), ?_⟩
  obtain ⟨B, as, o, x, e, a, n1, m, f⟩ := h
  unfold mfOf0 at m
  cases em : mfOf N.length b.m as with
  | none => rw [em] at m; cases m
  | some o' =>
    rw [em] at m
    cases o' with
    | ex ee c => cases m
    | val u c => cases m; exact body_fin (E := fun _ _ _ => False) (n := n) x (by omega) a n1 em f
    | cel u c => cases m; exact body_fin (E := fun _ _ _ => False) (n := n) x (by omega) a n1 em f
theorem fn_okX {x qual : Str} {st : Stmt} {f : Addr} {fd : FuncData} {N ps : List Str} {k n : Nat} (F : Fun K x qual st f fd) (S : FnScope N ps (defScope st)) (b : MS K) (hn : ps.length = n) (hN : n ≤ N.length)
    (d : ∀ (cdv : Value) (A : Around) (outer : List PySem.Env) (s : Shared) (H : Hp) (E : XK), Room k (A.deeper (PyProof.Rows.envOfC qual (defScope st) s.heap.objs.size f cdv)) → ∃ t, PSs (cxOf (L2.CX P w) P w K mg base N qual (defScope st) f cdv A outer s H E) (defBody st) t ∧ t = b.t fun cls d _ H => E cls d H) :
    FnOk P w K mg base (L2.CX P w) (k + 1) f fd ps (spM K n (mfOf N.length b.m)) := by
  refine F.okX S (fun vs H Q E h => by rw [hn]; exact spM_len vs H Q E h) fun cdv A outer s H vs Q E hr h => ⟨b.t fun cls d _ H => E cls d H, (by obtain ⟨t, h1, h2⟩ := d cdv A outer s H E hr; rw [← h2]; exact h1), ?_⟩
  obtain ⟨B, as, o, x, e, a, n1, m, f⟩ := h
  exact body_fin (n := n) x (by omega) a n1 m f
end
inductive CA where
  | ok (is : List (U ⊕ Nat)) (ρ : Env)
  | ex (e : Exn) (ρ : Env)
def ItemsOk (K : PySem.W.Frag) (B : Hp) (σ : St) : List (U ⊕ Nat) → List V → Prop
  | [], vs => vs = []
  | .inl u :: r, vs => ∃ v vr, vs = v :: vr ∧ Rep K B u v ∧ ItemsOk K B σ r vr
  | .inr j :: r, vs => ∃ v vr, vs = v :: vr ∧ σ.getD j none = some v ∧ ItemsOk K B σ r vr
theorem ItemsOk.mono {B B' : Hp} {σ : St} (x : Ex B B') : ∀ {is : List (U ⊕ Nat)} {vs : List V}, ItemsOk K B σ is vs → ItemsOk K B' σ is vs
  | [], _, h => h
  | .inl u :: r, _, h => by
    obtain ⟨v, vr, e, h1, h2⟩ := h
    exact ⟨v, vr, e, Rep.mono x _ _ h1, ItemsOk.mono x h2⟩
  | .inr j :: r, _, h => by
    obtain ⟨v, vr, e, h1, h2⟩ := h
    exact ⟨v, vr, e, h1, ItemsOk.mono x h2⟩
def FinCA (K : PySem.W.Frag) (F : Fc) (W : WX) (p k : Bool) (ρ : Env) (σ : St) (B H : Hp) (Q : List V → Hp → Prop) : CA → Prop
  | .ok is ρ' => ∀ vs B' H', Ex B B' → (p = true → Ex H H' ∧ ρ' = ρ) → Rel K F ρ' σ B' H' → ItemsOk K (if k then B' else H') σ is vs → Q vs H'
  | .ex e ρ' => ∀ cls d B' H', Ex B B' → Rel K F ρ' σ B' H' → XRel K F e cls d H' → W cls d σ H'
structure MC (K : PySem.W.Frag) where
  t : WX → TA
  m : Env → Option CA
  p : Bool
  k : Bool
  ok : ∀ (F : Fc) (W : WX) (ρ : Env) (σ : St) (B H : Hp) (Q : List V → Hp → Prop) (o : CA), m ρ = some o → Rel K F ρ σ B H → FinCA K F W p k ρ σ B H Q o → t W σ H Q
def mcNil : MC K where
  t := fun _ => tNil
  m := fun ρ => some (.ok [] ρ)
  p := true
  k := true
  ok := fun F W ρ σ B H Q o e R f => by
    cases e
    exact f [] B H Ex.refl (fun _ => ⟨Ex.refl, rfl⟩) R rfl
def bindEC (a : Option EO) (f : U → Env → Option CA) : Option CA :=
  match a with
  | none => none
  | some (.ex e ρ) => some (.ex e ρ)
  | some (.ok u ρ) => f u ρ
theorem bindEC_some {a : Option EO} {f : U → Env → Option CA} {o : CA} (h : bindEC a f = some o) : (∃ u ρ', a = some (.ok u ρ') ∧ f u ρ' = some o) ∨ ∃ e ρ', a = some (.ex e ρ') ∧ o = .ex e ρ' := by
  cases a with
  | none => cases h
  | some x =>
    cases x with
    | ok u ρ => exact .inl ⟨u, ρ, rfl, h⟩
    | ex e ρ => exact .inr ⟨e, ρ, rfl, (Option.some.inj h).symm⟩
def consC (i : U ⊕ Nat) (a : Option CA) : Option CA :=
  match a with
  | some (.ok is ρ) => some (.ok (i :: is) ρ)
  | o => o
theorem consC_some {i : U ⊕ Nat} {a : Option CA} {o : CA} (h : consC i a = some o) : (∃ is ρ', a = some (.ok is ρ') ∧ o = .ok (i :: is) ρ') ∨ ∃ e ρ', a = some (.ex e ρ') ∧ o = .ex e ρ' := by
  cases a with
  | none => cases h
  | some x =>
    cases x with
    | ok u ρ => exact .inl ⟨u, ρ, rfl, (Option.some.inj h).symm⟩
    | ex e ρ => exact .inr ⟨e, ρ, rfl, (Option.some.inj h).symm⟩
def mcVal (a : ME K) (b : MC K) (h : (a.k || b.p) = true := by exact id rfl) : MC K where
  t := fun W => tCons (a.t W) (b.t W)
  m := fun ρ => bindEC (a.m ρ) fun u ρ1 => consC (.inl u) (b.m ρ1)
  p := a.p && b.p
  k := a.k && b.k
  ok := fun F W ρ σ B H Q out e R f => by
    rcases bindEC_some e with ⟨u, ρ1, e1, e⟩ | ⟨x, ρ1, e1, rfl⟩
    · refine a.ok F W ρ σ B H _ _ e1 R fun v1 B1 H1 x1 p1 R1 r1 => ?_
      rcases consC_some e with ⟨is, ρ2, e2, rfl⟩ | ⟨x, ρ2, e2, rfl⟩
      · refine b.ok F W ρ1 σ B1 H1 _ _ e2 R1 fun vs B2 H2 x2 p2 R2' r2 => ?_
        refine f (v1 :: vs) B2 H2 (x1.trans x2) (fun c => ?_) R2' ?_
        · obtain ⟨c1, c2⟩ := Bool.and_eq_true_iff.mp c
          exact ⟨(p1 c1).1.trans (p2 c2).1, (p2 c2).2.trans (p1 c1).2⟩
        · cases ck : a.k with
          | true =>
            rw [ck] at r1
            cases cb : b.k with
            | true =>
              rw [cb] at r2
              exact ⟨v1, vs, rfl, Rep.mono x2 _ _ r1, r2⟩
            | false =>
              rw [cb] at r2
              exact ⟨v1, vs, rfl, Rep.mono R2'.ex _ _ (Rep.mono x2 _ _ r1), r2⟩
          | false =>
            rw [ck] at r1 h
            have q1 := Rep.mono (p2 (by simpa using h)).1 _ _ r1
            refine ⟨v1, vs, rfl, q1, ?_⟩
            cases cb : b.k with
            | true => rw [cb] at r2; exact ItemsOk.mono R2'.ex r2
            | false => rw [cb] at r2; exact r2
      · exact b.ok F W ρ1 σ B1 H1 _ _ e2 R1 fun cls d B2 H2 x2 R2' xr => f cls d B2 H2 (x1.trans x2) R2' xr
    · exact a.ok F W ρ σ B H _ _ e1 R fun cls d B1 H1 x1 R1 xr => f cls d B1 H1 x1 R1 xr
def mcCel (j : Nat) (b : MC K) : MC K where
  t := fun W => tCons (tVar j) (b.t W)
  m := fun ρ => match ρ[j]? with
    | some (.cel _ _) => consC (.inr j) (b.m ρ)
    | some (.celD _ _) => consC (.inr j) (b.m ρ)
    | _ => none
  p := b.p
  k := b.k
  ok := fun F W ρ σ B H Q out e R f => by
    split at e
    · rename_i own us hu
      obtain ⟨p, ws, hv, _⟩ := R.sl j _ hu
      refine ⟨.ref p, getD_some hv, ?_⟩
      rcases consC_some e with ⟨is, ρ2, e2, rfl⟩ | ⟨x, ρ2, e2, rfl⟩
      · exact b.ok F W ρ σ B H _ _ e2 R fun vs B2 H2 x2 p2 R2' r2 => f _ B2 H2 x2 p2 R2' ⟨.ref p, vs, rfl, hv, r2⟩
      · exact b.ok F W ρ σ B H _ _ e2 R fun cls d B2 H2 x2 R2' xr => f cls d B2 H2 x2 R2' xr
    · rename_i own us hu
      obtain ⟨p, ws, hv, _⟩ := R.sl j _ hu
      refine ⟨.ref p, getD_some hv, ?_⟩
      rcases consC_some e with ⟨is, ρ2, e2, rfl⟩ | ⟨x, ρ2, e2, rfl⟩
      · exact b.ok F W ρ σ B H _ _ e2 R fun vs B2 H2 x2 p2 R2' r2 => f _ B2 H2 x2 p2 R2' ⟨.ref p, vs, rfl, hv, r2⟩
      · exact b.ok F W ρ σ B H _ _ e2 R fun cls d B2 H2 x2 R2' xr => f cls d B2 H2 x2 R2' xr
    · cases e
def resolve (ρ : Env) : List (U ⊕ Nat) → Option (List Slot)
  | [] => some []
  | .inl u :: r => (resolve ρ r).map fun as => .val u :: as
  | .inr j :: r => match ρ[j]? with
    | some (.cel own us) => (resolve ρ r).map fun as => .cel own us :: as
    | _ => none
def celJ : List (U ⊕ Nat) → Option Nat
  | [] => none
  | .inl _ :: r => celJ r
  | .inr j :: _ => some j
def putJ (ρ : Env) (j : Option Nat) (c : Option (List U)) : Option Env :=
  match j, c with
  | none, _ => some ρ
  | some j, some us => match ρ[j]? with
    | some (.cel own _) => some (ρ.set j (.cel own us))
    | _ => none
  | some _, none => none
theorem resolve_ok {F : Fc} {ρ : Env} {σ : St} {B H : Hp} (R : Rel K F ρ σ B H) : ∀ {is : List (U ⊕ Nat)} {vs : List V} {as : List Slot}, ItemsOk K B σ is vs → resolve ρ is = some as →
    ArgsOk K B H as vs ∧ as.length = is.length ∧ (nCel as ≤ 1 → (celJ is = none ∧ cellsOf as vs = []) ∨ ∃ j p own us, celJ is = some j ∧ cellsOf as vs = [p] ∧ ρ[j]? = some (.cel own us) ∧ σ.getD j none = some (.ref p))
  | [], _, as, h, e => by cases h; cases e; exact ⟨rfl, rfl, fun _ => .inl ⟨rfl, rfl⟩⟩
  | .inl u :: r, _, as, h, e => by
    obtain ⟨v, vr, rfl, h1, h2⟩ := h
    obtain ⟨bs, eb, rfl⟩ := Option.map_eq_some_iff.mp e
    obtain ⟨q1, q2, q3⟩ := resolve_ok R h2 eb
    exact ⟨⟨v, vr, rfl, h1, q1⟩, by simp [q2], fun n => q3 (by simpa [nCel, List.filter_cons, Slot.isC] using n)⟩
  | .inr j :: r, _, as, h, e => by
    obtain ⟨v, vr, rfl, h1, h2⟩ := h
    unfold resolve at e
    split at e
    · rename_i own us hu
      obtain ⟨bs, eb, rfl⟩ := Option.map_eq_some_iff.mp e
      obtain ⟨q1, q2, q3⟩ := resolve_ok R h2 eb
      obtain ⟨p, ws, hv, z1, z2, z3, _⟩ := R.sl j _ hu
      have ev : v = .ref p := by rw [h1] at hv; exact Option.some.inj hv
      subst ev
      refine ⟨⟨p, ws, vr, rfl, z1, z2, z3, q1⟩, by simp [q2], fun n => ?_⟩
      have n0 : nCel bs = 0 := by
        simp only [nCel, List.filter_cons, Slot.isC, if_true, List.length_cons] at n
        unfold nCel; omega
      have c0 : cellsOf bs vr = [] := List.length_eq_zero_iff.mp (by rw [cells_one q1, n0])
      exact .inr ⟨j, p, own, us, rfl, by simp [cellsOf, c0], hu, h1⟩
    · cases e
theorem after_call {F : Fc} {ρ : Env} {σ : St} {B H B' H' : Hp} {M : List Addr} {jc : Option Nat} {c : Option (List U)} {ρ' : Env} (R : Rel K F ρ σ B H) (g : Go M B H B' H')
    (hm : (jc = none ∧ M = []) ∨ ∃ j p own us, jc = some j ∧ M = [p] ∧ ρ[j]? = some (.cel own us) ∧ σ.getD j none = some (.ref p)) (cc : CellOk K B' H' M c) (e : putJ ρ jc c = some ρ') : Rel K F ρ' σ B' H' := by
  rcases hm with ⟨rfl, rfl⟩ | ⟨j, p, own, us, rfl, rfl, hj, hs⟩
  · cases e; exact R.grow g
  · obtain ⟨us', ws', rfl, h1, h2, h3⟩ := cc p List.mem_cons_self
    have e2 : (match ρ[j]? with | some (.cel own _) => some (ρ.set j (.cel own us')) | _ => none) = some ρ' := e
    rw [hj] at e2
    cases e2
    have pm0 : (if own = true then F.H0 p = none else p ∈ F.M) := by
      obtain ⟨p', _, e', _, _, _, h⟩ := R.sl j _ hj
      rw [hs] at e'; cases e'; exact h
    have hp : p ∈ (Slot.cel own us).ow H (σ.getD j none) := ow_cel hs
    have hb := (R.owned hj hp).2.1
    have R1 := R.chg hj g.bb g.bh (fun a o n h => ⟨g.hh a o (fun z => n (by rw [List.mem_singleton.mp z]; exact hp)) h, fun z => g.nw a o z h⟩) (fun a ha => by
      obtain ⟨⟨u, hu⟩, _⟩ := R.owned hj ha
      exact g.th a u hu) fun a o ha _ => by
      obtain ⟨⟨u, hu⟩, hb, _⟩ := R.owned hj ha
      exact g.nw a u hb hu
    refine R1.back ⟨p, ws', hs, h1, h2, h3, pm0⟩ (fun i s q ne es hq hq2 => ?_) (fun q o hq ho => ?_) (fun l => R.ln j _ hj (by cases own <;> exact l))
    · have ez := of_ow_cel hq2
      rw [hs] at ez; cases ez
      have hm := (R.sl i s es).move (B' := B') (H' := H') g.bb fun z hz => by
        obtain ⟨⟨u, hu⟩, hb, _⟩ := R.owned es hz
        have nz : z ≠ p := fun y => R.ds i j s _ p ne es hj (by rw [← y]; exact hz) hp
        exact ⟨by rw [hu]; exact g.hh z u (by simpa using nz) hu, g.nw _ _ hb hu⟩
      rw [hm.2] at hq
      exact R.ds i j s _ p ne es hj hq hp
    · have ez := of_ow_cel hq
      rw [hs] at ez; cases ez
      exact R.xs p o ho j _ hj hp
theorem put_cells {F : Fc} {ρ ρ' : Env} {σ : St} {B H B' H' : Hp} {M : List Addr} {jc : Option Nat} {c : Option (List U)} {q : Addr} (R : Rel K F ρ σ B H) (g : Go M B H B' H')
    (hm : (jc = none ∧ M = []) ∨ ∃ j p own us, jc = some j ∧ M = [p] ∧ ρ[j]? = some (.cel own us) ∧ σ.getD j none = some (.ref p)) (h : H q = none) (e : putJ ρ jc c = some ρ') (j : Nat) (s : Slot) (es : ρ'[j]? = some s) : q ∉ s.ow H' (σ.getD j none) := fun z => by
  rcases hm with ⟨rfl, rfl⟩ | ⟨l, p, own, us, rfl, rfl, hl, hs⟩
  · cases e
    rw [R.ow_eq g es] at z
    exact R.notC h j s es z
  · cases c with
    | none => cases e
    | some us' =>
      have e2 : (match ρ[l]? with | some (.cel own _) => some (ρ.set l (.cel own us')) | _ => none) = some ρ' := e
      rw [hl] at e2
      cases e2
      rcases getElem_set es with ⟨rfl, rfl⟩ | ⟨ne, es⟩
      · exact R.notC h _ _ hl (show q ∈ adO _ from z)
      · have hp : p ∈ (Slot.cel own us).ow H (σ.getD l none) := ow_cel hs
        have hm := (R.sl j s es).move (B' := B') (H' := H') g.bb fun y hy => by
          obtain ⟨⟨u, hu⟩, hb, _⟩ := R.owned es hy
          have ny : y ≠ p := fun w => R.ds j l s _ p ne es hl (by rw [← w]; exact hy) hp
          exact ⟨by rw [hu]; exact g.hh y u (by simpa using ny) hu, g.nw _ _ hb hu⟩
        rw [hm.2] at z
        exact R.notC h j s es z
def callM (mf : List Slot → Option CO) (a : Option CA) : Option EO :=
  match a with
  | none => none
  | some (.ex e ρ) => some (.ex e ρ)
  | some (.ok is ρ) => match resolve ρ is with
    | none => none
    | some as => if nCel as ≤ 1 then match mf as with
      | none => none
      | some (.val u c) => (putJ ρ (celJ is) c).map fun ρ' => .ok u ρ'
      | some (.cel us c) => (putJ ρ (celJ is) c).map fun ρ' => .ok (.lst us) ρ'
      | some (.ex e c) => (putJ ρ (celJ is) c).map fun ρ' => .ex e ρ'
    else none
def mCall (n : Nat) (mf : List Slot → Option CO) (a : MC K) (hk : a.k = true := by exact id rfl) : ME K where
  t := fun W => tCallS (spM K n mf) (WE W) (a.t W)
  m := fun ρ => (a.m ρ).bind fun o => match o with
    | .ok is _ => if is.length = n then callM mf (some o) else none
    | _ => callM mf (some o)
  p := false
  k := true
  ok := fun F W ρ σ B H Q out e R f => by
    obtain ⟨o, e1, e⟩ := Option.bind_eq_some_iff.mp e
    cases o with
    | ex x ρ1 => cases e; exact a.ok F W ρ σ B H _ _ e1 R fun cls d B1 H1 x1 R1 xr => f cls d B1 H1 x1 R1 xr
    | ok is ρ1 =>
      refine a.ok F W ρ σ B H _ _ e1 R fun vs B1 H1 x1 p1 R1 r1 => ?_
      rw [hk] at r1
      have e' : (if is.length = n then callM mf (some (.ok is ρ1)) else none) = some out := e
      split at e'
      · rename_i hn
        unfold callM at e'
        split at e'
        · cases e'
        · rename_i h; cases h
        · rename_i is' ρ1' h
          cases h
          split at e'
          · cases e'
          · rename_i as ea
            obtain ⟨q1, q2, q3⟩ := resolve_ok R1 r1 ea
            split at e'
            · rename_i n1
              have q3 := q3 n1
              split at e'
              · cases e'
              · rename_i u c em
                obtain ⟨ρ', ep, rfl⟩ := Option.map_eq_some_iff.mp e'
                exact ⟨B1, as, _, R1.ex, q2.trans hn, q1, n1, em, fun v B' H' g cc r => f v B' H' (x1.trans g.bb) (fun z => nomatch z) (after_call R1 g q3 cc ep) r⟩
              · rename_i us c em
                obtain ⟨ρ', ep, rfl⟩ := Option.map_eq_some_iff.mp e'
                refine ⟨B1, as, _, R1.ex, q2.trans hn, q1, n1, em, fun q ws B' H' g cc h1 h2 h3 hq r => ?_⟩
                have R2 := after_call R1 g q3 cc ep
                have xb : Ex B' (upd B' q (.lst ws)) := Ex.new h2
                have R3 := R2.know h1 h2 (R1.fresh0 h3) (put_cells R1 g q3 h3 ep) (fun o ho => by rw [(R1.xx _ _ ho).1] at h3; cases h3)
                exact f (.ref q) (upd B' q (.lst ws)) H' ((x1.trans g.bb).trans xb) (fun z => nomatch z) R3 ⟨q, ws, rfl, upd_same, RepL.mono xb _ _ r⟩
              · rename_i x c em
                obtain ⟨ρ', ep, rfl⟩ := Option.map_eq_some_iff.mp e'
                exact ⟨B1, as, _, R1.ex, q2.trans hn, q1, n1, em, fun cls d B' H' g cc xr => f cls d B' H' (x1.trans g.bb) (after_call R1 g q3 cc ep) (XRel.up R1 xr)⟩
            · cases e'
      · cases e'
end Sg
set_option Elab.async false
set_option linter.all false
set_option maxRecDepth 100000
set_option maxHeartbeats 4000000
namespace Sg
open PySem L2
variable {K : PySem.W.Frag}
def rOr (r r' : R2) : R2 := fun x y H Q => r x y H Q ∨ r' x y H Q
theorem op_or {X : Cx} {f : Value → Value → Sem Value} {r r' : R2} (h : OpR X f r) (h' : OpR X f r') : OpR X f (rOr r r') := h.or h'
def fI (g : Int → Int → Option U) : U → U → Option U
  | .int i, .int j => g i j
  | _, _ => none
theorem fI_some {g : Int → Int → Option U} {u v w : U} (h : fI g u v = some w) : ∃ i j, u = .int i ∧ v = .int j ∧ g i j = some w := by
  unfold fI at h
  split at h
  · exact ⟨_, _, rfl, rfl, h⟩
  · cases h
def fAdd : U → U → Option U
  | .int i, .int j => some (.int (i + j))
  | .str a, .str b => if a.length + b.length ≤ 16777216 then some (.str (a ++ b)) else none
  | _, _ => none
def rAddS : R2 := fun x y H Q => ∃ i j, x = .str i ∧ y = .str j ∧ i.length + j.length ≤ sizeLine ∧ Q (.str (i ++ j)) H
def oAdd : Op2 K where
  r := rOr (rI0 fun i j => .int (i + j)) rAddS
  f := fAdd
  ok := fun H x y u v w ru rv e => by
    unfold fAdd at e
    split at e
    · cases e; cases ru; cases rv; exact ⟨_, rfl, fun Q q => .inl ⟨_, _, rfl, rfl, q⟩⟩
    · split at e
      · rename_i a b h; cases e; cases ru; cases rv; exact ⟨_, rfl, fun Q q => .inr ⟨_, _, rfl, rfl, by rw [PySem.sizeLine_eq]; exact h, q⟩⟩
      · cases e
    · cases e
def oSub : Op2 K where
  r := rI0 fun i j => .int (i - j)
  f := fI fun i j => some (.int (i - j))
  ok := fun H x y u v w ru rv e => by
    obtain ⟨i, j, rfl, rfl, e2⟩ := fI_some e
    cases e2; cases ru; cases rv
    exact ⟨_, rfl, fun Q q => ⟨_, _, rfl, rfl, q⟩⟩
def MulOk (i j : Int) : Prop := ((-(2 ^ 64) < i ∧ i < 2 ^ 64) ∨ (-(2 ^ 64) < j ∧ j < 2 ^ 64)) ∨ CMulX i j
noncomputable instance (i j : Int) : Decidable (MulOk i j) := Classical.propDecidable _
noncomputable def fMul : Int → Int → Option U := fun i j => if MulOk i j then some (.int (i * j)) else none
noncomputable def oMul : Op2 K where
  r := rOr (rI CMul fun i j => .int (i * j)) (rI CMulX fun i j => .int (i * j))
  f := fI fMul
  ok := fun H x y u v w ru rv e => by
    obtain ⟨i, j, rfl, rfl, e2⟩ := fI_some e
    unfold fMul at e2
    split at e2
    · rename_i h
      cases e2; cases ru; cases rv
      refine ⟨_, rfl, fun Q q => ?_⟩
      rcases h with h | h
      · exact .inl ⟨_, _, rfl, rfl, h, q⟩
      · exact .inr ⟨_, _, rfl, rfl, h, q⟩
    · cases e2
def oMod : Op2 K where
  r := rI (fun _ j => j ≠ 0) fun i j => .int (i.fmod j)
  f := fI fun i j => if j ≠ 0 then some (.int (i.fmod j)) else none
  ok := fun H x y u v w ru rv e => by
    obtain ⟨i, j, rfl, rfl, e2⟩ := fI_some e
    split at e2
    · rename_i h
      cases e2; cases ru; cases rv
      exact ⟨_, rfl, fun Q q => ⟨_, _, rfl, rfl, h, q⟩⟩
    · cases e2
def oDiv : Op2 K where
  r := rOr (rI CDivN fun i j => .int (i.fdiv j)) (rI CDivW fun i j => .int (i / j))
  f := fI fun i j => if j ≠ 0 ∧ j.natAbs < 1073741824 then some (.int (i.fdiv j)) else if 0 < j ∧ j.natAbs.log2 < 9000 then some (.int (i / j)) else none
  ok := fun H x y u v w ru rv e => by
    obtain ⟨i, j, rfl, rfl, e2⟩ := fI_some e
    split at e2
    · rename_i h
      cases e2; cases ru; cases rv
      exact ⟨_, rfl, fun Q q => .inl ⟨_, _, rfl, rfl, h, q⟩⟩
    · split at e2
      · rename_i h
        cases e2; cases ru; cases rv
        exact ⟨_, rfl, fun Q q => .inr ⟨_, _, rfl, rfl, h, q⟩⟩
      · cases e2
def oPow : Op2 K where
  r := rI CPow fun i j => .int (i ^ j.toNat)
  f := fI fun i j => if 0 ≤ j ∧ j ≤ 1000000 ∧ i.natAbs < 2 ^ 64 then some (.int (i ^ j.toNat)) else none
  ok := fun H x y u v w ru rv e => by
    obtain ⟨i, j, rfl, rfl, e2⟩ := fI_some e
    split at e2
    · rename_i h
      cases e2; cases ru; cases rv
      exact ⟨_, rfl, fun Q q => ⟨_, _, rfl, rfl, h, q⟩⟩
    · cases e2
def oCmp (p : Int → Int → Bool) : Op2 K where
  r := rI0 fun i j => .bl (p i j)
  f := fI fun i j => some (.bl (p i j))
  ok := fun H x y u v w ru rv e => by
    obtain ⟨i, j, rfl, rfl, e2⟩ := fI_some e
    cases e2; cases ru; cases rv
    exact ⟨_, rfl, fun Q q => ⟨_, _, rfl, rfl, q⟩⟩
abbrev oLt : Op2 K := oCmp fun i j => decide (i < j)
abbrev oLe : Op2 K := oCmp fun i j => decide (i ≤ j)
abbrev oGt : Op2 K := oCmp fun i j => decide (j < i)
abbrev oGe : Op2 K := oCmp fun i j => decide (j ≤ i)
mutual
def pd : U → Option PyData
  | .non => some .none
  | .bl b => some (.bool b)
  | .int i => some (.int i)
  | .str s => some (.str s)
  | .lst us => (pdL us).map .list
  | .frl us => (pdL us).map .list
  | .tup us => (pdL us).map .tuple
  | _ => none
def pdL : List U → Option (List PyData)
  | [] => some []
  | u :: us => (pd u).bind fun d => (pdL us).map fun ds => d :: ds
end
mutual
theorem pd_ok {H : Hp} : ∀ (u : U) (v : V) (d : PyData), Rep K H u v → pd u = some d → Dp K H v d
  | .non, _, _, r, e => by cases r; cases e; exact .non
  | .bl b, _, _, r, e => by cases r; cases e; exact .bl b
  | .int i, _, _, r, e => by cases r; cases e; exact .int i
  | .str s, _, _, r, e => by cases r; cases e; exact .str s
  | .ref _, _, _, r, e => by cases e
  | .lst us, _, _, r, e => by
    obtain ⟨a, vs, rfl, h1, h2⟩ := r
    obtain ⟨ds, e1, rfl⟩ := Option.map_eq_some_iff.mp e
    exact .lst (SqL.of h1) (pdL_ok us vs ds h2 e1)
  | .frl us, _, _, r, e => by
    obtain ⟨a, vs, rfl, h1, h2⟩ := r
    obtain ⟨ds, e1, rfl⟩ := Option.map_eq_some_iff.mp e
    exact .lst h1 (pdL_ok us vs ds h2 e1)
  | .tup us, _, _, r, e => by
    obtain ⟨a, vs, rfl, h1, h2⟩ := r
    obtain ⟨ds, e1, rfl⟩ := Option.map_eq_some_iff.mp e
    exact .tup h1 (pdL_ok us vs ds h2 e1)
  | .dic _, _, _, _, e => by cases e
  | .ins _ _, _, _, _, e => by cases e
  | .exc _, _, _, _, e => by cases e
  | .exf _ _ _, _, _, _, e => by cases e
  | .ndc _, _, _, _, e => by cases e
theorem pdL_ok {H : Hp} : ∀ (us : List U) (vs : List V) (ds : List PyData), RepL K H us vs → pdL us = some ds → DpAll K H vs ds
  | [], _, _, r, e => by cases r; cases e; exact .nil
  | u :: us, _, _, r, e => by
    obtain ⟨v, vr, rfl, h1, h2⟩ := r
    obtain ⟨d, e1, e2⟩ := Option.bind_eq_some_iff.mp e
    obtain ⟨ds, e3, rfl⟩ := Option.map_eq_some_iff.mp e2
    exact .cons (pd_ok u v d h1 e1) (pdL_ok us vr ds h2 e3)
end
def eqU (u v : U) : Option Bool := (pd u).bind fun d => (pd v).bind fun e => if SeqAt.shaped d = true ∧ SeqAt.shaped e = true then some (PyData.eqv d e) else none
theorem eqU_ok {H : Hp} {u v : U} {x y : V} {b : Bool} (ru : Rep K H u x) (rv : Rep K H v y) (e : eqU u v = some b) : ∃ d e, Dp K H x d ∧ Dp K H y e ∧ SeqAt.shaped d = true ∧ SeqAt.shaped e = true ∧ PyData.eqv d e = b := by
  obtain ⟨d, e1, e⟩ := Option.bind_eq_some_iff.mp e
  obtain ⟨d', e2, e⟩ := Option.bind_eq_some_iff.mp e
  split at e
  · rename_i h
    cases e
    exact ⟨d, d', pd_ok _ _ _ ru e1, pd_ok _ _ _ rv e2, h.1, h.2, rfl⟩
  · cases e
def oEq : Op2 K where
  r := rEqD K
  f := fun u v => (eqU u v).map .bl
  ok := fun H x y u v w ru rv e => by
    obtain ⟨b, e1, rfl⟩ := Option.map_eq_some_iff.mp e
    obtain ⟨d, d', h1, h2, h3, h4, rfl⟩ := eqU_ok ru rv e1
    exact ⟨_, rfl, fun Q q => ⟨d, d', h1, h2, h3, h4, q⟩⟩
def oNe : Op2 K where
  r := rNeD K
  f := fun u v => (eqU u v).map fun b => .bl (!b)
  ok := fun H x y u v w ru rv e => by
    obtain ⟨b, e1, rfl⟩ := Option.map_eq_some_iff.mp e
    obtain ⟨d, d', h1, h2, h3, h4, rfl⟩ := eqU_ok ru rv e1
    exact ⟨_, rfl, fun Q q => ⟨d, d', h1, h2, h3, h4, q⟩⟩
def flU : U → Option V
  | .non => some .non
  | .bl b => some (.bl b)
  | .int i => some (.int i)
  | .str s => some (.str s)
  | _ => none
def seqU : U → Option (List U)
  | .lst us => some us
  | .frl us => some us
  | .tup us => some us
  | _ => none
theorem flU_ok {H : Hp} {u : U} {v z : V} (r : Rep K H u v) (e : flU u = some z) : v = z ∧ flatV v = true := by
  cases u <;> first | (cases e; cases r; exact ⟨rfl, rfl⟩) | cases e
def flL : List U → Option (List V)
  | [] => some []
  | u :: us => (flU u).bind fun v => (flL us).map fun vs => v :: vs
theorem flL_ok {H : Hp} : ∀ {us : List U} {vs zs : List V}, RepL K H us vs → flL us = some zs → vs = zs ∧ vs.all flatV = true
  | [], _, _, r, e => by cases r; cases e; exact ⟨rfl, rfl⟩
  | u :: us, _, _, r, e => by
    obtain ⟨v, vr, rfl, h1, h2⟩ := r
    obtain ⟨z, e1, e2⟩ := Option.bind_eq_some_iff.mp e
    obtain ⟨zs, e3, rfl⟩ := Option.map_eq_some_iff.mp e2
    obtain ⟨rfl, q1⟩ := flU_ok h1 e1
    obtain ⟨rfl, q2⟩ := flL_ok h2 e3
    exact ⟨rfl, by simp only [List.all_cons, q1, q2, Bool.and_self]⟩
theorem seqU_ok {H : Hp} {u : U} {v : V} {us : List U} (r : Rep K H u v) (e : seqU u = some us) : ∃ a vs, v = .ref a ∧ (SqL K H a vs ∨ SqT K H a vs) ∧ RepL K H us vs := by
  cases u with
  | lst _ => cases e; obtain ⟨a, vs, rfl, h1, h2⟩ := r; exact ⟨a, vs, rfl, .inl (SqL.of h1), h2⟩
  | frl _ => cases e; obtain ⟨a, vs, rfl, h1, h2⟩ := r; exact ⟨a, vs, rfl, .inl h1, h2⟩
  | tup _ => cases e; obtain ⟨a, vs, rfl, h1, h2⟩ := r; exact ⟨a, vs, rfl, .inr h1, h2⟩
  | _ => cases e
def inU (u v : U) : Option Bool := (flU u).bind fun x => (seqU v).bind fun us => (flL us).map fun ys => inV x ys
def oIn (neg : Bool) : Op2 K where
  r := rIn K neg
  f := fun u v => (inU u v).map fun b => .bl (if neg then !b else b)
  ok := fun H x y u v w ru rv e => by
    obtain ⟨b, e1, rfl⟩ := Option.map_eq_some_iff.mp e
    obtain ⟨z, e2, e1⟩ := Option.bind_eq_some_iff.mp e1
    obtain ⟨us, e3, e1⟩ := Option.bind_eq_some_iff.mp e1
    obtain ⟨ys, e4, rfl⟩ := Option.map_eq_some_iff.mp e1
    obtain ⟨rfl, q1⟩ := flU_ok ru e2
    obtain ⟨a, vs, rfl, h1, h2⟩ := seqU_ok rv e3
    obtain ⟨rfl, q2⟩ := flL_ok h2 e4
    exact ⟨_, rfl, fun Q q => ⟨a, _, rfl, h1, q1, q2, q⟩⟩
def oNeg : Op1 K where
  r := fun x H Q => ∃ i, x = .int i ∧ Q (.int (-i)) H
  f := fun u => match u with
    | .int i => some (.int (-i))
    | _ => none
  ok := fun H x u w r e => by
    split at e
    · cases e; cases r; exact ⟨_, rfl, fun Q q => ⟨_, rfl, q⟩⟩
    · cases e
theorem RepL.at {B : Hp} {us : List U} {vs : List V} {i : Int} {u : U} (r : RepL K B us vs) (e : atI us i = some u) : ∃ v, atI vs i = some v ∧ Rep K B u v := by
  obtain ⟨j, e1, e2⟩ := Option.bind_eq_some_iff.mp e
  obtain ⟨v, e3, e4⟩ := r.get e2
  exact ⟨v, by unfold atI; rw [r.length, e1]; exact e3, e4⟩
def ixU (u v : U) : Option U := match v with
  | .int i => match u with
    | .str s => if s.length ≤ 16777216 then (atI s.cps.toList i).map fun c => .str ⟨#[c]⟩ else none
    | _ => (seqU u).bind fun us => atI us i
  | _ => none
def oIx : OpI K where
  r := rIx K
  f := ixU
  ok := fun B H x y u v w Q ex ru rv e f => by
    unfold ixU at e
    split at e
    · rename_i i
      have ry : y = .int i := rv
      subst ry
      split at e
      · rename_i s
        split at e
        · rename_i hl
          obtain ⟨c, e1, rfl⟩ := Option.map_eq_some_iff.mp e
          cases ru
          exact .inr (.inr ⟨s, i, c, rfl, rfl, by rw [PySem.sizeLine_eq]; exact hl, e1, f _ rfl⟩)
        · cases e
      · obtain ⟨us, e1, e2⟩ := Option.bind_eq_some_iff.mp e
        obtain ⟨a, vs, rfl, h1, h2⟩ := seqU_ok ru e1
        obtain ⟨z, e3, e4⟩ := h2.at e2
        rcases h1 with h1 | h1
        · exact .inl ⟨a, vs, i, z, rfl, rfl, Ex.l ex h1, e3, f z e4⟩
        · exact .inr (.inl ⟨a, vs, i, z, rfl, rfl, Ex.t ex h1, e3, f z e4⟩)
    · cases e
inductive OO where
  | ok (o : Option Int) (ρ : Env)
  | ex (e : Exn) (ρ : Env)
structure MO (K : PySem.W.Frag) where
  t : WX → TO
  m : Env → Option OO
  p : Bool
  ok : ∀ (F : Fc) (W : WX) (ρ : Env) (σ : St) (B H : Hp) (Q : Option Int → Hp → Prop) (o : OO), m ρ = some o → Rel K F ρ σ B H →
    (match o with
      | .ok x ρ' => ∀ B' H', Ex B B' → (p = true → Ex H H' ∧ ρ' = ρ) → Rel K F ρ' σ B' H' → Q x H'
      | .ex e ρ' => ∀ cls d B' H', Ex B B' → Rel K F ρ' σ B' H' → XRel K F e cls d H' → W cls d σ H') → t W σ H Q
def moNone : MO K where
  t := fun _ => tNoPart
  m := fun ρ => some (.ok none ρ)
  p := true
  ok := fun F W ρ σ B H Q o e R f => by cases e; exact f B H Ex.refl (fun _ => ⟨Ex.refl, rfl⟩) R
def moSome (a : ME K) : MO K where
  t := fun W => tPart (a.t W)
  m := fun ρ => match a.m ρ with
    | some (.ok (.int i) ρ1) => some (.ok (some i) ρ1)
    | some (.ex e ρ1) => some (.ex e ρ1)
    | _ => none
  p := a.p
  ok := fun F W ρ σ B H Q o e R f => by
    split at e
    · rename_i i ρ1 e1
      cases e
      refine a.ok F W ρ σ B H _ _ e1 R fun v B1 H1 x1 p1 R1 r1 => ?_
      exact ⟨i, rep_up R1 r1, f B1 H1 x1 p1 R1⟩
    · rename_i x ρ1 e1
      cases e
      exact a.ok F W ρ σ B H _ _ e1 R f
    · cases e
def cutU (us : List U) (lo hi : Option Int) : List U := (us.drop (HT.sIx us.length 0 lo)).take (HT.sIx us.length us.length hi - HT.sIx us.length 0 lo)
theorem RepL.cut {B : Hp} {us : List U} {vs : List V} (r : RepL K B us vs) (lo hi : Option Int) : RepL K B (cutU us lo hi) (cutV vs lo hi) := by
  unfold cutU cutV
  rw [r.length]
  exact RepL.take _ (RepL.drop _ r)
def lstU : U → Option (List U)
  | .lst us => some us
  | .frl us => some us
  | _ => none
theorem lstU_ok {H : Hp} {u : U} {v : V} {us : List U} (r : Rep K H u v) (e : lstU u = some us) : ∃ a vs, v = .ref a ∧ SqL K H a vs ∧ RepL K H us vs := by
  cases u with
  | lst _ => cases e; obtain ⟨a, vs, rfl, h1, h2⟩ := r; exact ⟨a, vs, rfl, SqL.of h1, h2⟩
  | frl _ => cases e; obtain ⟨a, vs, rfl, h1, h2⟩ := r; exact ⟨a, vs, rfl, h1, h2⟩
  | _ => cases e
def mSlL (a : ME K) (lo hi : MO K) (hk : a.k = true := by exact id rfl) (h1 : lo.p = true := by exact id rfl) (h2 : hi.p = true := by exact id rfl) : MF K where
  t := fun W => L2.tSl (rSlL K) (a.t W) (lo.t W) (hi.t W)
  m := fun ρ => match a.m ρ with
    | none => none
    | some (.ex e ρ1) => some (.ex e ρ1)
    | some (.ok u ρ1) => match lo.m ρ1 with
      | none => none
      | some (.ex e ρ2) => some (.ex e ρ2)
      | some (.ok x ρ2) => match hi.m ρ2 with
        | none => none
        | some (.ex e ρ3) => some (.ex e ρ3)
        | some (.ok y ρ3) => (lstU u).map fun us => .ok (cutU us x y) ρ3
  p := a.p
  ok := fun F W ρ σ B H Q o e R f => by
    split at e
    · cases e
    · rename_i x ρ1 e1
      cases e
      exact a.ok F W ρ σ B H _ _ e1 R f
    · rename_i u ρ1 e1
      refine a.ok F W ρ σ B H _ _ e1 R fun v B1 H1 x1 p1 R1 r1 => ?_
      rw [hk] at r1
      split at e
      · cases e
      · rename_i x ρ2 e2
        cases e
        exact lo.ok F W ρ1 σ B1 H1 _ _ e2 R1 fun cls d B2 H2 x2 R2 xr => f cls d B2 H2 (x1.trans x2) R2 xr
      · rename_i x ρ2 e2
        refine lo.ok F W ρ1 σ B1 H1 _ _ e2 R1 fun B2 H2 x2 p2 R2 => ?_
        split at e
        · cases e
        · rename_i y ρ3 e3
          cases e
          exact hi.ok F W ρ2 σ B2 H2 _ _ e3 R2 fun cls d B3 H3 x3 R3 xr => f cls d B3 H3 ((x1.trans x2).trans x3) R3 xr
        · rename_i y ρ3 e3
          refine hi.ok F W ρ2 σ B2 H2 _ _ e3 R2 fun B3 H3 x3 p3 R3 => ?_
          obtain ⟨us, e4, rfl⟩ := Option.map_eq_some_iff.mp e
          have r3 := Rep.mono (x2.trans x3) _ _ r1
          obtain ⟨q, vs, rfl, h3, h4⟩ := lstU_ok r3 e4
          refine ⟨q, vs, rfl, Ex.l R3.ex h3, fun p hp => newF f ((x1.trans x2).trans x3) (fun c => ?_) R3 (h4.cut x y) hp⟩
          exact ⟨((p1 c).1.trans (p2 h1).1).trans (p3 h2).1, ((p3 h2).2.trans (p2 h1).2).trans (p1 c).2⟩
structure OpC (K : PySem.W.Frag) where
  r : List V → Hp → VK → Prop
  f : List U → Option U
  ok : ∀ (H : Hp) (xs : List V) (us : List U) (w : U), RepL K H us xs → f us = some w → ∃ z, scV w = some z ∧ ∀ Q : VK, Q z H → r xs H Q
def mBi (o : OpC K) (a : MA K) : ME K where
  t := fun W => tCB o.r (a.t W)
  m := fun ρ => bindAE (a.m ρ) fun us ρ1 => (o.f us).map fun w => .ok w ρ1
  p := a.p
  k := true
  ok := fun F W ρ σ B H Q out e R f => by
    rcases bindAE_some e with ⟨us, ρ1, e1, e⟩ | ⟨x, ρ1, e1, rfl⟩
    · refine a.ok F W ρ σ B H _ _ e1 R fun vs B1 H1 x1 p1 R1 r1 => ?_
      obtain ⟨w, ew, rfl⟩ := Option.map_eq_some_iff.mp e
      have r2 : RepL K H1 us vs := by
        cases ck : a.k with
        | true => rw [ck] at r1; exact RepL.mono R1.ex _ _ r1
        | false => rw [ck] at r1; exact r1
      obtain ⟨z, hz, q⟩ := o.ok H1 vs us w r2 ew
      exact q _ (f z B1 H1 x1 p1 R1 (by show Rep K B1 w z; exact rep_sc hz))
    · exact a.ok F W ρ σ B H _ _ e1 R fun cls d B1 H1 x1 R1 xr => f cls d B1 H1 x1 R1 xr
theorem repL1 {H : Hp} {u : U} {xs : List V} (r : RepL K H [u] xs) : ∃ v, xs = [v] ∧ Rep K H u v := by
  obtain ⟨v, vr, rfl, h1, h2⟩ := r; cases h2; exact ⟨v, rfl, h1⟩
theorem repL2 {H : Hp} {u w : U} {xs : List V} (r : RepL K H [u, w] xs) : ∃ v x, xs = [v, x] ∧ Rep K H u v ∧ Rep K H w x := by
  obtain ⟨v, vr, rfl, h1, h2⟩ := r
  obtain ⟨x, h3, h4⟩ := repL1 h2
  exact ⟨v, x, by rw [h3], h1, h4⟩
def lenU : U → Option Int
  | .str s => if s.length ≤ 16777216 then some s.length else none
  | u => (seqU u).map fun us => (us.length : Int)
def rLenX (K : PySem.W.Frag) : List V → Hp → VK → Prop := fun xs H Q => ∃ x n, xs = [x] ∧ LenV K x H n ∧ Q (.int n) H
def oLen : OpC K where
  r := rLenX K
  f := fun us => match us with
    | [u] => (lenU u).map .int
    | _ => none
  ok := fun H xs us w r e => by
    split at e
    · rename_i u
      obtain ⟨v, rfl, r1⟩ := repL1 r
      obtain ⟨n, e0, rfl⟩ := Option.map_eq_some_iff.mp e
      unfold lenU at e0
      split at e0
      · rename_i s
        split at e0
        · rename_i h
          cases e0; cases r1
          exact ⟨_, rfl, fun Q q => ⟨_, s.length, rfl, ⟨by rw [PySem.sizeLine_eq]; exact h, rfl⟩, q⟩⟩
        · cases e0
      · obtain ⟨us, e1, rfl⟩ := Option.map_eq_some_iff.mp e0
        obtain ⟨a, vs, rfl, h1, h2⟩ := seqU_ok r1 e1
        refine ⟨_, rfl, fun Q q => ⟨_, vs.length, rfl, ?_, by rw [h2.length]; exact q⟩⟩
        rcases h1 with h1 | h1
        · exact .inl ⟨vs, h1, rfl⟩
        · exact .inr ⟨vs, h1, rfl⟩
    · cases e
def oAbs : OpC K where
  r := fun xs H Q => ∃ i, xs = [.int i] ∧ Q (.int (if i < 0 then -i else i)) H
  f := fun us => match us with
    | [.int i] => some (.int (if i < 0 then -i else i))
    | _ => none
  ok := fun H xs us w r e => by
    split at e
    · obtain ⟨v, rfl, r1⟩ := repL1 r
      cases e; cases r1
      exact ⟨_, rfl, fun Q q => ⟨_, rfl, q⟩⟩
    · cases e
def oMax2 : OpC K where
  r := fun xs H Q => ∃ i j, xs = [.int i, .int j] ∧ Q (.int (if j > i then j else i)) H
  f := fun us => match us with
    | [.int i, .int j] => some (.int (if j > i then j else i))
    | _ => none
  ok := fun H xs us w r e => by
    split at e
    · obtain ⟨v, x, rfl, r1, r2⟩ := repL2 r
      cases e; cases r1; cases r2
      exact ⟨_, rfl, fun Q q => ⟨_, _, rfl, q⟩⟩
    · cases e
def oMin2 : OpC K where
  r := fun xs H Q => ∃ i j, xs = [.int i, .int j] ∧ Q (.int (if j < i then j else i)) H
  f := fun us => match us with
    | [.int i, .int j] => some (.int (if j < i then j else i))
    | _ => none
  ok := fun H xs us w r e => by
    split at e
    · obtain ⟨v, x, rfl, r1, r2⟩ := repL2 r
      cases e; cases r1; cases r2
      exact ⟨_, rfl, fun Q q => ⟨_, _, rfl, q⟩⟩
    · cases e
def rInt1 : List V → Hp → VK → Prop := fun xs H Q => (∃ i, xs = [.int i] ∧ Q (.int i) H) ∨ ∃ k, xs = [.bl k] ∧ Q (.int (if k then 1 else 0)) H
def oInt : OpC K where
  r := rInt1
  f := fun us => match us with
    | [.int i] => some (.int i)
    | [.bl k] => some (.int (if k then 1 else 0))
    | _ => none
  ok := fun H xs us w r e => by
    split at e
    · obtain ⟨v, rfl, r1⟩ := repL1 r
      cases e; cases r1
      exact ⟨_, rfl, fun Q q => .inl ⟨_, rfl, q⟩⟩
    · obtain ⟨v, rfl, r1⟩ := repL1 r
      cases e; cases r1
      exact ⟨_, rfl, fun Q q => .inr ⟨_, rfl, q⟩⟩
    · cases e
def intsU : List U → Option (List Int)
  | [] => some []
  | .int i :: us => (intsU us).map fun is => i :: is
  | _ => none
theorem intsU_ok {H : Hp} : ∀ {us : List U} {vs : List V} {is : List Int}, RepL K H us vs → intsU us = some is → vs = is.map V.int
  | [], _, _, r, e => by cases r; cases e; rfl
  | u :: us, _, _, r, e => by
    obtain ⟨v, vr, rfl, h1, h2⟩ := r
    cases u with
    | int i =>
      obtain ⟨is, e1, rfl⟩ := Option.map_eq_some_iff.mp e
      have : v = .int i := h1
      rw [this, intsU_ok h2 e1]; rfl
    | _ => cases e
def blsU : List U → Option (List Bool)
  | [] => some []
  | .bl i :: us => (blsU us).map fun is => i :: is
  | _ => none
theorem blsU_ok {H : Hp} : ∀ {us : List U} {vs : List V} {is : List Bool}, RepL K H us vs → blsU us = some is → vs = is.map V.bl
  | [], _, _, r, e => by cases r; cases e; rfl
  | u :: us, _, _, r, e => by
    obtain ⟨v, vr, rfl, h1, h2⟩ := r
    cases u with
    | bl i =>
      obtain ⟨is, e1, rfl⟩ := Option.map_eq_some_iff.mp e
      have : v = .bl i := h1
      rw [this, blsU_ok h2 e1]; rfl
    | _ => cases e
def oSum : OpC K where
  r := rSum K
  f := fun us => match us with
    | [u] => (lstU u).bind fun xs => (intsU xs).map fun is => .int is.sum
    | _ => none
  ok := fun H xs us w r e => by
    split at e
    · obtain ⟨v, rfl, r1⟩ := repL1 r
      obtain ⟨us, e1, e⟩ := Option.bind_eq_some_iff.mp e
      obtain ⟨is, e2, rfl⟩ := Option.map_eq_some_iff.mp e
      obtain ⟨a, vs, rfl, h1, h2⟩ := lstU_ok r1 e1
      exact ⟨_, rfl, fun Q q => ⟨a, is, rfl, by rw [← intsU_ok h2 e2]; exact h1, q⟩⟩
    · cases e
def oAll : OpC K where
  r := rAll K
  f := fun us => match us with
    | [u] => (lstU u).bind fun xs => (blsU xs).map fun is => .bl (is.all id)
    | _ => none
  ok := fun H xs us w r e => by
    split at e
    · obtain ⟨v, rfl, r1⟩ := repL1 r
      obtain ⟨us, e1, e⟩ := Option.bind_eq_some_iff.mp e
      obtain ⟨is, e2, rfl⟩ := Option.map_eq_some_iff.mp e
      obtain ⟨a, vs, rfl, h1, h2⟩ := lstU_ok r1 e1
      exact ⟨_, rfl, fun Q q => ⟨a, is, rfl, by rw [← blsU_ok h2 e2]; exact h1, q⟩⟩
    · cases e
structure OpF (K : PySem.W.Frag) where
  r : List V → Hp → VK → Prop
  f : List U → Option (List U)
  ok : ∀ (B H : Hp) (xs : List V) (us ws : List U) (Q : VK), Ex B H → RepL K B us xs → f us = some ws → (∀ zs, RepL K B ws zs → ∀ p, H p = none → Q (.ref p) (upd H p (.lst zs))) → r xs H Q
def mBiF (o : OpF K) (a : MA K) (hk : a.k = true := by exact id rfl) : MF K where
  t := fun W => tCB o.r (a.t W)
  m := fun ρ => match a.m ρ with
    | some (.ok us ρ1) => (o.f us).map fun ws => .ok ws ρ1
    | x => x
  p := a.p
  ok := fun F W ρ σ B H Q out e R f => by
    split at e
    · rename_i us ρ1 e1
      obtain ⟨ws, ew, rfl⟩ := Option.map_eq_some_iff.mp e
      refine a.ok F W ρ σ B H _ _ e1 R fun vs B1 H1 x1 p1 R1 r1 => ?_
      rw [hk] at r1
      exact o.ok B1 H1 vs us ws _ R1.ex r1 ew fun zs rz p hp => newF f x1 p1 R1 rz hp
    · rename_i h2
      cases o : a.m ρ with
      | none => rw [o] at e; cases e
      | some x =>
        rw [o] at e; cases e
        cases out with
        | ok us ρ1 => exact absurd o (h2 us ρ1)
        | ex x ρ1 => exact a.ok F W ρ σ B H _ _ o R f
def rListX (K : PySem.W.Frag) : List V → Hp → VK → Prop := fun xs H Q => ∃ p ys, xs = [.ref p] ∧ (SqL K H p ys ∨ SqT K H p ys) ∧ ∀ l, H l = none → Q (.ref l) (upd H l (.lst ys))
def oList : OpF K where
  r := rListX K
  f := fun us => match us with
    | [u] => seqU u
    | _ => none
  ok := fun B H xs us ws Q ex r e f => by
    split at e
    · obtain ⟨v, rfl, r1⟩ := repL1 r
      obtain ⟨a, vs, rfl, h1, h2⟩ := seqU_ok r1 e
      refine ⟨a, vs, rfl, ?_, fun l hl => f vs h2 l hl⟩
      rcases h1 with h1 | h1
      · exact .inl (Ex.l ex h1)
      · exact .inr (Ex.t ex h1)
    · cases e
def insI (x : Int) : List Int → List Int
  | [] => [x]
  | y :: r => if x ≤ y then x :: y :: r else y :: insI x r
def sortI : List Int → List Int
  | [] => []
  | x :: r => insI x (sortI r)
theorem insI_perm (x : Int) : ∀ l, (insI x l).Perm (x :: l)
  | [] => .refl _
  | y :: r => by
    unfold insI
    split
    · exact .refl _
    · exact ((insI_perm x r).cons y).trans (.swap x y r)
theorem sortI_perm : ∀ l, (sortI l).Perm l
  | [] => .refl _
  | x :: r => (insI_perm x (sortI r)).trans ((sortI_perm r).cons x)
theorem insI_sorted (x : Int) : ∀ {l : List Int}, l.Pairwise (· ≤ ·) → (insI x l).Pairwise (· ≤ ·)
  | [], _ => by simp [insI]
  | y :: r, h => by
    unfold insI
    obtain ⟨h1, h2⟩ := List.pairwise_cons.mp h
    split
    · rename_i c
      exact List.pairwise_cons.mpr ⟨fun z hz => by rcases List.mem_cons.mp hz with rfl | hz; exact c; exact Int.le_trans c (h1 z hz), h⟩
    · rename_i c
      refine List.pairwise_cons.mpr ⟨fun z hz => ?_, insI_sorted x h2⟩
      rcases List.mem_cons.mp ((insI_perm x r).mem_iff.mp hz) with rfl | hz
      · omega
      · exact h1 z hz
theorem sortI_sorted : ∀ l, (sortI l).Pairwise (· ≤ ·)
  | [] => .nil
  | x :: r => insI_sorted x (sortI_sorted r)
theorem sortI_uniq : ∀ {l l' : List Int}, l.Perm l' → l.Pairwise (· ≤ ·) → l'.Pairwise (· ≤ ·) → l = l'
  | l, l', p, h, h' => p.eq_of_pairwise (fun a b _ _ h1 h2 => Int.le_antisymm h1 h2) h h'
def oSorted : OpF K where
  r := rSortedI K
  f := fun us => match us with
    | [u] => (lstU u).bind fun xs => (intsU xs).map fun is => (sortI is).map U.int
    | _ => none
  ok := fun B H xs us ws Q ex r e f => by
    split at e
    · obtain ⟨v, rfl, r1⟩ := repL1 r
      obtain ⟨us, e1, e⟩ := Option.bind_eq_some_iff.mp e
      obtain ⟨is, e2, rfl⟩ := Option.map_eq_some_iff.mp e
      obtain ⟨a, vs, rfl, h1, h2⟩ := lstU_ok r1 e1
      refine ⟨a, is, rfl, by rw [← intsU_ok h2 e2]; exact Ex.l ex h1, fun ns' p hp hs hn => ?_⟩
      have : ns' = sortI is := sortI_uniq (hp.trans (sortI_perm is).symm) hs (sortI_sorted is)
      subst this
      refine f _ ?_ p hn
      generalize sortI is = l
      induction l with
      | nil => exact rfl
      | cons x l ih => exact ⟨_, _, rfl, rfl, ih⟩
    · cases e
theorem Itok_list {B : Hp} {us : List U} {a : Addr} {vs : List V} (h : SqL K B a vs) (r : RepL K B us vs) : ItOk K B us (Itl K a) := fun i B1 H1 x1 x2 => by
  have h1 : SqL K H1 a vs := Ex.l x2 (Ex.l x1 h)
  refine ⟨fun hi => ⟨vs, h1, by rw [r.length]; exact hi⟩, fun u hu => ?_⟩
  obtain ⟨v, hv, rv⟩ := r.get hu
  refine ⟨⟨vs, v, h1, hv⟩, fun x H2 hy => ?_⟩
  obtain ⟨rfl, q⟩ := hy
  have := q vs h1
  rw [hv] at this; cases this
  exact ⟨B1, Go.refl x2, Rep.mono x1 _ _ rv⟩
end Sg
set_option Elab.async false
set_option linter.all false
set_option maxRecDepth 100000
set_option maxHeartbeats 4000000
namespace Sg
open PySem L2
variable {K : PySem.W.Frag}
def miList (a : ME K) (hk : a.k = true := by exact id rfl) : MI K where
  t := fun W => iList K (a.t W)
  m := fun ρ => match a.m ρ with
    | some (.ok u ρ1) => (lstU u).map fun us => .ok us ρ1
    | some (.ex e ρ1) => some (.ex e ρ1)
    | none => none
  ok := fun F W ρ σ B H Q out e R f => by
    split at e
    · rename_i u ρ1 e1
      obtain ⟨us, e2, rfl⟩ := Option.map_eq_some_iff.mp e
      refine a.ok F W ρ σ B H _ _ e1 R fun v1 B1 H1 x1 p1 R1 r1 => ?_
      rw [hk] at r1
      obtain ⟨q, vs, rfl, h1, h2⟩ := lstU_ok r1 e2
      exact ⟨q, rfl, ⟨vs, Ex.l R1.ex h1⟩, f _ B1 H1 x1 R1 (Itok_list h1 h2)⟩
    · rename_i x ρ1 e1
      cases e
      exact a.ok F W ρ σ B H _ _ e1 R f
    · cases e
def miTup (a : ME K) (hk : a.k = true := by exact id rfl) : MI K where
  t := fun W => iTup K (a.t W)
  m := fun ρ => match a.m ρ with
    | some (.ok (.tup us) ρ1) => some (.ok us ρ1)
    | some (.ex e ρ1) => some (.ex e ρ1)
    | _ => none
  ok := fun F W ρ σ B H Q out e R f => by
    split at e
    · rename_i us ρ1 e1
      cases e
      refine a.ok F W ρ σ B H _ _ e1 R fun v1 B1 H1 x1 p1 R1 r1 => ?_
      rw [hk] at r1
      obtain ⟨q, vs, rfl, h1, h2⟩ := r1
      refine ⟨q, rfl, ⟨vs, Ex.t R1.ex h1⟩, f _ B1 H1 x1 R1 fun i B2 H2 y1 y2 => ?_⟩
      have h3 : SqT K H2 q vs := Ex.t y2 (Ex.t y1 h1)
      refine ⟨fun hi => ⟨vs, h3, by rw [h2.length]; exact hi⟩, fun u hu => ?_⟩
      obtain ⟨v, hv, rv⟩ := h2.get hu
      refine ⟨⟨vs, v, h3, hv⟩, fun x H3 hy => ?_⟩
      obtain ⟨rfl, q⟩ := hy
      have := q vs h3
      rw [hv] at this; cases this
      exact ⟨B2, Go.refl y2, Rep.mono y1 _ _ rv⟩
    · rename_i x ρ1 e1
      cases e
      exact a.ok F W ρ σ B H _ _ e1 R f
    · cases e
def rangeU (lo : Int) (n : Nat) : List U := (List.range n).map fun i => .int (lo + (i : Nat))
theorem Itok_range {B : Hp} (lo : Int) (n : Nat) : ItOk K B (rangeU lo n) (Itr lo n) := fun i B1 H1 x1 x2 => by
  refine ⟨fun hi => (show n ≤ i from by simpa [rangeU] using hi), fun u hu => ?_⟩
  unfold rangeU at hu
  rw [List.getElem?_map] at hu
  obtain ⟨j, e1, rfl⟩ := Option.map_eq_some_iff.mp hu
  obtain ⟨h1, h2⟩ := List.getElem?_eq_some_iff.mp e1
  have h3 : i < n := by simpa using h1
  have h4 : j = i := by rw [← h2]; simp
  subst h4
  refine ⟨h3, fun x H2 hy => ?_⟩
  obtain ⟨rfl, rfl⟩ := hy
  exact ⟨B1, Go.refl x2, rfl⟩
def rngOk (i j : Int) : Bool := decide (-(2 ^ 62) ≤ i ∧ i < 2 ^ 62 ∧ -(2 ^ 62) ≤ j ∧ j < 2 ^ 62)
def miRng1 (a : ME K) : MI K where
  t := fun W => iRng1 (tCons (a.t W) tNil)
  m := fun ρ => match a.m ρ with
    | some (.ok (.int j) ρ1) => if rngOk 0 j = true then some (.ok (rangeU 0 j.toNat) ρ1) else none
    | some (.ex e ρ1) => some (.ex e ρ1)
    | _ => none
  ok := fun F W ρ σ B H Q out e R f => by
    split at e
    · rename_i j ρ1 e1
      split at e
      · rename_i h
        cases e
        obtain ⟨_, _, h3, h4⟩ := of_decide_eq_true h
        refine a.ok F W ρ σ B H _ _ e1 R fun v1 B1 H1 x1 p1 R1 r1 => ?_
        have r2 : v1 = .int j := rep_up R1 r1
        subst r2
        exact ⟨j, rfl, h3, h4, f _ B1 H1 x1 R1 (Itok_range 0 _)⟩
      · cases e
    · rename_i x ρ1 e1
      cases e
      exact a.ok F W ρ σ B H _ _ e1 R f
    · cases e
def enumU : Nat → List U → List U
  | _, [] => []
  | k, u :: r => .tup [.int (k : Nat), u] :: enumU (k + 1) r
theorem enumU_get : ∀ (us : List U) (k i : Nat), (enumU k us)[i]? = us[i]?.map fun u => .tup [.int ((k + i : Nat) : Nat), u]
  | [], k, i => by simp [enumU]
  | u :: r, k, 0 => by simp [enumU]
  | u :: r, k, i + 1 => by
    have := enumU_get r (k + 1) i
    simp only [enumU, List.getElem?_cons_succ, this]
    rw [show k + 1 + i = k + (i + 1) by omega]
theorem enumU_len : ∀ (us : List U) (k : Nat), (enumU k us).length = us.length
  | [], _ => rfl
  | _ :: r, k => by simp [enumU, enumU_len r]
def zipU : List U → List U → List U
  | u :: r, v :: s => .tup [u, v] :: zipU r s
  | _, _ => []
theorem zipU_get : ∀ (us vs : List U) (i : Nat) (w : U), (zipU us vs)[i]? = some w → ∃ u v, us[i]? = some u ∧ vs[i]? = some v ∧ w = .tup [u, v]
  | [], _, i, w, h => by simp [zipU] at h
  | u :: r, [], i, w, h => by simp [zipU] at h
  | u :: r, v :: s, 0, w, h => by simp [zipU] at h; exact ⟨u, v, rfl, rfl, h.symm⟩
  | u :: r, v :: s, i + 1, w, h => by
    obtain ⟨a, b, h1, h2, h3⟩ := zipU_get r s i w (by simpa [zipU] using h)
    exact ⟨a, b, by simpa using h1, by simpa using h2, h3⟩
theorem zipU_len : ∀ (us vs : List U), (zipU us vs).length = min us.length vs.length
  | [], _ => by simp [zipU]
  | u :: r, [] => by simp [zipU]
  | u :: r, v :: s => by simp [zipU, zipU_len r s]
def miEnum (a : ME K) (hk : a.k = true := by exact id rfl) : MI K where
  t := fun W => iEnum K (tCons (a.t W) tNil)
  m := fun ρ => match a.m ρ with
    | some (.ok u ρ1) => (lstU u).map fun us => .ok (enumU 0 us) ρ1
    | some (.ex e ρ1) => some (.ex e ρ1)
    | none => none
  ok := fun F W ρ σ B H Q out e R f => by
    split at e
    · rename_i u ρ1 e1
      obtain ⟨us, e2, rfl⟩ := Option.map_eq_some_iff.mp e
      refine a.ok F W ρ σ B H _ _ e1 R fun v1 B1 H1 x1 p1 R1 r1 => ?_
      rw [hk] at r1
      obtain ⟨q, vs, rfl, h1, h2⟩ := lstU_ok r1 e2
      refine ⟨q, vs, rfl, Ex.l R1.ex h1, f _ B1 H1 x1 R1 fun i B2 H2 y1 y2 => ?_⟩
      have h3 : SqL K H2 q vs := Ex.l y2 (Ex.l y1 h1)
      refine ⟨fun hi => ⟨vs, h3, by rw [h2.length]; rw [enumU_len] at hi; exact hi⟩, fun w hw => ?_⟩
      rw [enumU_get] at hw
      obtain ⟨u, hu, rfl⟩ := Option.map_eq_some_iff.mp hw
      obtain ⟨v, hv, rv⟩ := h2.get hu
      refine ⟨⟨vs, v, h3, hv⟩, fun x H3 hy => ?_⟩
      obtain ⟨T, x0, rfl, hT, rfl, hx⟩ := hy
      have := hx vs h3
      rw [hv] at this; cases this
      have g := Go.newB (o := .tup [.int ((i : Nat) : Int), v]) y2 hT
      refine ⟨_, g, T, _, rfl, .inl (.inl upd_same), _, _, rfl, ?_, _, _, rfl, Rep.mono g.bb _ _ (Rep.mono y1 _ _ rv), rfl⟩
      show V.int _ = V.int _
      rw [Nat.zero_add]
    · rename_i x ρ1 e1
      cases e
      exact a.ok F W ρ σ B H _ _ e1 R f
    · cases e
def miZip (a b : ME K) (hk : (a.k && b.k) = true := by exact id rfl) : MI K where
  t := fun W => iZip K (tCons (a.t W) (tCons (b.t W) tNil))
  m := fun ρ => match a.m ρ with
    | some (.ok u ρ1) => (match b.m ρ1 with
      | some (.ok v ρ2) => (lstU u).bind fun us => (lstU v).map fun vs => .ok (zipU us vs) ρ2
      | some (.ex e ρ2) => some (.ex e ρ2)
      | none => none)
    | some (.ex e ρ1) => some (.ex e ρ1)
    | none => none
  ok := fun F W ρ σ B H Q out e R f => by
    obtain ⟨ka, kb⟩ := Bool.and_eq_true_iff.mp hk
    split at e
    · rename_i u ρ1 e1
      refine a.ok F W ρ σ B H _ _ e1 R fun v1 B1 H1 x1 p1 R1 r1 => ?_
      rw [ka] at r1
      split at e
      · rename_i v ρ2 e2
        refine b.ok F W ρ1 σ B1 H1 _ _ e2 R1 fun v2 B2 H2 x2 p2 R2 r2 => ?_
        rw [kb] at r2
        obtain ⟨us, e3, e⟩ := Option.bind_eq_some_iff.mp e
        obtain ⟨vs, e4, rfl⟩ := Option.map_eq_some_iff.mp e
        obtain ⟨q, xs, rfl, h1, h2⟩ := lstU_ok (Rep.mono x2 _ _ r1) e3
        obtain ⟨q', ys, rfl, h1', h2'⟩ := lstU_ok r2 e4
        refine ⟨q, q', xs, ys, rfl, Ex.l R2.ex h1, Ex.l R2.ex h1', f _ B2 H2 (x1.trans x2) R2 fun i B3 H3 y1 y2 => ?_⟩
        have h3 : SqL K H3 q xs := Ex.l y2 (Ex.l y1 h1)
        have h3' : SqL K H3 q' ys := Ex.l y2 (Ex.l y1 h1')
        refine ⟨fun hi => ⟨xs, ys, h3, h3', by rw [h2.length, h2'.length]; rw [zipU_len] at hi; omega⟩, fun w hw => ?_⟩
        obtain ⟨u0, w0, hu, hw0, rfl⟩ := zipU_get us vs i w hw
        obtain ⟨v, hv, rv⟩ := h2.get hu
        obtain ⟨v', hv', rv'⟩ := h2'.get hw0
        refine ⟨⟨xs, ys, v, v', h3, h3', hv, hv'⟩, fun x H4 hy => ?_⟩
        obtain ⟨T, x0, y0, rfl, hT, rfl, hx, hy⟩ := hy
        have q1 := hx xs h3
        have q2 := hy ys h3'
        rw [hv] at q1; rw [hv'] at q2; cases q1; cases q2
        have g := Go.newB (o := .tup [v, v']) y2 hT
        exact ⟨_, g, T, _, rfl, .inl (.inl upd_same), _, _, rfl, Rep.mono g.bb _ _ (Rep.mono y1 _ _ rv), _, _, rfl, Rep.mono g.bb _ _ (Rep.mono y1 _ _ rv'), rfl⟩
      · rename_i x ρ2 e2
        cases e
        exact b.ok F W ρ1 σ B1 H1 _ _ e2 R1 fun cls d B2 H2 x2 R2 xr => f cls d B2 H2 (x1.trans x2) R2 xr
      · cases e
    · rename_i x ρ1 e1
      cases e
      exact a.ok F W ρ σ B H _ _ e1 R f
    · cases e
structure OpM (K : PySem.W.Frag) where
  r : V → List V → Hp → VK → Prop
  f : List U → List U → Option (U × List U)
  ok : ∀ (B H : Hp) (p : Addr) (us ws xs : List U) (vs zs : List V) (w : U) (Q : VK), Ex B H → H p = some (.lst vs) → B p = none → RepL K B us vs → RepL K B xs zs → f us xs = some (w, ws) →
    (∀ ys z, RepL K B ws ys → Rep K B w z → Q z (upd H p (.lst ys))) → r (.ref p) zs H Q
theorem tyL {H : Hp} {p : Addr} {vs : List V} (h : H p = some (.lst vs)) : tyV K "list" (.ref p) H := .inl ⟨rfl, vs, SqL.of h⟩
def mMeth (j : Nat) (o : OpM K) (a : MA K) (hk : a.k = true := by exact id rfl) : ME K where
  t := fun W => tBM K "list" o.r (tVar j) (a.t W)
  m := fun ρ => match ρ[j]? with
    | some (.cel _ _) => (match a.m ρ with
      | some (.ok xs ρ1) => (match ρ1[j]? with
        | some (.cel own us) => (o.f us xs).map fun q => .ok q.1 (ρ1.set j (.cel own q.2))
        | _ => none)
      | some (.ex e ρ1) => some (.ex e ρ1)
      | none => none)
    | _ => none
  p := false
  k := true
  ok := fun F W ρ σ B H Q out e R f => by
    split at e
    · rename_i own0 us0 h0
      obtain ⟨p, ws, hv, z1, z2, z3, _⟩ := R.sl j _ h0
      refine ⟨_, getD_some hv, tyL z1, ?_⟩
      split at e
      · rename_i xs ρ1 e1
        refine a.ok F W ρ σ B H _ _ e1 R fun vs B1 H1 x1 p1 R1 r1 => ?_
        rw [hk] at r1
        split at e
        · rename_i own us h1
          obtain ⟨⟨w, ws'⟩, e2, rfl⟩ := Option.map_eq_some_iff.mp e
          obtain ⟨p', ws1, hv', y1, y2, y3, _⟩ := R1.sl j _ h1
          rw [hv] at hv'; cases hv'
          exact o.ok B1 H1 p us ws' xs ws1 vs w _ R1.ex y1 y2 y3 r1 e2 fun ys z ry rz => f z B1 _ x1 (fun z => nomatch z) (R1.wrC h1 hv y1 y2 ry) rz
        · cases e
      · rename_i x ρ1 e1
        cases e
        exact a.ok F W ρ σ B H _ _ e1 R f
      · cases e
    · cases e
def oAppend : OpM K where
  r := rAppend
  f := fun us xs => match xs with
    | [x] => if us.length < 16777216 then some (.non, us ++ [x]) else none
    | _ => none
  ok := fun B H p us ws xs vs zs w Q ex h1 h2 h3 h4 e f => by
    split at e
    · split at e
      · rename_i hl
        cases e
        obtain ⟨v, rfl, r1⟩ := repL1 h4
        exact ⟨p, vs, v, rfl, rfl, h1, by rw [h3.length, PySem.sizeLine_eq]; exact hl, f _ _ (h3.append (RepL.one r1)) rfl⟩
      · cases e
    · cases e
def oExtend : OpM K where
  r := rExtend
  f := fun us xs => match xs with
    | [.lst ys] => if us.length + ys.length ≤ 16777216 then some (.non, us ++ ys) else none
    | _ => none
  ok := fun B H p us ws xs vs zs w Q ex h1 h2 h3 h4 e f => by
    split at e
    · split at e
      · rename_i hl
        cases e
        obtain ⟨v, rfl, r1⟩ := repL1 h4
        obtain ⟨q, ys, rfl, k1, k2⟩ := r1
        exact ⟨p, q, vs, ys, rfl, rfl, h1, ex _ _ k1, by rw [h3.length, k2.length, PySem.sizeLine_eq]; exact hl, f _ _ (h3.append k2) rfl⟩
      · cases e
    · cases e
def oPopAt : OpM K where
  r := rPopAt
  f := fun us xs => match xs with
    | [.int i] => if -(2 ^ 63) ≤ i ∧ i < 2 ^ 63 then (seqIndex? i us.length).bind fun k => us[k]?.map fun u => (u, us.eraseIdx k) else none
    | _ => none
  ok := fun B H p us ws xs vs zs w Q ex h1 h2 h3 h4 e f => by
    split at e
    · rename_i i
      split at e
      · rename_i hl
        obtain ⟨k, e1, e2⟩ := Option.bind_eq_some_iff.mp e
        obtain ⟨u, e3, e4⟩ := Option.map_eq_some_iff.mp e2
        cases e4
        obtain ⟨v, rfl, r1⟩ := repL1 h4
        obtain ⟨y, hy, ry⟩ := h3.get e3
        have : v = .int i := r1
        subst this
        exact ⟨p, vs, i, k, y, rfl, rfl, h1, hl.1, hl.2, by rw [h3.length]; exact e1, hy, f _ _ (h3.eraseIdx k) ry⟩
      · cases e
    · cases e
def msSet (j : Nat) (i e : ME K) (hk : e.k = true := by exact id rfl) : MS K where
  t := fun W => tAsg (e.t W) (gSub (tVar j) (i.t W) rSetL)
  m := fun ρ => match e.m ρ with
    | none => none
    | some (.ex x ρ1) => some (.ex x ρ1)
    | some (.ok u ρ1) => match ρ1[j]? with
      | some (.cel _ _) => (match i.m ρ1 with
        | none => none
        | some (.ex x ρ2) => some (.ex x ρ2)
        | some (.ok (.int n) ρ2) => (match ρ2[j]? with
          | some (.cel own us) => (ixN us.length n).map fun k => .nx (ρ2.set j (.cel own (us.set k u)))
          | _ => none)
        | _ => none)
      | _ => none
  ok := fun F W ρ σ B H D o q R f => by
    split at q
    · cases q
    · rename_i x ρ1 e1
      cases q
      exact e.ok F W ρ σ B H _ _ e1 R fun cls d B1 H1 x1 R1 xr => f cls d σ B1 H1 x1 R1 xr
    · rename_i u ρ1 e1
      refine e.ok F W ρ σ B H _ _ e1 R fun v1 B1 H1 x1 p1 R1 r1 => ?_
      rw [hk] at r1
      split at q
      · rename_i own0 us0 h0
        obtain ⟨p, ws, hv, z1, z2, z3, _⟩ := R1.sl j _ h0
        refine ⟨_, getD_some hv, ?_⟩
        split at q
        · cases q
        · rename_i x ρ2 e2
          cases q
          exact i.ok F W ρ1 σ B1 H1 _ _ e2 R1 fun cls d B2 H2 x2 R2 xr => f cls d σ B2 H2 (x1.trans x2) R2 xr
        · rename_i n ρ2 e2
          refine i.ok F W ρ1 σ B1 H1 _ _ e2 R1 fun v2 B2 H2 x2 p2 R2 r2 => ?_
          have r3 : v2 = .int n := rep_up R2 r2
          subst r3
          split at q
          · rename_i own us h1
            obtain ⟨k, ek, rfl⟩ := Option.map_eq_some_iff.mp q
            obtain ⟨p', ws1, hv', y1, y2, y3, _⟩ := R2.sl j _ h1
            rw [hv] at hv'; cases hv'
            refine ⟨p, ws1, n, k, rfl, rfl, y1, by rw [y3.length]; exact ek, ?_⟩
            exact f σ B2 _ (x1.trans x2) (R2.wrC h1 hv y1 y2 (RepL.set (Rep.mono x2 _ _ r1) k y3))
          · cases q
        · cases q
      · cases q
def mCat (a b : ME K) (hk : (a.k && b.k) = true := by exact id rfl) : MF K where
  t := fun W => tOp rCat (a.t W) (b.t W)
  m := fun ρ => match a.m ρ with
    | some (.ok (.lst us) ρ1) => (match b.m ρ1 with
      | some (.ok (.lst vs) ρ2) => if us.length + vs.length ≤ 16777216 then some (.ok (us ++ vs) ρ2) else none
      | some (.ex e ρ2) => some (.ex e ρ2)
      | _ => none)
    | some (.ex e ρ1) => some (.ex e ρ1)
    | _ => none
  p := a.p && b.p
  ok := fun F W ρ σ B H Q out e R f => by
    obtain ⟨ka, kb⟩ := Bool.and_eq_true_iff.mp hk
    split at e
    · rename_i us ρ1 e1
      refine a.ok F W ρ σ B H _ _ e1 R fun v1 B1 H1 x1 p1 R1 r1 => ?_
      rw [ka] at r1
      split at e
      · rename_i vs ρ2 e2
        split at e
        · rename_i hl
          cases e
          refine b.ok F W ρ1 σ B1 H1 _ _ e2 R1 fun v2 B2 H2 x2 p2 R2 r2 => ?_
          rw [kb] at r2
          obtain ⟨q, xs, rfl, h1, h2⟩ := Rep.mono x2 _ _ r1
          obtain ⟨q', ys, rfl, h1', h2'⟩ := r2
          refine ⟨q, q', xs, ys, rfl, rfl, R2.ex _ _ h1, R2.ex _ _ h1', by rw [h2.length, h2'.length, PySem.sizeLine_eq]; exact hl, fun z hz => newF f (x1.trans x2) (fun c => ?_) R2 (h2.append h2') hz⟩
          obtain ⟨c1, c2⟩ := Bool.and_eq_true_iff.mp c
          exact ⟨(p1 c1).1.trans (p2 c2).1, (p2 c2).2.trans (p1 c1).2⟩
        · cases e
      · rename_i x ρ2 e2
        cases e
        exact b.ok F W ρ1 σ B1 H1 _ _ e2 R1 fun cls d B2 H2 x2 R2 xr => f cls d B2 H2 (x1.trans x2) R2 xr
      · cases e
    · rename_i x ρ1 e1
      cases e
      exact a.ok F W ρ σ B H _ _ e1 R f
    · cases e
def mRepeat (a b : ME K) (hk : a.k = true := by exact id rfl) : MF K where
  t := fun W => tOp rRep (a.t W) (b.t W)
  m := fun ρ => match a.m ρ with
    | some (.ok (.lst us) ρ1) => (match b.m ρ1 with
      | some (.ok (.int n) ρ2) => if -(2 ^ 63) ≤ n ∧ n < 2 ^ 63 ∧ us.length * n.toNat ≤ 16777216 then some (.ok (List.replicate n.toNat us).flatten ρ2) else none
      | some (.ex e ρ2) => some (.ex e ρ2)
      | _ => none)
    | some (.ex e ρ1) => some (.ex e ρ1)
    | _ => none
  p := a.p && b.p
  ok := fun F W ρ σ B H Q out e R f => by
    split at e
    · rename_i us ρ1 e1
      refine a.ok F W ρ σ B H _ _ e1 R fun v1 B1 H1 x1 p1 R1 r1 => ?_
      rw [hk] at r1
      split at e
      · rename_i n ρ2 e2
        split at e
        · rename_i hl
          cases e
          refine b.ok F W ρ1 σ B1 H1 _ _ e2 R1 fun v2 B2 H2 x2 p2 R2 r2 => ?_
          have r3 : v2 = .int n := rep_up R2 r2
          subst r3
          obtain ⟨q, xs, rfl, h1, h2⟩ := Rep.mono x2 _ _ r1
          refine ⟨q, n, xs, rfl, rfl, R2.ex _ _ h1, hl.1, hl.2.1, by rw [h2.length, PySem.sizeLine_eq]; exact hl.2.2, fun z hz => newF f (x1.trans x2) (fun c => ?_) R2 (h2.replicate _) hz⟩
          obtain ⟨c1, c2⟩ := Bool.and_eq_true_iff.mp c
          exact ⟨(p1 c1).1.trans (p2 c2).1, (p2 c2).2.trans (p1 c1).2⟩
        · cases e
      · rename_i x ρ2 e2
        cases e
        exact b.ok F W ρ1 σ B1 H1 _ _ e2 R1 fun cls d B2 H2 x2 R2 xr => f cls d B2 H2 (x1.trans x2) R2 xr
      · cases e
    · rename_i x ρ1 e1
      cases e
      exact a.ok F W ρ σ B H _ _ e1 R f
    · cases e
end Sg
set_option Elab.async false
set_option linter.all false
set_option maxRecDepth 100000
set_option maxHeartbeats 4000000
namespace Sg
open PySem L2
structure Cal (P : Program) (w : World) (K : PySem.W.Frag) (mg : Str → Option Value) (base : Heap) (CX : CXT) (k : Nat) (x : Str) (n : Nat) (mf : List Slot → Option CO) : Prop where
  mg_ : mg x = some (.ref (He.ga K x))
  kp : PySem.W.keepIn K (.ref (He.ga K x)) = true
  ok : ∃ fd ps, FnOk P w K mg base CX k (He.ga K x) fd ps (spM K n mf) ∧ Binds K fd ps []
section
variable {X : Cx} {pos p : Pos} {x : Str} {e : Expr} {es : List Expr} {t : TA} {k n : Nat} {mf : List Slot → Option CO} {W : WX}
theorem pcal0 (c : Cal X.prog X.w X.K X.mg X.base CX0 k x n mf) (hr : Room k X.A) (ha : PA X (e :: es) t) (hg : Gl X x := by rfl) (hdb : (x == ("__debug__" : Str)) = false := by decide)
    (he : starEach (e :: es) X.env = (false, eval e X.env) :: starEach es X.env := by rfl) (hpl : (backTo pos (starEach es X.env)).any (·.1) = false := by rfl) :
    PE X (.Call (.Name x p) (e :: es) [] pos) (tCallS (spM X.K n mf) (WE W) t) := by
  obtain ⟨fd, ps, F, b⟩ := c.ok
  exact pe_callS F hr hg c.mg_ c.kp b (fun _ _ _ _ _ _ _ h => h.elim) ha hdb he hpl
theorem pcalX (c : Cal X.prog X.w X.K X.mg X.base (L2.CX X.prog X.w) k x n mf) (hr : Room k X.A) (tk : Takes X W) (ha : PA X (e :: es) t) (hg : Gl X x := by rfl) (hdb : (x == ("__debug__" : Str)) = false := by decide)
    (he : starEach (e :: es) X.env = (false, eval e X.env) :: starEach es X.env := by rfl) (hpl : (backTo pos (starEach es X.env)).any (·.1) = false := by rfl) :
    PE X (.Call (.Name x p) (e :: es) [] pos) (tCallS (spM X.K n mf) (WE W) t) := by
  obtain ⟨fd, ps, F, b⟩ := c.ok
  exact pe_callS F hr hg c.mg_ c.kp b (fun σ => passAt tk σ) ha hdb he hpl
end
variable {K : PySem.W.Frag}
def oEqI : Op2 K where
  r := rEq
  f := fI fun i j => some (.bl (decide (i = j)))
  ok := fun H x y u v w ru rv e => by
    obtain ⟨i, j, rfl, rfl, e2⟩ := fI_some e
    cases e2; cases ru; cases rv
    refine ⟨_, rfl, fun Q q => ⟨rfl, ?_⟩⟩
    have : decide (V.int i = V.int j) = decide (i = j) := by simp
    rw [this]; exact q
def mChain (o o' : Op2 K) (a b c : ME K) (h1 : (a.k || b.p) = true := by exact id rfl) (h2 : (b.k || c.p) = true := by exact id rfl) : ME K where
  t := fun W => tChain o.r o'.r (a.t W) (b.t W) (c.t W)
  m := fun ρ => bindE (a.m ρ) fun u ρ1 => bindE (b.m ρ1) fun v ρ2 => match o.f u v with
    | some (.bl true) => bindE (c.m ρ2) fun w ρ3 => (o'.f v w).bind fun z => match z with
      | .bl d => some (.ok (.bl d) ρ3)
      | _ => none
    | some (.bl false) => some (.ok (.bl false) ρ2)
    | _ => none
  p := a.p && (b.p && c.p)
  k := true
  ok := fun F W ρ σ B H Q out e R f => by
    rcases bindE_some e with ⟨u, ρ1, e1, e⟩ | ⟨x, ρ1, e1, rfl⟩
    · refine a.ok F W ρ σ B H _ _ e1 R fun v1 B1 H1 x1 p1 R1 r1 => ?_
      rcases bindE_some e with ⟨v, ρ2, e2, e⟩ | ⟨x, ρ2, e2, rfl⟩
      · refine b.ok F W ρ1 σ B1 H1 _ _ e2 R1 fun v2 B2 H2 x2 p2 R2' r2 => ?_
        have r1' : Rep K H2 u v1 := by
          rcases Bool.or_eq_true_iff.mp h1 with c | c
          · rw [c] at r1
            exact Rep.mono R2'.ex _ _ (Rep.mono x2 _ _ r1)
          · exact Rep.mono (p2 c).1 _ _ (rep_up R1 r1)
        split at e
        · rename_i eo
          obtain ⟨z, hz, q⟩ := o.ok H2 v1 v2 u v _ r1' (rep_up R2' r2) eo
          cases hz
          refine q _ ⟨true, rfl, ?_⟩
          rw [if_pos rfl]
          rcases bindE_some e with ⟨w, ρ3, e3, e⟩ | ⟨x, ρ3, e3, rfl⟩
          · refine c.ok F W ρ2 σ B2 H2 _ _ e3 R2' fun v3 B3 H3 x3 p3 R3 r3 => ?_
            obtain ⟨z, ez, e⟩ := Option.bind_eq_some_iff.mp e
            have r2' : Rep K H3 v v2 := by
              rcases Bool.or_eq_true_iff.mp h2 with c | c
              · rw [c] at r2
                exact Rep.mono R3.ex _ _ (Rep.mono x3 _ _ r2)
              · exact Rep.mono (p3 c).1 _ _ (rep_up R2' r2)
            obtain ⟨z', hz', q'⟩ := o'.ok H3 v2 v3 v w z r2' (rep_up R3 r3) ez
            split at e
            · cases e; cases hz'
              refine q' _ (f _ B3 H3 ((x1.trans x2).trans x3) (fun c => ?_) R3 rfl)
              obtain ⟨c1, c2⟩ := Bool.and_eq_true_iff.mp c
              obtain ⟨c2, c3⟩ := Bool.and_eq_true_iff.mp c2
              exact ⟨((p1 c1).1.trans (p2 c2).1).trans (p3 c3).1, ((p3 c3).2.trans (p2 c2).2).trans (p1 c1).2⟩
            · cases e
          · exact c.ok F W ρ2 σ B2 H2 _ _ e3 R2' fun cls d B3 H3 x3 R3 xr => f cls d B3 H3 ((x1.trans x2).trans x3) R3 xr
        · rename_i eo
          cases e
          obtain ⟨z, hz, q⟩ := o.ok H2 v1 v2 u v _ r1' (rep_up R2' r2) eo
          cases hz
          refine q _ ⟨false, rfl, ?_⟩
          rw [if_neg (by decide)]
          refine f _ B2 H2 (x1.trans x2) (fun c => ?_) R2' rfl
          obtain ⟨c1, c2⟩ := Bool.and_eq_true_iff.mp c
          obtain ⟨c2, c3⟩ := Bool.and_eq_true_iff.mp c2
          exact ⟨(p1 c1).1.trans (p2 c2).1, (p2 c2).2.trans (p1 c1).2⟩
        · cases e
      · exact b.ok F W ρ1 σ B1 H1 _ _ e2 R1 fun cls d B2 H2 x2 R2' xr => f cls d B2 H2 (x1.trans x2) R2' xr
    · exact a.ok F W ρ σ B H _ _ e1 R fun cls d B1 H1 x1 R1 xr => f cls d B1 H1 x1 R1 xr
def tyU : U → Option String
  | .non => some "NoneType"
  | .bl _ => some "bool"
  | .int _ => some "int"
  | .str _ => some "str"
  | .lst _ => some "list"
  | .tup _ => some "tuple"
  | .dic _ => some "dict"
  | _ => none
theorem tyU_ok {H : Hp} {u : U} {v : V} {n : String} (r : Rep K H u v) (e : tyU u = some n) : TyX K H v (.type n) := by
  cases u with
  | non => cases e; cases r; exact .base .non
  | bl b => cases e; cases r; exact .base (.bl b)
  | int b => cases e; cases r; exact .base (.int b)
  | str b => cases e; cases r; exact .base (.str b)
  | lst us => cases e; obtain ⟨a, vs, rfl, h1, _⟩ := r; exact .base (.lst h1)
  | tup us =>
    cases e
    obtain ⟨a, vs, rfl, h1, _⟩ := r
    rcases h1 with (h1 | ⟨o, h1⟩) | ⟨o, its, n, hk, hc, _⟩
    · exact .base (.tup h1)
    · exact .fTuple h1
    · exact .kTuple hk hc
  | dic us =>
    cases e
    obtain ⟨a, vs, rfl, h1, _⟩ := r
    rcases h1 with h1 | ⟨o, h1⟩
    · exact .base (.dK h1)
    · exact .fDict h1
  | _ => cases e
def isiB (a b : String) : Option Bool :=
  if a = b then some true else if b = "int" then (if a = "bool" then some true else if a ∈ ["NoneType", "str", "list", "tuple", "dict"] then some false else none)
  else if b ∈ ["bool", "str", "list", "tuple", "dict"] then (if a ∈ ["NoneType", "bool", "int", "str", "list", "tuple", "dict"] then some false else none) else none
theorem isiB_ok {a b : String} {r : Bool} (h : isiB a b = some r) : kitB a b = some r := by
  unfold isiB at h
  split at h
  · rename_i e
    subst e; cases h
    unfold kitB
    rw [if_pos (by simp)]
  · split at h
    · rename_i eb
      subst eb
      split at h
      · rename_i ea; subst ea; cases h; decide +kernel
      · split at h
        · rename_i hm
          cases h
          simp only [List.mem_cons, List.not_mem_nil, or_false] at hm
          rcases hm with rfl | rfl | rfl | rfl | rfl <;> decide +kernel
        · cases h
    · split at h
      · rename_i hb
        split at h
        · rename_i ha
          cases h
          simp only [List.mem_cons, List.not_mem_nil, or_false] at ha hb
          rcases hb with rfl | rfl | rfl | rfl | rfl <;> rcases ha with rfl | rfl | rfl | rfl | rfl | rfl | rfl <;> first | decide +kernel | contradiction
        · cases h
      · cases h
def mIsi (n : String) (a : ME K) : ME K where
  t := fun W => tCB (rIsi K) (tCons (a.t W) (tCons (tC (.ty n)) tNil))
  m := fun ρ => bindE (a.m ρ) fun u ρ1 => (tyU u).bind fun s => (isiB s n).map fun b => .ok (.bl b) ρ1
  p := a.p
  k := true
  ok := fun F W ρ σ B H Q out e R f => by
    rcases bindE_some e with ⟨u, ρ1, e1, e⟩ | ⟨x, ρ1, e1, rfl⟩
    · refine a.ok F W ρ σ B H _ _ e1 R fun v1 B1 H1 x1 p1 R1 r1 => ?_
      obtain ⟨s, es, e⟩ := Option.bind_eq_some_iff.mp e
      obtain ⟨b, eb, rfl⟩ := Option.map_eq_some_iff.mp e
      exact ⟨v1, .ty n, .type s, .type n, b, rfl, .ty n, tyU_ok (rep_up R1 r1) es, kit_ty (isiB_ok eb), f (.bl b) B1 H1 x1 p1 R1 rfl⟩
    · exact a.ok F W ρ σ B H _ _ e1 R fun cls d B1 H1 x1 R1 xr => f cls d B1 H1 x1 R1 xr
end Sg
set_option Elab.async false
set_option linter.all false
set_option maxRecDepth 100000
set_option maxHeartbeats 4000000
namespace Sg
open PySem L2
section
variable {X : Cx} {pos : Pos} {x : Str}
theorem pglI {i : Int} (h : ∃ t, X.mg x = some (.int i t)) (hg : Gl X x := by rfl) (hd : (x == ("__debug__" : Str)) = false := by decide) : PE X (.Name x pos) (tC (.int i)) := by
  obtain ⟨t, e⟩ := h
  exact pe_glob hg e ⟨t, rfl⟩ hd
theorem pglS {z : Str} (h : ∃ t, X.mg x = some (.str z t)) (hg : Gl X x := by rfl) (hd : (x == ("__debug__" : Str)) = false := by decide) : PE X (.Name x pos) (tC (.str z)) := by
  obtain ⟨t, e⟩ := h
  exact pe_glob hg e ⟨t, rfl⟩ hd
end
variable {K : PySem.W.Frag}
def mRev (a : ME K) (hk : a.k = true := by exact id rfl) : MF K where
  t := fun W => tRevL K (a.t W)
  m := fun ρ => match a.m ρ with
    | some (.ok u ρ1) => (lstU u).map fun us => .ok us.reverse ρ1
    | some (.ex e ρ1) => some (.ex e ρ1)
    | none => none
  p := a.p
  ok := fun F W ρ σ B H Q out e R f => by
    split at e
    · rename_i u ρ1 e1
      obtain ⟨us, e2, rfl⟩ := Option.map_eq_some_iff.mp e
      refine a.ok F W ρ σ B H _ _ e1 R fun v1 B1 H1 x1 p1 R1 r1 => ?_
      rw [hk] at r1
      obtain ⟨q, vs, rfl, h1, h2⟩ := lstU_ok r1 e2
      exact ⟨q, vs, rfl, Ex.l R1.ex h1, fun p hp => newF f x1 p1 R1 h2.reverse hp⟩
    · rename_i x ρ1 e1
      cases e
      exact a.ok F W ρ σ B H _ _ e1 R f
    · cases e
def rgLok (i j : Int) : Bool := decide (-(2 ^ 62) ≤ i ∧ i < 2 ^ 62 ∧ -(2 ^ 62) ≤ j ∧ j < 2 ^ 62 ∧ (j - i).toNat ≤ 2 ^ 24)
theorem rgU_rep {B : Hp} (i j : Int) : RepL K B (rangeU i (j - i).toNat) (rgV i j) := by
  unfold rangeU rgV
  generalize (j - i).toNat = n
  have : ∀ l : List Nat, RepL K B (l.map fun k => U.int (i + (k : Nat))) (l.map fun k => V.int (i + (k : Nat))) := by
    intro l
    induction l with
    | nil => exact rfl
    | cons x l ih => exact ⟨_, _, rfl, rfl, ih⟩
  exact this _
def mListRng (a b : ME K) : MF K where
  t := fun W => tLstRg (tRg2 (a.t W) (b.t W))
  m := fun ρ => match a.m ρ with
    | some (.ok (.int i) ρ1) => (match b.m ρ1 with
      | some (.ok (.int j) ρ2) => if rgLok i j = true then some (.ok (rangeU i (j - i).toNat) ρ2) else none
      | some (.ex e ρ2) => some (.ex e ρ2)
      | _ => none)
    | some (.ex e ρ1) => some (.ex e ρ1)
    | _ => none
  p := a.p && b.p
  ok := fun F W ρ σ B H Q out e R f => by
    split at e
    · rename_i i ρ1 e1
      refine a.ok F W ρ σ B H _ _ e1 R fun v1 B1 H1 x1 p1 R1 r1 => ?_
      have r2 : v1 = .int i := rep_up R1 r1
      subst r2
      split at e
      · rename_i j ρ2 e2
        split at e
        · rename_i h
          cases e
          refine b.ok F W ρ1 σ B1 H1 _ _ e2 R1 fun v2 B2 H2 x2 p2 R2 r2 => ?_
          have r3 : v2 = .int j := rep_up R2 r2
          subst r3
          refine ⟨i, j, rfl, rfl, (by have h' := of_decide_eq_true (show decide _ = true from h); exact h'), fun q hq => newF f (x1.trans x2) (fun c => ?_) R2 (rgU_rep i j) hq⟩
          obtain ⟨c1, c2⟩ := Bool.and_eq_true_iff.mp c
          exact ⟨(p1 c1).1.trans (p2 c2).1, (p2 c2).2.trans (p1 c1).2⟩
        · cases e
      · rename_i x ρ2 e2
        cases e
        exact b.ok F W ρ1 σ B1 H1 _ _ e2 R1 fun cls d B2 H2 x2 R2 xr => f cls d B2 H2 (x1.trans x2) R2 xr
      · cases e
    · rename_i x ρ1 e1
      cases e
      exact a.ok F W ρ σ B H _ _ e1 R f
    · cases e
section
variable {X : Cx} {pos p2 p3 p4 : Pos} {a b : Expr} {ta tb : TE}
theorem pe_listRng2 (hl : X.mg "list" = none) (hm : X.mg "range" = none) (ha : PE X a ta) (hb : PE X b tb) (hc : X.calm = true := by rfl) (hg : Gl X "list" := by rfl) (hg2 : Gl X "range" := by rfl)
    (na : starEach [a, b] X.env = (false, eval a X.env) :: starEach [b] X.env := by rfl)
    (nb : starEach [b] X.env = (false, eval b X.env) :: starEach [] X.env := by rfl) (hp : (backTo p2 (starEach [b] X.env)).any (·.1) = false := by rfl) :
    PE X (.Call (.Name "list" p3) [.Call (.Name "range" p4) [a, b] [] p2] [] pos) (tLstRg (tRg2 ta tb)) :=
  pe_listRg hc hg hl (prg_2 hg2 hm ha hb na nb hp)
end
def callMF (mf : List Slot → Option CO) (a : Option CA) : Option AO :=
  match a with
  | none => none
  | some (.ex e ρ) => some (.ex e ρ)
  | some (.ok is ρ) => match resolve ρ is with
    | none => none
    | some as => if nCel as ≤ 1 then match mf as with
      | some (.cel us c) => (putJ ρ (celJ is) c).map fun ρ' => .ok us ρ'
      | some (.ex e c) => (putJ ρ (celJ is) c).map fun ρ' => .ex e ρ'
      | _ => none
    else none
def mCallF (n : Nat) (mf : List Slot → Option CO) (a : MC K) (hk : a.k = true := by exact id rfl) : MF K where
  t := fun W => tCallS (spM K n mf) (WE W) (a.t W)
  m := fun ρ => (a.m ρ).bind fun o => match o with
    | .ok is _ => if is.length = n then callMF mf (some o) else none
    | _ => callMF mf (some o)
  p := false
  ok := fun F W ρ σ B H Q out e R f => by
    obtain ⟨o, e1, e⟩ := Option.bind_eq_some_iff.mp e
    cases o with
    | ex x ρ1 => cases e; exact a.ok F W ρ σ B H _ _ e1 R fun cls d B1 H1 x1 R1 xr => f cls d B1 H1 x1 R1 xr
    | ok is ρ1 =>
      refine a.ok F W ρ σ B H _ _ e1 R fun vs B1 H1 x1 p1 R1 r1 => ?_
      rw [hk] at r1
      have e' : (if is.length = n then callMF mf (some (.ok is ρ1)) else none) = some out := e
      split at e'
      · rename_i hn
        unfold callMF at e'
        split at e'
        · cases e'
        · rename_i h; cases h
        · rename_i is' ρ1' h
          cases h
          split at e'
          · cases e'
          · rename_i as ea
            obtain ⟨q1, q2, q3⟩ := resolve_ok R1 r1 ea
            split at e'
            · rename_i n1
              have q3 := q3 n1
              split at e'
              · rename_i us c em
                obtain ⟨ρ', ep, rfl⟩ := Option.map_eq_some_iff.mp e'
                refine ⟨B1, as, _, R1.ex, q2.trans hn, q1, n1, em, fun q ws B' H' g cc h1 h2 h3 hq r => ?_⟩
                exact f q ws B' H' (x1.trans g.bb) (fun z => nomatch z) (after_call R1 g q3 cc ep) h1 h2 (R1.fresh0 h3) (put_cells R1 g q3 h3 ep) (fun o ho => by rw [(R1.xx _ _ ho).1] at h3; cases h3) r
              · rename_i x c em
                obtain ⟨ρ', ep, rfl⟩ := Option.map_eq_some_iff.mp e'
                exact ⟨B1, as, _, R1.ex, q2.trans hn, q1, n1, em, fun cls d B' H' g cc xr => f cls d B' H' (x1.trans g.bb) (after_call R1 g q3 cc ep) (XRel.up R1 xr)⟩
              · cases e'
            · cases e'
      · cases e'
def msParVV (i j : Nat) (a b : ME K) (ha : a.k = true := by exact id rfl) (hb : b.k = true := by exact id rfl) : MS K where
  t := fun W => tPar i j (tCons (a.t W) (tCons (b.t W) tNil))
  m := fun ρ => bindES (a.m ρ) fun u ρ1 => bindES (b.m ρ1) fun v ρ2 => some (.nx ((ρ2.set i (.val u)).set j (.val v)))
  ok := fun F W ρ σ B H D o q R f => by
    rcases bindES_some q with ⟨u, ρ1, e1, q⟩ | ⟨x, ρ1, e1, rfl⟩
    · refine a.ok F W ρ σ B H _ _ e1 R fun v1 B1 H1 x1 p1 R1 r1 => ?_
      rw [ha] at r1
      rcases bindES_some q with ⟨v, ρ2, e2, q⟩ | ⟨x, ρ2, e2, rfl⟩
      · cases q
        refine b.ok F W ρ1 σ B1 H1 _ _ e2 R1 fun v2 B2 H2 x2 p2 R2 r2 => ?_
        rw [hb] at r2
        exact ⟨v1, v2, rfl, f _ B2 H2 (x1.trans x2) ((R2.setV (Rep.mono x2 _ _ r1)).setV r2)⟩
      · exact b.ok F W ρ1 σ B1 H1 _ _ e2 R1 fun cls d B2 H2 x2 R2 xr => f cls d σ B2 H2 (x1.trans x2) R2 xr
    · exact a.ok F W ρ σ B H _ _ e1 R fun cls d B1 H1 x1 R1 xr => f cls d σ B1 H1 x1 R1 xr
end Sg
set_option Elab.async false
set_option linter.all false
set_option maxRecDepth 100000
set_option maxHeartbeats 4000000
namespace Sg
open PySem L2
section
variable {X : Cx} {W : WX} {pos p2 p3 p4 : Pos} {e a b c : Expr} {es : List Expr} {A B C : ME X.K} {j : Nat} {x : Str}
theorem dI {i : Int} {h} : PE X (.Constant (.int i) j pos) ((mC (K := X.K) (.int i) (.int i) h).t W) := pe_int
theorem dB {i : Bool} {h} : PE X (.Constant (.bool i) j pos) ((mC (K := X.K) (.bl i) (.bl i) h).t W) := pe_bl
theorem dS {i : Str} {h} : PE X (.Constant (.str i) j pos) ((mC (K := X.K) (.str i) (.str i) h).t W) := pe_str
theorem dGI {i : Int} {h} (q : ∃ t, X.mg x = some (.int i t)) (hg : Gl X x := by rfl) (hd : (x == ("__debug__" : Str)) = false := by decide) : PE X (.Name x pos) ((mC (K := X.K) (.int i) (.int i) h).t W) := pglI q hg hd
theorem dGS {i : Str} {h} (q : ∃ t, X.mg x = some (.str i t)) (hg : Gl X x := by rfl) (hd : (x == ("__debug__" : Str)) = false := by decide) : PE X (.Name x pos) ((mC (K := X.K) (.str i) (.str i) h).t W) := pglS q hg hd
theorem dV {i : Nat} (hN : X.N[i]? = some x := by rfl) (hv : Vis X.env.scope x := by first | exact Or.inl rfl | exact Or.inr (Or.inl rfl) | exact Or.inr (Or.inr rfl)) (hd : (x == ("__debug__" : Str)) = false := by decide)
    (hcd : (x == ("__classdict__" : Str)) = false := by decide) : PE X (.Name x pos) ((mVar (K := X.K) i).t W) := pe_var hN hv hd hcd
theorem dLk {i : Nat} (hN : X.N[i]? = some x := by rfl) (hv : Vis X.env.scope x := by first | exact Or.inl rfl | exact Or.inr (Or.inl rfl) | exact Or.inr (Or.inr rfl)) (hd : (x == ("__debug__" : Str)) = false := by decide)
    (hcd : (x == ("__classdict__" : Str)) = false := by decide) : PE X (.Name x pos) ((mLook (K := X.K) i).t W) := pe_var hN hv hd hcd
theorem dLt {i : Nat} (hN : X.N[i]? = some x := by rfl) (hv : Vis X.env.scope x := by first | exact Or.inl rfl | exact Or.inr (Or.inl rfl) | exact Or.inr (Or.inr rfl)) (hd : (x == ("__debug__" : Str)) = false := by decide)
    (hcd : (x == ("__classdict__" : Str)) = false := by decide) : PE X (.Name x pos) ((mLet (K := X.K) i).t W) := pe_var hN hv hd hcd
theorem dop {op : Operator} {o : Op2 X.K} {h} (ho : OpR X (binaryOp op) o.r) (ha : PE X a (A.t W)) (hb : PE X b (B.t W)) : PE X (.BinOp a op b pos) ((mOp o A B h).t W) := pe_op ho ha hb
theorem dcm {op : CmpOp} {o : Op2 X.K} {h} (ho : OpR X (compareOp op) o.r) (ha : PE X a (A.t W)) (hb : PE X b (B.t W)) (hm : behindInMarks op b = false := by first | exact nomark _ | rfl) : PE X (.Compare a [op] [b] pos) ((mOp o A B h).t W) := pe_cmpR ho ha hb hm
theorem tcm {op : CmpOp} {o : Op2 X.K} {h} (ho : OpR X (compareOp op) o.r) (ha : PE X a (A.t W)) (hb : PE X b (B.t W)) (hm : behindInMarks op b = false := by first | exact nomark _ | rfl) : PT X (.Compare a [op] [b] pos) ((mTest (mOp o A B h)).t W) := pt_cmpR ho ha hb hm
theorem tch {op op' : CmpOp} {o o' : Op2 X.K} {h h'} (ho : OpR X (compareOp op) o.r) (ho' : OpR X (compareOp op') o'.r) (ha : PE X a (A.t W)) (hb : PE X b (B.t W)) (hc : PE X c (C.t W)) (hm : lastMarks [op, op'] [b, c] = false := by with_unfolding_all rfl) : PT X (.Compare a [op, op'] [b, c] pos) ((mTest (mChain o o' A B C h h')).t W) := pt_chain ho ho' ha hb hc hm
theorem dneg (ha : PE X a (A.t W)) : PE X (.UnaryOp .USub a pos) ((mUn oNeg A).t W) := show PE X _ (tUn (oNeg (K := X.K)).r (A.t W)) from pe_un un_neg ha
theorem dix {h} (ha : PE X a (A.t W)) (hb : PE X b (B.t W)) (hs : PlainIx b := by exact fun _ _ => rfl) : PE X (.Subscript a b pos) ((mIx oIx A B h).t W) := pe_ix ix_seq ha hb hs
theorem dfr {M : MF X.K} (ha : PE X a (M.t W)) : PE X a ((mFr M).t W) := ha
theorem dnil : PA X [] ((mNil (K := X.K)).t W) := pa_nil
theorem dcons {L : MA X.K} {h} (ha : PE X e (A.t W)) (hr : PA X es (L.t W)) (hs : starEach (e :: es) X.env = (false, eval e X.env) :: starEach es X.env := by rfl) : PA X (e :: es) ((mCons A L h).t W) := pa_cons ha hr hs
theorem dtup {L : MA X.K} {h x1} (ha : PA X es (L.t W)) : PE X (.Tuple es x1 pos) ((mTup L h).t W) := pe_tup ha
theorem dlst {L : MA X.K} {h} (ha : PA X es (L.t W)) : PE X (.List es pos) ((mLst L h).t W) := pe_lst ha
theorem dand {rest : List Expr} (ha : PE X a (A.t W)) (hb : PE X (.BoolOp .And (b :: rest) pos) (B.t W)) : PE X (.BoolOp .And (a :: b :: rest) pos) ((mAndV A B).t W) := pe_and ha hb
theorem dor {rest : List Expr} (ha : PE X a (A.t W)) (hb : PE X (.BoolOp .Or (b :: rest) pos) (B.t W)) : PE X (.BoolOp .Or (a :: b :: rest) pos) ((mOrV A B).t W) := pe_or ha hb
theorem done {op} (ha : PE X a (A.t W)) : PE X (.BoolOp op [a] pos) (A.t W) := pe_one ha
theorem dnot (ha : PE X a (A.t W)) : PE X (.UnaryOp .Not a pos) ((mNotV A).t W) := pe_not ha
theorem dif {T : MT X.K} (hc : PT X c (T.t W)) (ha : PE X a (A.t W)) (hb : PE X b (B.t W)) : PE X (.IfExp c a b pos) ((mIf T A B).t W) := pe_ifExp hc ha hb
theorem onone : PO X none ((moNone (K := X.K)).t W) := po_none
theorem osome (ha : PE X a (A.t W)) : PO X (some a) ((moSome A).t W) := po_some ha
theorem dsl {lo hi : Option Expr} {L U : MO X.K} {h h1 h2} (ha : PE X a (A.t W)) (hl : PO X lo (L.t W)) (hu : PO X hi (U.t W)) : PE X (.Subscript a (.Slice lo hi none p2) pos) ((mSlL A L U h h1 h2).t W) := pe_slice sl_list ha hl hu
theorem drev {k : Nat} {h} {p1 : Pos} (ha : PE X a (A.t W)) : PE X (.Subscript a (.Slice none none (some (.UnaryOp .USub (.Constant (.int 1) k p1) p2)) p3) pos) ((mRev A h).t W) := pe_revL ha
theorem dcat {h} (ha : PE X a (A.t W)) (hb : PE X b (B.t W)) : PE X (.BinOp a .Add b pos) ((mCat A B h).t W) := pe_op op_cat ha hb
theorem drpt {h} (ha : PE X a (A.t W)) (hb : PE X b (B.t W)) : PE X (.BinOp a .Mult b pos) ((mRepeat A B h).t W) := pe_op op_rep ha hb
theorem dbiB {o : OpC X.K} {L : MA X.K} {id : String} (hc : CallR X (.builtin id) o.r) (hm : X.mg x = none) (ha : PA X (e :: es) (L.t W)) (hv : bootBuiltins x = some (.builtin id) := by decide +kernel) (hg : Gl X x := by rfl) (hn : x ≠ "__name__" := by decide) (hdb : (x == ("__debug__" : Str)) = false := by decide)
    (he : starEach (e :: es) X.env = (false, eval e X.env) :: starEach es X.env := by rfl) (hpl : (backTo pos (starEach es X.env)).any (·.1) = false := by rfl) : PE X (.Call (.Name x p2) (e :: es) [] pos) ((mBi o L).t W) := pe_callB hc hg hm hv ha hn hdb he hpl
theorem dbiT {o : OpC X.K} {L : MA X.K} {id : String} (hc : CallR X (.type id) o.r) (hm : X.mg x = none) (ha : PA X (e :: es) (L.t W)) (hv : bootBuiltins x = some (.type id) := by decide +kernel) (hg : Gl X x := by rfl) (hn : x ≠ "__name__" := by decide) (hdb : (x == ("__debug__" : Str)) = false := by decide)
    (he : starEach (e :: es) X.env = (false, eval e X.env) :: starEach es X.env := by rfl) (hpl : (backTo pos (starEach es X.env)).any (·.1) = false := by rfl) : PE X (.Call (.Name x p2) (e :: es) [] pos) ((mBi o L).t W) := pe_callTy hc hg hm hv ha hn hdb he hpl
theorem dbfB {o : OpF X.K} {L : MA X.K} {id : String} {h} (hc : CallR X (.builtin id) o.r) (hm : X.mg x = none) (ha : PA X (e :: es) (L.t W)) (hv : bootBuiltins x = some (.builtin id) := by decide +kernel) (hg : Gl X x := by rfl) (hn : x ≠ "__name__" := by decide) (hdb : (x == ("__debug__" : Str)) = false := by decide)
    (he : starEach (e :: es) X.env = (false, eval e X.env) :: starEach es X.env := by rfl) (hpl : (backTo pos (starEach es X.env)).any (·.1) = false := by rfl) : PE X (.Call (.Name x p2) (e :: es) [] pos) ((mBiF o L h).t W) := pe_callB hc hg hm hv ha hn hdb he hpl
theorem dbfT {o : OpF X.K} {L : MA X.K} {id : String} {h} (hc : CallR X (.type id) o.r) (hm : X.mg x = none) (ha : PA X (e :: es) (L.t W)) (hv : bootBuiltins x = some (.type id) := by decide +kernel) (hg : Gl X x := by rfl) (hn : x ≠ "__name__" := by decide) (hdb : (x == ("__debug__" : Str)) = false := by decide)
    (he : starEach (e :: es) X.env = (false, eval e X.env) :: starEach es X.env := by rfl) (hpl : (backTo pos (starEach es X.env)).any (·.1) = false := by rfl) : PE X (.Call (.Name x p2) (e :: es) [] pos) ((mBiF o L h).t W) := pe_callTy hc hg hm hv ha hn hdb he hpl
theorem dlr (hl : X.mg "list" = none) (hm : X.mg "range" = none) (ha : PE X a (A.t W)) (hb : PE X b (B.t W)) (hc : X.calm = true := by rfl) (hg : Gl X "list" := by rfl) (hg2 : Gl X "range" := by rfl)
    (na : starEach [a, b] X.env = (false, eval a X.env) :: starEach [b] X.env := by rfl)
    (nb : starEach [b] X.env = (false, eval b X.env) :: starEach [] X.env := by rfl) (hp : (backTo p2 (starEach [b] X.env)).any (·.1) = false := by rfl) :
    PE X (.Call (.Name "list" p3) [.Call (.Name "range" p4) [a, b] [] p2] [] pos) ((mListRng A B).t W) := pe_listRng2 hl hm ha hb hc hg hg2 na nb hp
theorem disi {n : String} {y : Str} (hi : X.mg "isinstance" = none) (ht : X.mg y = none) (ha : PE X a (A.t W)) (hv : bootBuiltins y = some (.type n) := by decide +kernel) (hg : Gl X "isinstance" := by rfl) (hg2 : Gl X y := by rfl)
    (hn : y ≠ "__name__" := by decide) (hd : (y == ("__debug__" : Str)) = false := by decide)
    (he : starEach [a, .Name y p2] X.env = (false, eval a X.env) :: starEach [.Name y p2] X.env := by rfl) (he2 : starEach [.Name y p2] X.env = (false, eval (.Name y p2) X.env) :: starEach [] X.env := by rfl) (hpl : (backTo pos (starEach [.Name y p2] X.env)).any (·.1) = false := by rfl) :
    PE X (.Call (.Name "isinstance" p3) [a, .Name y p2] [] pos) ((mIsi n A).t W) :=
  pe_callB call_isi hg hi (by decide +kernel) (pa_cons ha (pa_cons (pe_bltn (v := .ty n) hg2 ht hv rfl hn hd) pa_nil he2) he) (by decide) (by decide) he hpl
theorem dcnil : PA X [] ((mcNil (K := X.K)).t W) := pa_nil
theorem dcval {L : MC X.K} {h} (ha : PE X e (A.t W)) (hr : PA X es (L.t W)) (hs : starEach (e :: es) X.env = (false, eval e X.env) :: starEach es X.env := by rfl) : PA X (e :: es) ((mcVal A L h).t W) := pa_cons ha hr hs
theorem dccel {i : Nat} {L : MC X.K} (hr : PA X es (L.t W)) (hN : X.N[i]? = some x := by rfl) (hv : Vis X.env.scope x := by first | exact Or.inl rfl | exact Or.inr (Or.inl rfl) | exact Or.inr (Or.inr rfl)) (hd : (x == ("__debug__" : Str)) = false := by decide)
    (hcd : (x == ("__classdict__" : Str)) = false := by decide) (hs : starEach (.Name x p2 :: es) X.env = (false, eval (.Name x p2) X.env) :: starEach es X.env := by rfl) : PA X (.Name x p2 :: es) ((mcCel i L).t W) := pa_cons (pe_var hN hv hd hcd) hr hs
theorem dcall0 {k n : Nat} {mf : List Slot → Option CO} {L : MC X.K} {h} (c : Cal X.prog X.w X.K X.mg X.base CX0 k x n mf) (hr : Room k X.A) (ha : PA X (e :: es) (L.t W)) (hg : Gl X x := by rfl) (hdb : (x == ("__debug__" : Str)) = false := by decide)
    (he : starEach (e :: es) X.env = (false, eval e X.env) :: starEach es X.env := by rfl) (hpl : (backTo pos (starEach es X.env)).any (·.1) = false := by rfl) : PE X (.Call (.Name x p2) (e :: es) [] pos) ((mCall n mf L h).t W) := pcal0 c hr ha hg hdb he hpl
theorem dcallX {k n : Nat} {mf : List Slot → Option CO} {L : MC X.K} {h} (c : Cal X.prog X.w X.K X.mg X.base (L2.CX X.prog X.w) k x n mf) (hr : Room k X.A) (tk : Takes X W) (ha : PA X (e :: es) (L.t W)) (hg : Gl X x := by rfl) (hdb : (x == ("__debug__" : Str)) = false := by decide)
    (he : starEach (e :: es) X.env = (false, eval e X.env) :: starEach es X.env := by rfl) (hpl : (backTo pos (starEach es X.env)).any (·.1) = false := by rfl) : PE X (.Call (.Name x p2) (e :: es) [] pos) ((mCall n mf L h).t W) := pcalX c hr tk ha hg hdb he hpl
theorem dcallF0 {k n : Nat} {mf : List Slot → Option CO} {L : MC X.K} {h} (c : Cal X.prog X.w X.K X.mg X.base CX0 k x n mf) (hr : Room k X.A) (ha : PA X (e :: es) (L.t W)) (hg : Gl X x := by rfl) (hdb : (x == ("__debug__" : Str)) = false := by decide)
    (he : starEach (e :: es) X.env = (false, eval e X.env) :: starEach es X.env := by rfl) (hpl : (backTo pos (starEach es X.env)).any (·.1) = false := by rfl) : PE X (.Call (.Name x p2) (e :: es) [] pos) ((mCallF n mf L h).t W) := pcal0 c hr ha hg hdb he hpl
theorem dmeth {i : Nat} {name : Str} {id : String} {o : OpM X.K} {L : MA X.K} {h} {apos cpos : Pos} (slot : PySem.Slot "list" name id) (hty : typeOf (.builtin id) = pure (.type "method_descriptor")) (hm : MtR X id o.r) (ha : PA X (e :: es) (L.t W))
    (hN : X.N[i]? = some x := by rfl) (hv : Vis X.env.scope x := by first | exact Or.inl rfl | exact Or.inr (Or.inl rfl) | exact Or.inr (Or.inr rfl)) (hd : (x == ("__debug__" : Str)) = false := by decide) (hcd : (x == ("__classdict__" : Str)) = false := by decide)
    (hbase : attributeBase (.Name x p2) name X.env (eval (.Name x p2) X.env) = eval (.Name x p2) X.env := by rfl)
    (hfew : ((backTo cpos (starEach (e :: es) X.env)).all (fun x => !x.1) && (backToKw cpos (keywordEach [] X.env)).all (fun x => x.1.isSome)
      && decide ((e :: es).length + ([] : List Keyword).length + (if ([] : List Keyword).isEmpty then 0 else 1) < 30)) = true := by rfl)
    (hline : (apos.endLine == cpos.line) = true := by rfl) (hs : starEach (e :: es) X.env = (false, eval e X.env) :: starEach es X.env := by rfl) (hplain : (backTo cpos (starEach es X.env)).any (·.1) = false := by rfl) :
    PE X (.Call (.Attribute (.Name x p2) name apos) (e :: es) [] cpos) ((mMeth i o L h).t W) := pe_bm PySem.F.plainAttrs_list slot hty hm (pe_var hN hv hd hcd) ha hbase hfew hline hs hplain
end
section
variable {X : Cx} {W : WX} {pos p2 p3 p4 : Pos} {e a b c : Expr} {es rest : List Expr} {A B C : ME X.K} {j : Nat} {x : Str} {S T : MT X.K}
theorem tval (ha : PE X a (A.t W)) (he : ∀ whole, isTrue a X.env whole = (do let v ← whole; standAt a.pos; holding [v] (truthy v)) := by intro _; rfl) : PT X a ((mTest A).t W) := pt_val ha he
theorem ttru (ha : PE X a (A.t W)) (he : ∀ whole, isTrue a X.env whole = (do let v ← whole; standAt a.pos; holding [v] (truthy v)) := by intro _; rfl) : PT X a ((mTru A).t W) := pt_truth ha he
theorem tnot (ha : PT X a (T.t W)) : PT X (.UnaryOp .Not a pos) ((mNot T).t W) := pt_not ha
theorem tpw (ha : PW X a (T.t W)) : PT X a (T.t W) := ha.pt
theorem wand (ha : PT X a (S.t W)) (hb : PW X (.BoolOp .And (b :: rest) pos) (T.t W)) : PW X (.BoolOp .And (a :: b :: rest) pos) ((mAnd S T).t W) := pw_and ha hb
theorem wor (ha : PT X a (S.t W)) (hb : PW X (.BoolOp .Or (b :: rest) pos) (T.t W)) : PW X (.BoolOp .Or (a :: b :: rest) pos) ((mOr S T).t W) := pw_or ha hb
theorem wand1 (ha : PT X a (S.t W)) : PW X (.BoolOp .And [a] pos) (S.t W) := pw_and1 ha
theorem wor1 (ha : PT X a (S.t W)) : PW X (.BoolOp .Or [a] pos) (S.t W) := pw_or1 ha
variable {tg : Expr} {G : MG X.K} {Gs : MGs X.K} {I : MI X.K}
theorem gN {i : Nat} (hN : X.N.Nodup) (hi : X.N[i]? = some x := by rfl) (hx : Loc X.env.scope x := by first | exact Or.inl rfl | exact Or.inr rfl)
    (hf : X.fn x = true ∨ X.env.scope.names.lookup x = some .local := by first | exact .inl rfl | exact .inr rfl) : PG X (.Name x pos) ((mgName (K := X.K) i).t) := pg_name hN hi hx hf
theorem gnil : PGs X [] ((mgNil (K := X.K)).t) := pgs_nil
theorem gcons (h1 : PG X e G.t) (h2 : PGs X es Gs.t) (hs : (assignEach (e :: es) X.env).map (·.2) = assign e X.env :: (assignEach es X.env).map (·.2) := by rfl) : PGs X (e :: es) ((mgCons G Gs).t) := pgs_cons h1 h2 hs
theorem gtup {k n : Nat} (h : PGs X es Gs.t) (hc : X.calm = true := by rfl) (hn : (assignEach es X.env).length = n := by rfl) (hst : (assignEach es X.env).findIdx? (·.1) = none := by rfl) : PG X (.Tuple es k pos) ((mgTup n Gs).t) := pg_tup hc h hn hst
theorem ilist {h} (ha : PE X a (A.t W)) : PI X tg a ((miList A h).t W) := pi_list ha
theorem itup {h} (ha : PE X a (A.t W)) : PI X tg a ((miTup A h).t W) := pi_tup ha
theorem irng1 (hm : X.mg "range" = none) (ha : PE X a (A.t W)) (hg : Gl X "range" := by rfl) (hs : starEach [a] X.env = [(false, eval a X.env)] := by rfl) (hs' : starEach [a] X.env = (false, eval a X.env) :: starEach [] X.env := by rfl) : PI X tg (.Call (.Name "range" p2) [a] [] pos) ((miRng1 A).t W) := pi_range1 hg hm (pa_cons ha pa_nil hs') hs
theorem ienum {elts : List Expr} {kk : Nat} {tpos : Pos} {h} (hm : X.mg "enumerate" = none) (ha : PE X a (A.t W)) (hg : Gl X "enumerate" := by rfl) (hs : starEach [a] X.env = [(false, eval a X.env)] := by rfl) (hs' : starEach [a] X.env = (false, eval a X.env) :: starEach [] X.env := by rfl) :
    PI X (.Tuple elts kk tpos) (.Call (.Name "enumerate" p2) [a] [] pos) ((miEnum A h).t W) := pi_enum hg hm (pa_cons ha pa_nil hs') hs
theorem izip {elts : List Expr} {kk : Nat} {tpos : Pos} {h} (hm : X.mg "zip" = none) (ha : PE X a (A.t W)) (hb : PE X b (B.t W)) (hg : Gl X "zip" := by rfl)
    (hs : starEach [a, b] X.env = (false, eval a X.env) :: starEach [b] X.env := by rfl) (hpl : (backTo pos (starEach [b] X.env)).any (·.1) = false := by rfl) (h2 : starEach [b] X.env = (false, eval b X.env) :: starEach [] X.env := by rfl) :
    PI X (.Tuple elts kk tpos) (.Call (.Name "zip" p2) [a, b] [] pos) ((miZip A B h).t W) := pi_zip hg hm (pa_cons ha (pa_cons hb pa_nil h2) hs) hs hpl
theorem tsnil : PTs X [] ((mtYes (K := X.K)).t W) := pts_nil
theorem dlc {elt iter : Expr} {ifs : List Expr} {scope : Scope} {own : List (Str × Nat)} {Ts : MTs X.K} {vs : List Nat} {hg0 hk0} (hN : X.N.Nodup) (ok : blkC X.N X.env.scope scope own = true) (hvs : own.map (·.2) = vs) (hi : PI X tg iter (I.t W))
    (hg : ∀ (s : Shared) (H : Hp) (C : Addr) (cl : List (Str × Addr)) (fp : List Addr), PG (X.blk s H scope (compEnvC scope cl C X.env) fp) tg G.t) (ht : ∀ (s : Shared) (H : Hp) (C : Addr) (cl : List (Str × Addr)) (fp : List Addr), PTs (X.blk s H scope (compEnvC scope cl C X.env) fp) ifs (Ts.t WNo))
    (he : ∀ (s : Shared) (H : Hp) (C : Addr) (cl : List (Str × Addr)) (fp : List Addr), PE (X.blk s H scope (compEnvC scope cl C X.env) fp) elt (A.t WNo)) (hs : ∀ x, foldedSetIterable iter X.env x = pure x := by intro _; rfl) (hc : X.calm = true := by rfl) :
    PE X (.ListComp elt [⟨tg, iter, ifs, 0⟩] scope pos) ((mLc I G Ts A vs hg0 hk0).t W) := by
  subst hvs
  exact pe_lc hc hN hi (blkOk_by ok) hg ht he hs
end
section
variable {X : Cx} {W : WX} {pos p2 p3 p4 : Pos} {e a b c : Expr} {es rest : List Expr} {A B C : ME X.K} {j : Nat} {x : Str} {T : MT X.K} {st : Stmt} {sts b1 b2 : List Stmt} {S S' : MS X.K} {tg iter : Expr} {G : MG X.K} {I : MI X.K} {M : MF X.K}
theorem snil : PSs X [] ((msNil (K := X.K)).t W) := pss_nil
theorem scons (h1 : PS X st (S.t W)) (h2 : PSs X sts (S'.t W)) : PSs X (st :: sts) ((msSeq S S').t W) := show PSs X (st :: sts) (tSeq (S.t W) (S'.t W)) from pss_cons h1 h2
theorem sone (h1 : PS X st (S.t W)) : PSs X [st] (S.t W) := pss_one h1
theorem sif (hc : PT X c (T.t W)) (ha : PSs X b1 (S.t W)) (hb : PSs X b2 (S'.t W)) : PS X (.If c b1 b2 pos) ((msIf T S S').t W) := ps_if hc ha hb
theorem sasgN {i : Nat} {h} (hN : X.N.Nodup) (he : PE X e (A.t W)) (hi : X.N[i]? = some x := by rfl) (hx : Loc X.env.scope x := by first | exact Or.inl rfl | exact Or.inr rfl) (hs : swapsWith e (some (.Name x p2)) pos.line X.env = pure false := by rfl)
    (hf : X.fn x = true ∨ X.env.scope.names.lookup x = some .local := by first | exact .inl rfl | exact .inr rfl) : PS X (.Assign [.Name x p2] e pos) ((msAsg A (mgName i) h).t W) := ps_set hN hi hx he hs hf
theorem sasgF {i : Nat} (hN : X.N.Nodup) (he : PE X e (M.t W)) (hi : X.N[i]? = some x := by rfl) (hx : Loc X.env.scope x := by first | exact Or.inl rfl | exact Or.inr rfl) (hs : swapsWith e (some (.Name x p2)) pos.line X.env = pure false := by rfl)
    (hf : X.fn x = true ∨ X.env.scope.names.lookup x = some .local := by first | exact .inl rfl | exact .inr rfl) : PS X (.Assign [.Name x p2] e pos) ((msAsgF M i).t W) := ps_set hN hi hx he hs hf
theorem sdrop (he : PE X e (A.t W)) (hs : swapsWith e none pos.line X.env = pure false := by rfl) : PS X (.Expr e pos) ((msDrop A).t W) := ps_expr he hs
theorem sret {h} (he : PE X e (A.t W)) : PS X (.Return (some e) pos) ((msRet A h).t W) := ps_ret he
theorem sretF (he : PE X e (M.t W)) : PS X (.Return (some e) pos) ((msRetF M).t W) := ps_ret he
theorem ssetI {i : Nat} {I : ME X.K} {h} (he : PE X e (A.t W)) (hi : PE X b (I.t W)) (hN : X.N[i]? = some x := by rfl) (hv : Vis X.env.scope x := by first | exact Or.inl rfl | exact Or.inr (Or.inl rfl) | exact Or.inr (Or.inr rfl)) (hd : (x == ("__debug__" : Str)) = false := by decide)
    (hcd : (x == ("__classdict__" : Str)) = false := by decide)
    (hsub : ∀ v, assign (.Subscript (.Name x p2) b p3) X.env v = (do
      let ov ← holding [v] (eval (.Name x p2) X.env)
      let iv ← holding [v, ov] (eval b X.env)
      standAt p3
      holding [v, ov, iv] (setItem ov iv v)
      release [v, ov, iv] []) := by intro _; rfl)
    (hs : swapsWithSole [.Subscript (.Name x p2) b p3] e pos.line X.env = pure false := by rfl) (hw : swappedStores [.Subscript (.Name x p2) b p3] e X.env = pure none := by rfl)
    (h1 : (assignEach [.Subscript (.Name x p2) b p3] X.env).map (·.2) = [assign (.Subscript (.Name x p2) b p3) X.env] := by rfl) :
    PS X (.Assign [.Subscript (.Name x p2) b p3] e pos) ((msSet i I A h).t W) := ps_asg he (pg_sub (pe_var hN hv hd hcd) hi set_list hsub) hs hw h1
theorem sfor {body : List Stmt} {kl : List Nat} (hp : PassesOwn (model X.prog X.w) X.A X.env X.xe) (hi : PI X tg iter (I.t W)) (hg : PG X tg G.t) (hb : PSs X body (S.t W)) (hc : X.calm = true := by rfl) (hs : ∀ x, foldedSetIterable iter X.env x = pure x := by intro _; rfl) :
    PS X (.For tg iter body [] pos) ((msFor I G S kl).t W) := ps_for hp hc hi hg hb hs
theorem sparVV {i k : Nat} {y : Str} {kt k2 : Nat} {pt pt2 px py : Pos} {h h'} (hN : X.N.Nodup) (ha : PE X a (A.t W)) (hb : PE X b (B.t W)) (hc : X.calm = true := by rfl) (hi : X.N[i]? = some x := by rfl) (hj : X.N[k]? = some y := by rfl) (hij : i ≠ k := by decide)
    (hx : X.env.scope.names.lookup x = some .local := by rfl) (hy : X.env.scope.names.lookup y = some .local := by rfl) (na : starEach [a, b] X.env = (false, eval a X.env) :: starEach [b] X.env := by rfl) (nb : starEach [b] X.env = (false, eval b X.env) :: starEach [] X.env := by rfl)
    (hw : swappedStores [.Tuple [.Name x px, .Name y py] kt pt] (.Tuple [a, b] k2 pt2) X.env = pure (some [x, y]) := by rfl)
    (hs : swapsWithSole [.Tuple [.Name x px, .Name y py] kt pt] (.Tuple [a, b] k2 pt2) pos.line X.env = pure false := by rfl) :
    PS X (.Assign [.Tuple [.Name x px, .Name y py] kt pt] (.Tuple [a, b] k2 pt2) pos) ((msParVV i k A B h h').t W) := ps_par hc hN hi hj hij hx hy (pa_cons ha (pa_cons hb pa_nil nb) na) hw hs
end
section
variable {X : Cx}
theorem rAdd : OpR X (binaryOp .Add) (oAdd (K := X.K)).r := op_or op_add op_add_str
theorem rSub : OpR X (binaryOp .Sub) (oSub (K := X.K)).r := op_sub
theorem rMul : OpR X (binaryOp .Mult) (oMul (K := X.K)).r := op_or op_mul op_mulX
theorem rMod : OpR X (binaryOp .Mod) (oMod (K := X.K)).r := op_modN
theorem rDiv : OpR X (binaryOp .FloorDiv) (oDiv (K := X.K)).r := op_or op_fdivN op_fdivW
theorem rPow : OpR X (binaryOp .Pow) (oPow (K := X.K)).r := op_pow
theorem rLt : OpR X (compareOp .Lt) (oLt (K := X.K)).r := op_lt
theorem rLe : OpR X (compareOp .LtE) (oLe (K := X.K)).r := op_le
theorem rGt : OpR X (compareOp .Gt) (oGt (K := X.K)).r := op_gt
theorem rGe : OpR X (compareOp .GtE) (oGe (K := X.K)).r := op_ge
theorem rEqI : OpR X (compareOp .Eq) (oEqI (K := X.K)).r := op_eq
theorem rEqX {k : Nat} (hr : Room k X.A) : OpR X (compareOp .Eq) (oEq (K := X.K)).r := op_eqD hr.units
theorem rNeX {k : Nat} (hr : Room k X.A) : OpR X (compareOp .NotEq) (oNe (K := X.K)).r := op_neD hr.units
theorem rInX : OpR X (compareOp .In) (oIn (K := X.K) false).r := op_in_seq
theorem rNotInX : OpR X (compareOp .NotIn) (oIn (K := X.K) true).r := op_notIn_seq
theorem rLen : CallR X (.builtin "len") (oLen (K := X.K)).r := call_len
theorem rAbs : CallR X (.builtin "abs") (oAbs (K := X.K)).r := call_abs
theorem rMax2 (hc : X.calm = true := by rfl) : CallR X (.builtin "max") (oMax2 (K := X.K)).r := call_max2 hc
theorem rMin2 (hc : X.calm = true := by rfl) : CallR X (.builtin "min") (oMin2 (K := X.K)).r := call_min2 hc
theorem rInt : CallR X (.type "int") (oInt (K := X.K)).r := call_int1
theorem rSumX (hc : X.calm = true := by rfl) : CallR X (.builtin "sum") (oSum (K := X.K)).r := cr_sum hc
theorem rAllX (hc : X.calm = true := by rfl) : CallR X (.builtin "all") (oAll (K := X.K)).r := cr_all hc
theorem rListL : CallR X (.type "list") (oList (K := X.K)).r := call_list_of
theorem rSortedX : CallR X (.builtin "sorted") (oSorted (K := X.K)).r := cr_sortedI
theorem rAppendX : MtR X "list.append" (oAppend (K := X.K)).r := mt_append
theorem rExtendX : MtR X "list.extend" (oExtend (K := X.K)).r := mt_extend
theorem rPopAtX : MtR X "list.pop" (oPopAt (K := X.K)).r := mt_popAt
end
end Sg
set_option Elab.async false
set_option linter.all false
set_option maxRecDepth 100000
set_option maxHeartbeats 4000000
namespace Sg
open PySem L2
variable {K : PySem.W.Frag}
theorem call_fin {n : Nat} {mf : List Slot → Option CO} {F : Fc} {W : WX} {ρ ρ1 : Env} {σ : St} {B H B1 H1 : Hp} {Q : VK} {out : EO} {is : List (U ⊕ Nat)} {vs : List V} (x1 : Ex B B1) (R1 : Rel K F ρ1 σ B1 H1) (r1 : ItemsOk K B1 σ is vs) (hn : is.length = n)
    (e' : callM mf (some (.ok is ρ1)) = some out) (f : Fin K F W false true ρ σ B H Q out) : spM K n mf vs H1 Q (WE W σ) := by
  unfold callM at e'
  split at e'
  · cases e'
  · rename_i h; cases h
  · rename_i is' ρ1' h
    cases h
    split at e'
    · cases e'
    · rename_i as ea
      obtain ⟨q1, q2, q3⟩ := resolve_ok R1 r1 ea
      split at e'
      · rename_i n1
        have q3 := q3 n1
        split at e'
        · cases e'
        · rename_i u c em
          obtain ⟨ρ', ep, rfl⟩ := Option.map_eq_some_iff.mp e'
          exact ⟨B1, as, _, R1.ex, q2.trans hn, q1, n1, em, fun v B' H' g cc r => f v B' H' (x1.trans g.bb) (fun z => nomatch z) (after_call R1 g q3 cc ep) r⟩
        · rename_i us c em
          obtain ⟨ρ', ep, rfl⟩ := Option.map_eq_some_iff.mp e'
          refine ⟨B1, as, _, R1.ex, q2.trans hn, q1, n1, em, fun q ws B' H' g cc h1 h2 h3 hq r => ?_⟩
          have R2 := after_call R1 g q3 cc ep
          have xb : Ex B' (upd B' q (.lst ws)) := Ex.new h2
          have R3 := R2.know h1 h2 (R1.fresh0 h3) (put_cells R1 g q3 h3 ep) (fun o ho => by rw [(R1.xx _ _ ho).1] at h3; cases h3)
          exact f (.ref q) (upd B' q (.lst ws)) H' ((x1.trans g.bb).trans xb) (fun z => nomatch z) R3 ⟨q, ws, rfl, upd_same, RepL.mono xb _ _ r⟩
        · rename_i x c em
          obtain ⟨ρ', ep, rfl⟩ := Option.map_eq_some_iff.mp e'
          exact ⟨B1, as, _, R1.ex, q2.trans hn, q1, n1, em, fun cls d B' H' g cc xr => f cls d B' H' (x1.trans g.bb) (after_call R1 g q3 cc ep) (XRel.up R1 xr)⟩
      · cases e'
theorem fnR_of {P : Program} {w : World} {mg : Str → Option Value} {base : Heap} {CX : CXT} {k : Nat} {f : Addr} {fd : FuncData} {ps : List Str} {sp : Sp} (F : FnOk P w K mg base CX k f fd ps sp) (hb : Binds K fd ps []) : FnR P w K mg base CX k f sp := by
  intro A outer s H us vs Q E hr e0 r h
  have hl : us.length = ps.length := by rw [← r.length]; exact F.len _ _ _ _ h
  have KX : K.In s.heap := e0.mod.kin.keeps fun b o e => (e0.bs b o e).1
  have b := hb s us KX (by rw [List.append_nil]; exact hl)
  rw [List.append_nil] at b
  exact F.run A outer s H ⟨us, []⟩ us vs Q E hr e0 b r h
theorem run_fnRS {X : Cx} {CX : CXT} {k : Nat} {f : Addr} {sp : Sp} {pins : List (Addr × Obj)} {σ : St} {H : Hp} {s : Shared} {E : St → XK} {Q : VK} {us : List Value} {vs : List V} (F : FnR X.prog X.w X.K X.mg X.base CX k f sp) (hr : Room k X.A) (hx : PassesAt CX X σ (E σ)) (I : Inv X pins σ H s) (r : Vals vs us) (h : sp vs H Q (E σ)) :
    codeAny (model X.prog X.w) X.A (.call (.ref f) ⟨us, []⟩) (fun r s' => match r with | .ok (.ret v) => EP X pins σ Q v s' | .ok _ => False | .error e => X.xe e s') s := by
  refine codeAny_mono (F X.A X.stack s H us vs Q (E σ) hr I.env0 r h) fun r s' hq => ?_
  cases r with
  | error e => exact hx pins H s e s' I hq
  | ok fl =>
    cases fl with
    | ret u => exact I.after hq
    | next => exact False.elim hq
    | brk => exact False.elim hq
    | cont => exact False.elim hq
abbrev MTab := List (Str × (List Slot → Option CO))
def tMethD (K : PySem.W.Frag) (m : Str) (n : Nat) (tab : MTab) (E : St → XK) (ta : TE) (t : TA) : TE := fun σ H Q => ta σ H fun x H1 => ∃ a c dx fs mf, x = .ref a ∧ H1 a = some (.ins (He.ga K c) dx fs) ∧ fs.lookup m = none ∧ tab.lookup c = some mf ∧
  t σ H1 fun vs H2 => spM K n mf (x :: vs) H2 Q (E σ)
structure CalM (P : Program) (w : World) (K : PySem.W.Frag) (mg : Str → Option Value) (base : Heap) (CX : CXT) (k : Nat) (c m : Str) (n : Nat) (mf : List Slot → Option CO) : Prop where
  cls : Cls K (He.ga K c)
  ok : ∃ f, Meth K (He.ga K c) m f ∧ FnR P w K mg base CX k f (spM K n mf)
def CalT (P : Program) (w : World) (K : PySem.W.Frag) (mg : Str → Option Value) (base : Heap) (k : Nat) (m : Str) (n : Nat) (tab : MTab) : Prop := ∀ c mf, tab.lookup c = some mf → CalM P w K mg base (L2.CX P w) k c m n mf
section
variable {X : Cx} {W : WX} {m x : Str} {n k : Nat} {tab : MTab} {ta : TE} {t : TA} {o e : Expr} {es : List Expr} {pos apos p : Pos} {pl : Sem Bool}
theorem pe_methD (he : PE X o ta) (c : CalT X.prog X.w X.K X.mg X.base k m n tab) (hr : Room k X.A) (tk : Takes X W) (ha : PA X (e :: es) t)
    (hst : starEach (e :: es) X.env = (false, eval e X.env) :: starEach es X.env) (hpl : (backTo pos (starEach es X.env)).any (·.1) = false)
    (ht : eval (.Call (.Attribute o m apos) (e :: es) [] pos) X.env = (do
      let ov ← eval o X.env
      standAt apos.atName
      let (f, first) ← holding [ov] (getMethod ov m pl)
      callWith pos f first (backTo pos (starEach (e :: es) X.env)) (backToKw pos (keywordEach [] X.env)))) :
    PE X (.Call (.Attribute o m apos) (e :: es) [] pos) (tMethD X.K m n tab (WE W) ta t) := by
  refine ⟨fun pins s σ H Q I h => ?_⟩
  refine PySem.W.methodCall_KW (pl := pl) (thn (he.run pins s σ H _ I h) fun u s1 ⟨x, H1, I1, rx, a, c', dx, fs, mf, ex, ea, l, hl, q⟩ => ?_) ht
  subst ex
  obtain rfl : u = Value.ref a := rx
  obtain ⟨cc, f, hm, F⟩ := c _ _ hl
  refine getmeth_ok I1 ea cc hm l ?_
  refine PySem.W.callWith_K (first := [.ref a]) (h₀ := X.base) I.ok.mod.kin hm.kp (thn (ha.run pos pins s1 σ H1 _ I1 q) fun us s2 ⟨vs, H2, I2, r, q2⟩ => ⟨I2.kIn, ?_⟩) hst hpl
  exact wpAny_call (run_fnRS (us := .ref a :: us) (vs := .ref a :: vs) F hr (passAt tk σ) I2 (.cons rfl r) q2)
theorem pe_methD0 (he : PE X o ta) (c : CalT X.prog X.w X.K X.mg X.base k m n tab) (hr : Room k X.A) (tk : Takes X W)
    (ht : eval (.Call (.Attribute o m apos) [] [] pos) X.env = (do
      let ov ← eval o X.env
      standAt apos.atName
      let (f, first) ← holding [ov] (getMethod ov m pl)
      callWith pos f first (backTo pos (starEach [] X.env)) (backToKw pos (keywordEach [] X.env)))) :
    PE X (.Call (.Attribute o m apos) [] [] pos) (tMethD X.K m n tab (WE W) ta tNil) := by
  refine ⟨fun pins s σ H Q I h => ?_⟩
  refine PySem.W.methodCall_KW (pl := pl) (thn (he.run pins s σ H _ I h) fun u s1 ⟨x, H1, I1, rx, a, c', dx, fs, mf, ex, ea, l, hl, q⟩ => ?_) ht
  subst ex
  obtain rfl : u = Value.ref a := rx
  obtain ⟨cc, f, hm, F⟩ := c _ _ hl
  refine getmeth_ok I1 ea cc hm l ?_
  exact PySem.W.callWith_K0 (first := [.ref a]) I1.kIn hm.kp (wpAny_call (run_fnRS (us := [.ref a]) (vs := [.ref a]) F hr (passAt tk σ) I1 (.cons rfl .nil) q))
end
theorem RepF.lookup {B : Hp} {m : Str} : ∀ {fs : List (Str × U)} {ws : List (Str × V)}, RepF K B fs ws → fs.lookup m = none → ws.lookup m = none
  | [], _, h, _ => by cases h; rfl
  | (k, u) :: us, _, h, e => by
    obtain ⟨v, r, rfl, _, h2⟩ := h
    rw [List.lookup_cons] at e ⊢
    cases c : m == k with
    | true => rw [c] at e; cases e
    | false => rw [c] at e; exact RepF.lookup h2 e
def mMethD (m : Str) (n : Nat) (tab : MTab) (a : ME K) (b : MC K) (ha : a.k = true := by exact id rfl) (hk : b.k = true := by exact id rfl) : ME K where
  t := fun W => tMethD K m n tab (WE W) (a.t W) (b.t W)
  m := fun ρ => bindE (a.m ρ) fun u ρ1 => match u with
    | .ins c fs => match fs.lookup m, tab.lookup c with
      | none, some mf => (b.m ρ1).bind fun o => match o with
        | .ok is ρ2 => if is.length + 1 = n then callM mf (some (.ok (.inl (.ins c fs) :: is) ρ2)) else none
        | .ex e ρ2 => some (.ex e ρ2)
      | _, _ => none
    | _ => none
  p := false
  k := true
  ok := fun F W ρ σ B H Q out e R f => by
    rcases bindE_some e with ⟨u, ρ1, e1, e⟩ | ⟨x, ρ1, e1, rfl⟩
    · refine a.ok F W ρ σ B H _ _ e1 R fun v1 B1 H1 x1 p1 R1 r1 => ?_
      rw [ha, if_pos rfl] at r1
      cases u with
      | ins c fs =>
        dsimp only at e
        split at e
        · rename_i mf h1 h2
          obtain ⟨ad, dx, ws, rfl, hb, hf⟩ := r1
          refine ⟨ad, c, dx, ws, mf, rfl, R1.ex _ _ hb, RepF.lookup hf h1, h2, ?_⟩
          obtain ⟨o, e2, e⟩ := Option.bind_eq_some_iff.mp e
          cases o with
          | ex x ρ2 => cases e; exact b.ok F W ρ1 σ B1 H1 _ _ e2 R1 fun cls d B2 H2 x2 R2 xr => f cls d B2 H2 (x1.trans x2) R2 xr
          | ok is ρ2 =>
            refine b.ok F W ρ1 σ B1 H1 _ _ e2 R1 fun vs B2 H2 x2 p2 R2 r2 => ?_
            rw [hk, if_pos rfl] at r2
            dsimp only at e
            split at e
            · rename_i hn
              exact call_fin (H := H) (ρ := ρ) (is := .inl (.ins c fs) :: is) (x1.trans x2) R2 ⟨_, vs, rfl, ⟨ad, dx, ws, rfl, x2 _ _ hb, RepF.mono x2 _ _ hf⟩, r2⟩ hn e f
            · cases e
        · cases e
      | _ => cases e
    · exact a.ok F W ρ σ B H _ _ e1 R fun cls d B1 H1 x1 R1 xr => f cls d B1 H1 x1 R1 xr
structure Mk0 (K : PySem.W.Frag) (C : Addr) : Prop where
  makes : PySem.W.makesIn K C = true
  init : PySem.W.findIn K (.ref C) "__init__" = some (some (.builtin "object.__init__"))
  kp : PySem.W.keepIn K (.ref C) = true
def tNewP (K : PySem.W.Frag) (c : Str) : TE := fun _ H Q => ∀ x dx, H x = none → H dx = none → dx ≠ x → Q (.ref x) (upd (upd H dx (.own x)) x (.ins (He.ga K c) dx []))
section
variable {X : Cx} {x c : Str} {p pos : Pos}
theorem run_newP {C : Addr} {pins : List (Addr × Obj)} {σ : St} {H : Hp} {s : Shared} {Q : VK} (M : Mk0 X.K C) (I : Inv X pins σ H s)
    (h : ∀ x dx, H x = none → H dx = none → dx ≠ x → Q (.ref x) (upd (upd H dx (.own x)) x (.ins C dx []))) : wpAny (model X.prog X.w) X.A (call (.ref C) []) (EP X pins σ Q) X.xe s := by
  have hq := h (s.heap.objs.size + 1) s.heap.objs.size (I.hok.fresh (Nat.le_succ _)) (I.hok.fresh (Nat.le_refl _)) (Nat.ne_of_lt (Nat.lt_succ_self _))
  have I2 := Inv.made (C := C) I
  refine wpAny_call (make_map0 I.kIn M.makes M.init (fun self => PySem.W.Looks.of_pure (PySem.W.oi_bind self)) ?_)
  have Y := PySem.W.makes_of (M := model X.prog X.w) I.kIn M.makes
  obtain ⟨hh, g, d, t, os⟩ := s
  have t1 : PySem.W.Looks (model X.prog X.w) ((hh.push PySem.W.emptyDict).push (PySem.W.instObj C hh.objs.size)) (typeOf (.ref (hh.objs.size + 1))) (.ref C) := by
    have e : ((hh.push PySem.W.emptyDict).push (PySem.W.instObj C hh.objs.size)).get? (hh.objs.size + 1) = some (PySem.W.instObj C hh.objs.size) := Heap.get?_push_at (Heap.size_push _ _).symm rfl
    exact (PySem.W.Looks.ld e).andThen .now
  have t2 : PySem.W.Looks (model X.prog X.w) ((hh.push PySem.W.emptyDict).push (PySem.W.instObj C hh.objs.size)) (isInstance (.ref (hh.objs.size + 1)) (.type "object")) true := t1.andThen (Y.top.keeps fun b o e => Heap.get?_push_of_some _ (Heap.get?_push_of_some _ e))
  refine codeAny_call_builtin PySem.W.oi_plain PySem.W.entry_oi (@PySem.W.check_slot (model X.prog X.w) _ _ _ "object.__init__" "object" "__init__" (.ref (hh.objs.size + 1)) [] [] _ PySem.W.oi_kind PySem.W.oi_split t2 (PySem.W.oi_args (.ref (hh.objs.size + 1))) ?_)
  rw [PySem.W.oi_run]
  exact wpAny_pure ⟨rfl, V.ref (hh.objs.size + 1), _, I2, rfl, hq⟩
theorem pe_newP (M : Mk0 X.K (He.ga X.K c)) (hg : Gl X x) (hm : X.mg x = some (.ref (He.ga X.K c))) (hdb : (x == ("__debug__" : Str)) = false) : PE X (.Call (.Name x p) [] [] pos) (tNewP X.K c) := by
  refine ⟨fun pins s σ H Q I h => ?_⟩
  refine wpAny_Call_Name_kw (ld_glob I hg hm ?_ hdb)
  exact PySem.W.callWith_K0 I.kIn M.kp (run_newP M I h)
end
def mNew (c : Str) : ME K where
  t := fun _ => tNewP K c
  m := fun ρ => some (.ok (.ins c []) ρ)
  p := true
  k := true
  ok := fun F W ρ σ B H Q out e R f => by
    cases e
    intro x dx hx hd ne
    have g1 := Go.newB (o := .own x) R.ex hd
    have R1 := R.grow g1
    have hx' : upd H dx (.own x) x = none := by rw [upd_ne (Ne.symm ne)]; exact hx
    have g2 := Go.newB (o := .ins (He.ga K c) dx []) R1.ex hx'
    exact f (.ref x) _ _ (g1.bb.trans g2.bb) (fun _ => ⟨g1.ex.trans g2.ex, rfl⟩) (R1.grow g2) ⟨x, dx, [], rfl, upd_same, rfl⟩
structure CalC (P : Program) (w : World) (K : PySem.W.Frag) (mg : Str → Option Value) (base : Heap) (k : Nat) (c m : Str) (n : Nat) (mf : List Slot → Option CO) : Prop where
  mg_ : mg c = some (.ref (He.ga K c))
  kp : PySem.W.keepIn K (.ref (He.ga K c)) = true
  ok : ∃ mc p g, ClX.CRead K (He.ga K c) mc ∧ ClX.CMet K (He.ga K c) mc m p g ∧ FnR P w K mg base (L2.CX P w) k g (spM K n mf)
def tCMethW (C : Addr) (sp : Sp) (E : St → XK) (t : TA) : TE := fun σ H Q => t σ H fun vs H2 => sp (.ref C :: vs) H2 Q (E σ)
section
variable {X : Cx} {W : WX} {m x c : Str} {n k : Nat} {mf : List Slot → Option CO} {t : TA} {o e : Expr} {es : List Expr} {pos apos p : Pos} {pl : Sem Bool}
theorem run_cmS {C q g : Addr} {sp : Sp} {pins : List (Addr × Obj)} {σ : St} {H : Hp} {s : Shared} {Q : VK} {us : List Value} {vs : List V} (F : FnR X.prog X.w X.K X.mg X.base (L2.CX X.prog X.w) k g sp) (hr : Room k X.A) (tk : Takes X W) (I : Inv X ((q, PySem.W.methodObj (.ref g) (.ref C)) :: pins) σ H s)
    (r : Vals vs us) (h : sp (.ref C :: vs) H Q (WE W σ)) : wpAny (model X.prog X.w) X.A (call (.ref q) us) (EP X pins σ Q) X.xe s := by
  have z : wpAny (model X.prog X.w) X.A (call (.ref q) us) (EP X ((q, PySem.W.methodObj (.ref g) (.ref C)) :: pins) σ Q) X.xe s :=
    wpAny_call (PySem.W.method_call (ClX.pin_at I) (run_fnRS (us := .ref C :: us) (vs := .ref C :: vs) F hr (passAt tk σ) I (.cons rfl r) h))
  exact thn z fun _ _ y => ClX.unpinE y
theorem pe_cmethW (cal : CalC X.prog X.w X.K X.mg X.base k c m n mf) (hr : Room k X.A) (tk : Takes X W) (ha : PA X (e :: es) t) (hg : Gl X c) (hdb : (c == ("__debug__" : Str)) = false)
    (hst : starEach (e :: es) X.env = (false, eval e X.env) :: starEach es X.env) (hpl : (backTo pos (starEach es X.env)).any (·.1) = false)
    (ht : eval (.Call (.Attribute (.Name c p) m apos) (e :: es) [] pos) X.env = (do
      let ov ← eval (.Name c p) X.env
      standAt apos.atName
      let (f, first) ← holding [ov] (getMethod ov m pl)
      callWith pos f first (backTo pos (starEach (e :: es) X.env)) (backToKw pos (keywordEach [] X.env)))) :
    PE X (.Call (.Attribute (.Name c p) m apos) (e :: es) [] pos) (tCMethW (He.ga X.K c) (spM X.K n mf) (WE W) t) := by
  obtain ⟨mc, pp, g, r, cm, F⟩ := cal.ok
  refine ⟨fun pins s σ H Q I h => ?_⟩
  refine PySem.W.methodCall_KW (pl := pl) (ld_glob I hg cal.mg_ ?_ hdb) ht
  refine ClX.getmethcm_ok I r cm fun s2 I2 => ?_
  refine ClX.callwith_cm I2 (ClX.base_none I (Nat.le_refl _)) cm.fi (thn (ha.run pos _ s2 σ H _ I2 h) fun us s3 ⟨vs, H2, I3, rv, q2⟩ => ⟨⟨ClX.pin_at I3, I3.kIn⟩, ?_⟩) hst hpl
  exact run_cmS F hr tk I3 rv q2
end
def mCMeth (c : Str) (n : Nat) (mf : List Slot → Option CO) (b : MC K) (hk : b.k = true := by exact id rfl) : ME K where
  t := fun W => tCMethW (He.ga K c) (spM K n mf) (WE W) (b.t W)
  m := fun ρ => (b.m ρ).bind fun o => match o with
    | .ok is ρ2 => if is.length + 1 = n then callM mf (some (.ok (.inl (.ref (He.ga K c)) :: is) ρ2)) else none
    | .ex e ρ2 => some (.ex e ρ2)
  p := false
  k := true
  ok := fun F W ρ σ B H Q out e R f => by
    obtain ⟨o, e2, e⟩ := Option.bind_eq_some_iff.mp e
    cases o with
    | ex x ρ2 => cases e; exact b.ok F W ρ σ B H _ _ e2 R fun cls d B2 H2 x2 R2 xr => f cls d B2 H2 x2 R2 xr
    | ok is ρ2 =>
      refine b.ok F W ρ σ B H _ _ e2 R fun vs B2 H2 x2 p2 R2 r2 => ?_
      rw [hk, if_pos rfl] at r2
      dsimp only at e
      split at e
      · rename_i hn
        exact call_fin (H := H) (ρ := ρ) (is := .inl (.ref (He.ga K c)) :: is) x2 R2 ⟨_, vs, rfl, rfl, r2⟩ hn e f
      · cases e
structure ConC (K : PySem.W.Frag) (c f : Str) (u : U) : Prop where
  ok : ∃ mc v w, ClX.CRead K (He.ga K c) mc ∧ ClX.CVal K (He.ga K c) mc f v w ∧ ∀ B, Rep K B u v
def tCon (K : PySem.W.Frag) (c : Str) (u : U) (ta : TE) : TE := fun σ H Q => ta σ H fun x H1 => x = .ref (He.ga K c) ∧ ∀ v, (∀ B, Rep K B u v) → Q v H1
theorem pe_conC {X : Cx} {c f : Str} {u : U} {e : Expr} {ta : TE} {pos : Pos} (k : ConC X.K c f u) (he : PE X e ta) (hb : attributeBase e f X.env (eval e X.env) = eval e X.env) : PE X (.Attribute e f pos) (tCon X.K c u ta) := by
  obtain ⟨mc, v, w, r, cv, hr⟩ := k.ok
  refine ⟨fun pins s σ H Q I h => ?_⟩
  refine attr_of hb (thn (he.run pins s σ H _ I h) fun uu s1 ⟨x, H1, I1, rx, ex, q⟩ => ?_)
  subst ex
  obtain rfl : uu = Value.ref (He.ga X.K c) := rx
  exact ClX.getcval_ok I1 r cv fun s2 I2 => ⟨v, H1, I2, cv.rel, q v hr⟩
def mConC (c : Str) (u : U) (a : ME K) : ME K where
  t := fun W => tCon K c u (a.t W)
  m := fun ρ => bindE (a.m ρ) fun x ρ1 => match x with
    | .ref p => if p = He.ga K c then some (.ok u ρ1) else none
    | _ => none
  p := a.p
  k := true
  ok := fun F W ρ σ B H Q out e R f => by
    rcases bindE_some e with ⟨x, ρ1, e1, e⟩ | ⟨x, ρ1, e1, rfl⟩
    · refine a.ok F W ρ σ B H _ _ e1 R fun v1 B1 H1 x1 p1 R1 r1 => ?_
      cases x with
      | ref p =>
        dsimp only at e
        split at e
        · rename_i hp
          cases e
          subst hp
          have r2 : Rep K H1 (.ref (He.ga K c)) v1 := rep_up R1 r1
          exact ⟨r2, fun v hv => f v B1 H1 x1 p1 R1 (hv _)⟩
        · cases e
      | _ => cases e
    · exact a.ok F W ρ σ B H _ _ e1 R fun cls d B1 H1 x1 R1 xr => f cls d B1 H1 x1 R1 xr
end Sg
set_option Elab.async false
set_option linter.all false
set_option maxRecDepth 100000
set_option maxHeartbeats 4000000
namespace Sg
open PySem L2
variable {K : PySem.W.Frag}
abbrev XTab := List (Str × Bool)
def wTab (K : PySem.W.Frag) (tab : XTab) (S2 : TS) (W : WX) (D : Ends) : WX := fun cls d σ H => ∃ cx b, cls = .ref (He.ga K cx) ∧ tab.lookup cx = some b ∧ (b = true → S2 D σ H) ∧ (b = false → W cls d σ H)
def msTry (tab : XTab) (S S2 : MS K) : MS K where
  t := fun W D σ H => S.t (wTab K tab (S2.t WNo) W D) D σ H
  m := fun ρ => match S.m ρ with
    | some (.ex e ρ') => match tab.lookup e.c with
      | some true => match S2.m ρ' with
        | some (.ex _ _) => none
        | o => o
      | some false => some (.ex e ρ')
      | none => none
    | o => o
  ok := fun F W ρ σ B H D o q R f => by
    split at q
    · rename_i e ρ' es
      refine S.ok F _ ρ σ B H D _ es R fun cls d σ' B' H' x' R' xr => ?_
      split at q
      · rename_i ht
        refine ⟨e.c, true, xr.1.1, ht, fun _ => ?_, fun z => absurd z (by decide)⟩
        split at q
        · cases q
        · rename_i o' hne
          refine S2.ok F WNo ρ' σ' B' H' D _ q R' ?_
          have f' := f.mono x'
          cases o with
          | ex e1 ρ1 => exact absurd q (hne _ _)
          | nx ρ1 => exact f'
          | bk ρ1 => exact f'
          | ct ρ1 => exact f'
          | rt r ρ1 => exact f'
      · rename_i ht
        cases q
        exact ⟨e.c, false, xr.1.1, ht, fun z => absurd z (by decide), fun _ => f cls d σ' B' H' x' R' xr⟩
      · cases q
    · rename_i o' hne
      refine S.ok F _ ρ σ B H D _ q R ?_
      cases o with
      | ex e1 ρ1 => exact absurd q (hne _ _)
      | nx ρ1 => exact f
      | bk ρ1 => exact f
      | ct ρ1 => exact f
      | rt r ρ1 => exact f
section
variable {X : Cx} {W : WX} {c : Str} {tab : XTab} {S S2 : MS X.K} {body suite : List Stmt} {b₀ : Stmt} {np pos pos' : Pos}
theorem stry (ht : ∀ cx b, tab.lookup cx = some b → PySem.W.exmOne X.K (.ref (He.ga X.K cx)) (.ref (He.ga X.K c)) = some b) (hm : X.mg c = some (.ref (He.ga X.K c))) (tk : Takes X W)
    (hb : ∀ (W' : WX) (pn : List (Addr × Obj)) (xe : Value → Shared → Prop), Takes (X.tr pn xe) W' → PassesOwn (model X.prog X.w) X.A X.env xe → PSs (X.tr pn xe) body (S.t W'))
    (hsu : ∀ (a : Addr) (oe : Obj) (cls : Value) (d : Option Addr) (pn : List (Addr × Obj)), PSs (X.suite a ((a, oe) :: pn)) (b₀ :: suite) (S2.t WNo))
    (hs : X.stack = X.env :: X.outer := by rfl) (hf : X.env.frame = some X.env.locals := by rfl) (hg : Gl X c := by rfl) (hdb : (c == ("__debug__" : Str)) = false := by decide) :
    PS X (.Try body [.ExceptHandler (some (.Name c np)) none (b₀ :: suite) pos'] [] [] pos) ((msTry tab S S2).t W) := by
  have P := ps_try_only (X := X) (x := c) (c := .ref (He.ga X.K c)) (np := np) (pos := pos) (pos' := pos') (body := body) (suite := suite) (b₀ := b₀) (Wout := W)
    (tb := fun W' D σ H => (∀ cls d σ H, wTab X.K tab (S2.t WNo) W D cls d σ H → W' cls d σ H) ∧ S.t (wTab X.K tab (S2.t WNo) W D) D σ H) (ts := fun _ _ _ => S2.t WNo) hs hf ⟨hg, hdb, .inl hm⟩ tk
    (fun W' pn xe tk' po => ⟨fun pins s σ H D I h => (hb (wTab X.K tab (S2.t WNo) W D) pn xe (tk'.imp h.1) po).run pins s σ H D I h.2⟩) (fun a oe cls d pn _ _ => hsu a oe cls d pn)
  refine ⟨fun pins s σ H D I h => P.run pins s σ H D I ⟨fun cls d σ H ⟨cx, b, e, hl, h1, h2⟩ => ⟨b, by rw [e]; exact ht cx b hl, fun hb a _ => h1 hb, h2⟩, h⟩⟩
end
section
variable {X : Cx} {W : WX} {m x c : Str} {n k : Nat} {tab : MTab} {mf : List Slot → Option CO} {A : ME X.K} {L : MC X.K} {o e : Expr} {es : List Expr} {pos apos p : Pos} {pl : Sem Bool}
theorem dM {h1 h2} (he : PE X o (A.t W)) (c : CalT X.prog X.w X.K X.mg X.base k m n tab) (hr : Room k X.A) (tk : Takes X W) (ha : PA X (e :: es) (L.t W))
    (hst : starEach (e :: es) X.env = (false, eval e X.env) :: starEach es X.env := by rfl) (hpl : (backTo pos (starEach es X.env)).any (·.1) = false := by rfl)
    (ht : eval (.Call (.Attribute o m apos) (e :: es) [] pos) X.env = (do
      let ov ← eval o X.env
      standAt apos.atName
      let (f, first) ← holding [ov] (getMethod ov m pl)
      callWith pos f first (backTo pos (starEach (e :: es) X.env)) (backToKw pos (keywordEach [] X.env))) := by rfl) :
    PE X (.Call (.Attribute o m apos) (e :: es) [] pos) ((mMethD m n tab A L h1 h2).t W) := pe_methD he c hr tk ha hst hpl ht
theorem dM0 {h1 h2} (he : PE X o (A.t W)) (c : CalT X.prog X.w X.K X.mg X.base k m n tab) (hr : Room k X.A) (tk : Takes X W)
    (ht : eval (.Call (.Attribute o m apos) [] [] pos) X.env = (do
      let ov ← eval o X.env
      standAt apos.atName
      let (f, first) ← holding [ov] (getMethod ov m pl)
      callWith pos f first (backTo pos (starEach [] X.env)) (backToKw pos (keywordEach [] X.env))) := by rfl) :
    PE X (.Call (.Attribute o m apos) [] [] pos) ((mMethD m n tab A mcNil h1 h2).t W) := pe_methD0 he c hr tk ht
theorem dnew (M : Mk0 X.K (He.ga X.K c)) (hm : X.mg c = some (.ref (He.ga X.K c))) (hg : Gl X c := by rfl) (hdb : (c == ("__debug__" : Str)) = false := by decide) : PE X (.Call (.Name c p) [] [] pos) ((mNew (K := X.K) c).t W) := pe_newP M hg hm hdb
theorem dCM {h} (cal : CalC X.prog X.w X.K X.mg X.base k c m n mf) (hr : Room k X.A) (tk : Takes X W) (ha : PA X (e :: es) (L.t W)) (hg : Gl X c := by rfl) (hdb : (c == ("__debug__" : Str)) = false := by decide)
    (hst : starEach (e :: es) X.env = (false, eval e X.env) :: starEach es X.env := by rfl) (hpl : (backTo pos (starEach es X.env)).any (·.1) = false := by rfl)
    (ht : eval (.Call (.Attribute (.Name c p) m apos) (e :: es) [] pos) X.env = (do
      let ov ← eval (.Name c p) X.env
      standAt apos.atName
      let (f, first) ← holding [ov] (getMethod ov m pl)
      callWith pos f first (backTo pos (starEach (e :: es) X.env)) (backToKw pos (keywordEach [] X.env))) := by rfl) :
    PE X (.Call (.Attribute (.Name c p) m apos) (e :: es) [] pos) ((mCMeth c n mf L h).t W) := pe_cmethW cal hr tk ha hg hdb hst hpl ht
theorem dcon {u : U} (k : ConC X.K c m u) (he : PE X e (A.t W)) (hb : attributeBase e m X.env (eval e X.env) = eval e X.env := by rfl) : PE X (.Attribute e m pos) ((mConC c u A).t W) := pe_conC k he hb
structure XF (K : PySem.W.Frag) (mg : Str → Option Value) (c : Str) : Prop where
  mg_ : mg c = some (.ref (He.ga K c))
  ok : PySem.W.excIn K (He.ga K c) He.veBase "ValueError.__new__" = true ∧ PySem.W.keepIn K (.ref (He.ga K c)) = true ∧ PySem.W.subIn K (.ref (He.ga K c)) (.type "BaseException") = some true ∧ PySem.W.typeIn K (.ref (He.ga K c)) = some (.type "type")
theorem srs {t : Str} {j : Nat} {p2 : Pos} (f : XF X.K X.mg c) (tk : Takes X W) (hc : X.calm = true := by rfl) (hg : Gl X c := by rfl) (hdb : (c == ("__debug__" : Str)) = false := by decide) :
    PS X (.Raise (some (.Call (.Name c p) [.Constant (.str t) j p2] [] pos)) none apos) ((msRaise (K := X.K) c).t W) :=
  ps_raise hc tk (pmk_own PySem.F.excBase_ValueError f.ok.1 f.mg_ f.ok.2.1 (raises_own f.ok.2.2.1 f.ok.2.2.2) hg hdb)
end
end Sg
set_option Elab.async false
set_option linter.all false
set_option maxRecDepth 100000
set_option maxHeartbeats 4000000
namespace Sg
open PySem L2
abbrev AtC {α : Type} := @_root_.PySem.wpAt α
def PEc (X : Cx) (c : Code) (e : Expr) (t : TE) : Prop := ∀ (pins : List (Addr × Obj)) (s : Shared) (σ : St) (H : Hp) (Q : VK), Inv X pins σ H s → t σ H Q → AtC (model X.prog X.w) X.A c (eval e X.env) (EP X pins σ Q) X.xe s
def PSc (X : Cx) (c : Code) (st : Stmt) (t : TS) : Prop := ∀ (pins : List (Addr × Obj)) (s : Shared) (σ : St) (H : Hp) (D : Ends), Inv X pins σ H s → t D σ H → AtC (model X.prog X.w) X.A c (exec st X.env) (SP X pins D) X.xe s
def PSsc (X : Cx) (c : Code) (sts : List Stmt) (t : TS) : Prop := ∀ (pins : List (Addr × Obj)) (s : Shared) (σ : St) (H : Hp) (D : Ends), Inv X pins σ H s → t D σ H → AtC (model X.prog X.w) X.A c (execs sts X.env) (SP X pins D) X.xe s
section
variable {X : Cx} {c : Code} {st : Stmt} {sts : List Stmt} {t t1 t2 : TS}
theorem psc_of (h : PS X st t) : PSc X c st t := fun pins s σ H D I q => _root_.PySem.wpAt_of_wpAny (h.run pins s σ H D I q)
theorem pssc_of (h : PSs X sts t) : PSsc X c sts t := fun pins s σ H D I q => _root_.PySem.wpAt_of_wpAny (h.run pins s σ H D I q)
theorem pssc_cons (h1 : PSc X c st t1) (h2 : PSsc X c sts t2) : PSsc X c (st :: sts) (tSeq t1 t2) := fun pins s σ H D I q => by
  refine ks_wpAt_execs_cons (_root_.PySem.wpAt_mono (h1 pins s σ H _ I q) (fun f s1 h => ?_) fun _ _ x => x)
  cases f with
  | next =>
    obtain ⟨σ1, H1, I1, q1⟩ := h
    exact h2 pins s1 σ1 H1 D I1 q1
  | brk => exact h
  | cont => exact h
  | ret v => exact h
theorem psc_set {i : Nat} {x : Str} {e : Expr} {te : TE} {p2 pos : Pos} (hN : X.N.Nodup) (he : PEc X c e te) (hi : X.N[i]? = some x) (hx : Loc X.env.scope x) (hs : swapsWith e (some (.Name x p2)) pos.line X.env = pure false) (hf : X.fn x = true ∨ X.env.scope.names.lookup x = some .local) :
    PSc X c (.Assign [.Name x p2] e pos) (tAsg te (gName i)) := fun pins s σ H D I q =>
  ks_wpAt_Assign_Name (_root_.PySem.wpAt_mono (he pins s σ H _ I q) (fun v s1 ⟨y, H1, I1, r1, q1⟩ => store_ok I1 hN hi hx r1 (fun s2 I2 => ⟨_, H1, I2, q1⟩) hf) fun _ _ x => x) hs
end
section
variable {X : Cx} {c : Code} {e : Expr} {te : TE}
theorem pec_rev {k : Nat} {p1 p2 p3 pos : Pos} (he : PEc X c e te) : PEc X c (.Subscript e (.Slice none none (some (.UnaryOp .USub (.Constant (.int 1) k p1) p2)) p3) pos) (tRevL X.K te) := fun pins s σ H Q I h => by
  rw [eval_Subscript]
  refine _root_.PySem.wpAt_bind (_root_.PySem.wpAt_mono (he pins s σ H _ I h) (fun v s1 hv => _root_.PySem.wpAt_of_wpAny ?_) fun _ _ x => x)
  obtain ⟨x, H1, I1, r1, a, xs, rfl, hx, q⟩ := hv
  obtain rfl : v = Value.ref a := r1
  refine wpAny_bind (wpAny_holding ?_)
  have hst : PO X (some (.UnaryOp .USub (.Constant (.int 1) k p1) p2)) (tPart (tUn (rU fun i => .int (-i)) (tC (.int 1)))) := po_some (pe_un un_neg pe_int)
  refine PySem.wpAny_Slice (thn (po_none.run pins s1 σ H1 (fun o H2 => o = none ∧ H2 = H1) I1 ⟨rfl, rfl⟩) fun vl s2 ⟨l, H2, I2, pl, el, e2⟩ => ?_)
  subst el e2
  refine thn (po_none.run pins s2 σ H2 (fun o H3 => o = none ∧ H3 = H2) I2 ⟨rfl, rfl⟩) fun vu s3 ⟨u, H3, I3, pu, eu, e3⟩ => ?_
  subst eu e3
  refine thn (hst.run pins s3 σ H3 (fun o H4 => o = some (-1) ∧ H4 = H3) I3 ⟨1, rfl, -1, rfl, rfl, rfl⟩) fun vs s4 ⟨o, H4, I4, ps, eo, e4⟩ => ?_
  subst eo e4
  refine wpAny_bind (wpAny_standAt ?_)
  have I5 : Inv X pins σ H4 { s4 with heap := s4.heap.push { cls := .type "slice", data := .fields #[vl, vu, vs] } } := I4.kept (t' := s4.toks) fun b ob q => Heap.get?_push_of_some _ q
  obtain ⟨its, r, ht, hz⟩ := I5.list hx
  have hlen := r.length
  refine PyProof.Rows.tail_any (ops := [.ref a, .ref s4.heap.objs.size]) ht.isList.typeIs (PySem.slot_list_getitem.lookup) ?_ (by with_unfolding_all rfl)
  refine wpAny_getItem_list_slice ht.isList (Heap.IsSliceOf.new _ vl vu vs) pl pu ps (by decide) ?_ (by rw [List.size_toArray]; omega)
  rw [PySem.W.krv_pick]
  exact ⟨.ref _, _, I5.laid (t' := s4.toks) (o := .lst xs.reverse) (fun b ob q => Heap.get?_push_of_some _ q) (Nat.le_refl _) ⟨by rw [List.length_reverse]; exact hz, _, 0, r.reverse, Heap.get?_push_size _ rfl⟩, rfl, q _ (I5.hok.fresh (Nat.le_refl _))⟩
end
section
variable {X : Cx} {c : Code}
def PIc (X : Cx) (c : Code) (tg iter : Expr) (wi : TI) : Prop := ∀ (pins : List (Addr × Obj)) (s : Shared) (σ : St) (H : Hp) (R : It → Hp → Prop), Inv X pins σ H s → wi σ H R →
  AtC (model X.prog X.w) X.A c (eval iter X.env) (fun v s1 => wpAny (model X.prog X.w) X.A (pyIter v) (PIE X pins σ tg R) X.xe s1) X.xe s
theorem pic_list {tg l : Expr} {tl : TE} (hl : PEc X c l tl) : PIc X c tg l (iList X.K tl) := fun pins s σ H R I h => by
  refine _root_.PySem.wpAt_mono (hl pins s σ H _ I h) (fun v s1 hv => ?_) fun _ _ x => x
  obtain ⟨x, H1, I1, r1, a, rfl, ⟨xs, hq⟩, q⟩ := hv
  obtain rfl : v = Value.ref a := r1
  obtain ⟨its, rv, p, hz⟩ := I1.list hq
  refine wpAny_pyIter_list p.isList ⟨s1.heap.objs.size, [s1.heap.objs.size], _, _, H1, rfl, I1.kept (t' := s1.toks) fun b o e => Heap.get?_push_of_some _ e, turn_list a _, ⟨_, Heap.get?_push_size _ rfl, rfl, rfl⟩, fun b hb => ?_, q⟩
  obtain rfl : b = s1.heap.objs.size := by simpa using hb
  exact I1.fpOk (Nat.le_refl _) (I1.hok.fresh (Nat.le_refl _))
theorem for_run {tg : Expr} {body : List Stmt} {g : TG} {tb : TS} (hp : PassesOwn (model X.prog X.w) X.A X.env X.xe) (hc : X.calm = true) (hg : PG X tg g) (hb : PSs X body tb) {pins : List (Addr × Obj)} {σ : St} {D : Ends} {itv : Value} {s : Shared}
    (h : PIE X pins σ tg (fun J H1 => ∃ W : Nat → Nat → St → Hp → Prop, (∃ m, W 0 m σ H1) ∧ ∀ i m σ H, W i m σ H →
      (J.stop i H ∧ D.nx σ H) ∨ (J.go i H ∧ ∃ N : St → Hp → Prop, (∀ σ' H', N σ' H' → ∃ m', m' < m ∧ W (i + 1) m' σ' H') ∧ ∀ x H', J.yld i H x H' → g x σ H' fun σ2 H2 => tb { D with nx := N, ct := N, bk := D.nx } σ2 H2)) itv s) :
    codeAny (model X.prog X.w) X.A (.forLoop tg itv body [] X.env) (fun r s' => match r with | .ok f => SP X pins D f s' | .error e => cameBackBy (model X.prog X.w) X.A X.env X.xe e s') s := by
  obtain ⟨it, fp, tn, J, H0, rfl, I0, T, t0, f0, W, ⟨m0, w0⟩, turn⟩ := h
  refine codeAny_forLoop_any (fun n s' => ∃ i σ1 H1, (Inv X pins σ1 H1 s' ∧ tn i s'.heap) ∧ (∀ b ∈ fp, H1 b = none) ∧ W i n σ1 H1) (fun n s1 hI => ?_) m0 ⟨0, σ, H0, ⟨I0, t0⟩, fun b hb => (f0 b hb).1, w0⟩
  obtain ⟨i, σ1, H1, ⟨I1, t1⟩, fr1, w1⟩ := hI
  have own1 : ∀ b ∈ fp, FpOk X pins H1 b := fun b hb => ⟨fr1 b hb, (f0 b hb).2⟩
  cases turn i n σ1 H1 w1 with
  | inl z =>
    refine wpAny_passesOwn hp (thn (T.done X rfl rfl rfl hc i pins s1 σ1 H1 X.xe I1 own1 t1 z.1) fun r s2 hr => ?_)
    obtain ⟨rfl, I2⟩ := hr
    exact wpAny_execs_nil ⟨σ1, H1, I2, z.2⟩
  | inr z =>
    obtain ⟨go, N, hN, step⟩ := z
    refine wpAny_passesOwn hp (thn (T.item X rfl rfl rfl hc i pins s1 σ1 H1 X.xe I1 own1 t1 go) fun r s2 hr => ?_)
    obtain ⟨u, rfl, h4⟩ := hr
    refine wpAny_passesOwn hp (thn h4 fun _ s3 h5 => ?_)
    obtain ⟨x, H3, I3, r3, y3, t3, own3⟩ := h5
    refine wpAny_passesOwn hp (thn (hg.run _ s3 σ1 H3 x u _ (I3.pinned (fun b hb => ⟨own3 b hb, (f0 b hb).2⟩) (T.obj _ _ t3)) r3 (step x H3 y3)) fun _ s4 h6 => ?_)
    obtain ⟨σ4, H4, I4, q4⟩ := h6
    refine wpAny_passesOwn hp (thn (hb.run _ s4 σ4 H4 _ I4 q4) fun f s5 h7 => ?_)
    have next : ∀ {σ6 : St} {H6 : Hp}, Inv X (pins ++ pinsAt fp s3.heap) σ6 H6 s5 → N σ6 H6 → ∃ m, m < n ∧ ∃ i σ1 H1, (Inv X pins σ1 H1 s5 ∧ tn i s5.heap) ∧ (∀ b ∈ fp, H1 b = none) ∧ W i m σ1 H1 := fun {σ6 H6} I6 n6 => by
      have pin6 : ∀ {b : Addr} {o : Obj}, b ∈ fp → s3.heap.get? b = some o → s5.heap.get? b = some o ∧ H6 b = none := fun {b o} hb e =>
        have z := I6.pin (b, o) (List.mem_append_right _ (List.mem_append_right _ (mem_pinsAt hb e)))
        ⟨z.1, z.2.1⟩
      obtain ⟨m, hm, w6⟩ := hN σ6 H6 n6
      exact ⟨m, hm, i + 1, σ6, H6, ⟨I6.unpinned, T.keep _ _ _ t3 fun b hb o e => (pin6 hb e).1⟩, fun b hb => by
        obtain ⟨o, e, _⟩ := T.obj _ _ t3 b hb
        exact (pin6 hb e).2, w6⟩
    cases f with
    | next => obtain ⟨σ6, H6, I6, n6⟩ := h7; exact next I6 n6
    | cont => obtain ⟨σ6, H6, I6, n6⟩ := h7; exact next I6 n6
    | brk => obtain ⟨σ6, H6, I6, q6⟩ := h7; exact ⟨σ6, H6, I6.unpinned, q6⟩
    | ret v => obtain ⟨y, σ6, H6, I6, r6, q6⟩ := h7; exact ⟨y, σ6, H6, I6.unpinned, r6, q6⟩
theorem psc_for {tg iter : Expr} {body : List Stmt} {wi : TI} {g : TG} {tb : TS} {pos : Pos} (hp : PassesOwn (model X.prog X.w) X.A X.env X.xe) (hc : X.calm = true) (hi : PIc X c tg iter wi) (hg : PG X tg g) (hb : PSs X body tb) (hs : ∀ x, foldedSetIterable iter X.env x = pure x) :
    PSc X c (.For tg iter body [] pos) (tFor wi g tb) := fun pins s σ H D I h => by
  rw [exec_For]
  refine _root_.PySem.wpAt_bind (_root_.PySem.wpAt_of_wpAny (wpAny_standAt ?_))
  refine _root_.PySem.wpAt_bind (_root_.PySem.wpAt_mono (hi pins s σ H _ I h) (fun v s1 hv => ?_) fun _ _ x => x)
  refine _root_.PySem.wpAt_of_wpAny (wpAny_bind (wpAny_of_eq (hs v) (wpAny_bind (wpAny_standAt (wpAny_bind (wpAny_holding (thn hv fun itv s2 h2 => ?_)))))))
  exact wpAny_runOwn (for_run hp hc hg hb h2)
end
structure SupF (K : PySem.W.Frag) (P : Program) (mg : Str → Option Value) (f cda cc : Addr) (fd : FuncData) (slf c m : Str) (f2 : Addr) : Prop where
  fn : ∃ oc od osl, K.lookup f = some ⟨oc, od, .func fd, osl⟩
  ar : ∃ ar, (fd.params.posonlyargs ++ fd.params.args).head? = some ar ∧ ar.arg = slf
  code : ∃ ccl cdd vs ccs file tf, K.lookup cda = some ⟨ccl, cdd, .fields vs, ccs⟩ ∧ vs[2]? = some (.str file tf) ∧ ((P.main.file : Str) == file) = true
  cell : ∃ cl cld csl, K.lookup cc = some ⟨cl, cld, .cell (some (.ref (He.ga K c))), csl⟩
  cls : ∃ cd, PySem.W.clsIn K (He.ga K c) = some cd
  own : PySem.W.mroIn K (He.ga K c) (.ref (He.ga K c)) = some true
  noS : mg "super" = none
  stat : PySem.W.nsIn K cStatics "thirdparty.any" = some none
  sup : PySem.W.ks_superIn K (He.ga K c) (He.ga K c) m = some (some (.ref f2))
  fnT : PySem.W.typeIn K (.ref f2) = some (.type "function")
  fi : PySem.W.fnIn K f2 = true
  top : (P.main.scope.names.lookup ("super" : Str)).isSome = false
def tSup (K : PySem.W.Frag) (c : Str) (n : Nat) (mf : List Slot → Option CO) (E : St → XK) (t : TA) : TE := fun σ H Q => ∃ a dx fs, σ[0]? = some (some (.ref a)) ∧ H a = some (.ins (He.ga K c) dx fs) ∧ t σ H fun vs H2 => spM K n mf (.ref a :: vs) H2 Q (E σ)
section
variable {X : Cx} {W : WX} {f cda cc f2 : Addr} {fd : FuncData} {slf c m : Str} {n k : Nat} {mf : List Slot → Option CO} {t : TA} {e : Expr} {es : List Expr} {body : List Stmt} {pos apos p0 p1 : Pos} {pl : Sem Bool}
theorem pec_sup (S : SupF X.K X.prog X.mg f cda cc fd slf c m f2) (F : FnR X.prog X.w X.K X.mg X.base (L2.CX X.prog X.w) k f2 (spM X.K n mf)) (hr : Room k X.A) (tk : Takes X W) (ha : PA X (e :: es) t)
    (hN : X.N[0]? = some slf) (hself : X.env.scope.names.lookup slf = some .local) (hks : X.env.kindOf "super" = some .globalImplicit) (hkc : X.env.kindOf "__class__" = some .free) (hcl : X.env.cells.lookup ("__class__" : Str) = some cc)
    (hfu : X.env.func = some f) (hco : X.env.code = .ref cda) (hm : (m == ("__class__" : Str)) = false)
    (hst : starEach (e :: es) X.env = (false, eval e X.env) :: starEach es X.env) (hpl : (backTo pos (starEach es X.env)).any (·.1) = false)
    (he : eval (.Call (.Attribute (.Call (.Name "super" p0) [] [] p1) m apos) (e :: es) [] pos) X.env = (do
      let ov ← attributeBase (.Call (.Name "super" p0) [] [] p1) m X.env (eval (.Call (.Name "super" p0) [] [] p1) X.env)
      standAt apos.atName
      let (f, first) ← holding [ov] (getMethod ov m pl)
      callWith pos f first (backTo pos (starEach (e :: es) X.env)) [])) :
    PEc X (.func body X.env) (.Call (.Attribute (.Call (.Name "super" p0) [] [] p1) m apos) (e :: es) [] pos) (tSup X.K c n mf (WE W) t) := fun pins s σ H Q I h => by
  obtain ⟨a, dx, fs, hσ, hH, h⟩ := h
  obtain ⟨oc, od, osl, hf⟩ := S.fn
  obtain ⟨ar, har, harg⟩ := S.ar
  obtain ⟨ccl, cdd, vs, ccs, file, tf, hcode, hvs, hfile⟩ := S.code
  obtain ⟨cl, cld, csl, hcell⟩ := S.cell
  obtain ⟨cd, hcd⟩ := S.cls
  have KX := I.kIn
  obtain ⟨mA, O, _, _, _, _⟩ := ins_get I.hok hH
  obtain ⟨od2, J, _⟩ := O.look
  obtain ⟨oD, hD1, hD2⟩ : ∃ oD, s.heap.get? (He.ga X.K c) = some oD ∧ oD.data = .cls cd := by
    unfold PySem.W.clsIn at hcd
    split at hcd
    · rename_i c d cd' sl ho
      cases hcd
      exact ⟨_, KX _ _ ho, rfl⟩
    · cases hcd
  refine ks_wpAt_MethodCall (pl := pl) ?_ he
  refine ks_wpAt_super_base hks hkc hm hfu (KX _ _ hf) rfl har hco (KX _ _ hcode) rfl hvs hfile S.top ?_
  have hglob : wpAny (model X.prog X.w) X.A (loadGlobal X.env "super") (fun g s₁ => g = .type "super" ∧ s₁ = s) X.xe s := by
    obtain ⟨mb, h1, h2⟩ := I.mod.blt
    exact PySem.Calls.loadGlobal_builtin (by rw [I.ok.glob]; exact I.mod.glob.keeps I.bk) S.noS (by rw [I.ok.blt]; exact h1.keeps I.bk) ((h2 "super" (by decide)).trans (by decide +kernel)) ⟨rfl, rfl⟩
  refine PySem.W.ks_loadName_global I.ok.kind hks (thn hglob fun g s1 ⟨eg, es1⟩ => ⟨eg, ?_⟩)
  subst es1
  refine wpAny_loadName_free I.ok.kind hkc hcl ⟨_, KX _ _ hcell, rfl⟩ ?_
  obtain ⟨mL, hn, hl⟩ := id I.loc
  obtain ⟨u, ru, lk⟩ := hl 0 slf (.ref a) hN hσ (.inl hself)
  obtain rfl : u = Value.ref a := ru
  have hml : mL slf = some (.ref a) := by
    rcases lk with ⟨_, z⟩ | ⟨z, _⟩
    · exact z
    · have z1 : X.env.scope.names.lookup slf = some .cell ∨ X.env.scope.names.lookup slf = some .free := z
      rw [hself] at z1
      rcases z1 with z1 | z1 <;> cases z1
  rw [harg]
  refine wpAny_loadName_local I.ok.kind hself hn hml ?_
  refine ks_wpAny_isType_cls hD1 hD2 ⟨rfl, ?_⟩
  refine ks_wpAny_call_super hD1 hD2 J.at_ J.cls (fun c e => ?_) (PySem.W.looks_mroIn KX S.own) (fun h' e1 k1 => ?_)
  · have := J.no
    unfold PySem.W.notCls at this
    rw [e] at this
    exact Bool.noConfusion this
  have I1 : Inv X ((s1.heap.objs.size, PySem.W.ks_superObj (He.ga X.K c) a (He.ga X.K c)) :: pins) σ H { s1 with heap := h' } := ClX.pin_new (t' := s1.toks) I k1 (Nat.le_refl _) e1 (fun v z => nomatch z)
  obtain ⟨of, hof, hofc⟩ : ∃ of, h'.get? f2 = some of ∧ of.cls = .type "function" := by
    have ht' : (X.K.lookup f2).map (·.cls) = some (.type "function") := S.fnT
    cases z : X.K.lookup f2 with
    | none => rw [z] at ht'; cases ht'
    | some of => rw [z] at ht'; exact ⟨of, I1.kIn _ _ z, Option.some.inj ht'⟩
  have hsup := S.sup
  unfold PySem.W.ks_superIn at hsup
  rw [hcd] at hsup
  obtain ⟨hh, g, d, tk0, os⟩ := s1
  refine ks_wpAny_getMethod_super e1 (PySem.W.looks_opaque I1.kIn S.stat) (l₀ := cd.mro) ?_ rfl I1.kIn hsup hof hofc (PySem.W.ks_ne KX J hcd) hm ?_
  · exact fun A Q E s k q => wpAny_bind ((PySem.W.looks_clsIn I1.kIn hcd) A _ E s k (wpAny_pure q))
  have I2 := ClX.met_new (g := f2) (C := a) I1
  refine ClX.callwith_cm I2 (ClX.base_none I1 (Nat.le_refl _)) S.fi (thn (ha.run pos _ _ σ H _ I2 h) fun us s3 ⟨vs, H2, I3, rv, q2⟩ => ⟨⟨ClX.pin_at I3, I3.kIn⟩, ?_⟩) hst hpl
  exact thn (run_cmS F hr tk I3 rv q2) fun _ _ y => ClX.unpinE y
end
structure FunS (K : PySem.W.Frag) (x qual : Str) (st : Stmt) (f cc cda : Addr) (fd : FuncData) : Prop where
  ex : ∃ (oc : Value) (od : Option Addr) (kV doc pm : Value) (an : Option Addr) (ct : Value) (osl : Array (Option Value)),
    fd = PySem.W.fnX x qual (defArgs st) (defBody st) (defScope st) [("__class__", cc)] .none kV doc pm an (.ref cda) ct ∧ K.lookup f = some ⟨oc, od, .func fd, osl⟩ ∧ PySem.W.codeIn K (.ref cda) qual = true
  cell : ∃ cl cld csl v, K.lookup cc = some ⟨cl, cld, .cell v, csl⟩
abbrev nfS (x qual : Str) (st : Stmt) (cc cda : Addr) : NdefX.NF := ⟨x, qual, defArgs st, defBody st, defScope st, [("__class__", cc)], cda⟩
section
variable {P : Program} {w : World} {K : PySem.W.Frag} {mg : Str → Option Value} {base : Heap}
theorem fn_supO {x qual : Str} {st : Stmt} {f cc cda : Addr} {fd : FuncData} {N ps : List Str} {k n : Nat} (Fn : FunS K x qual st f cc cda fd) (S : NdefX.NScope N ps ["__class__"] (defScope st)) (b : MS K) (hn : ps.length = n)
    (d : ∀ (A : Around) (outer : List PySem.Env) (s : Shared) (H : Hp) (E : XK), Room k (A.deeper (NdefX.envF (nfS x qual st cc cda) f s.heap.objs.size)) →
      PSsc (NdefX.ncx (L2.CX P w) P w K mg base N (nfS x qual st cc cda) f A outer s H E) (.func (defBody st) (NdefX.envF (nfS x qual st cc cda) f s.heap.objs.size)) (defBody st) (b.t fun cls d _ H => E cls d H)) :
    FnOk P w K mg base (L2.CX P w) (k + 1) f fd ps (spM K n (mfOf N.length b.m)) := by
  refine ⟨fun vs H Q E h => by rw [hn]; exact spM_len vs H Q E h, fun A outer s H args us vs Q E hr e0 hbd r h => ?_⟩
  obtain ⟨oc, od, kV, doc, pm, an, ct, osl, rfl, lk, hcd⟩ := Fn.ex
  obtain ⟨cl, cld, csl, v, hcell⟩ := Fn.cell
  have KX : K.In s.heap := e0.mod.kin.keeps fun b o e => (e0.bs b o e).1
  have lim : s.heap.NoLimit := e0.mod.nolimit.keeps fun b o e => (e0.bs b o e).1
  have hlv : vs.length = ps.length := by rw [hn]; exact spM_len vs H Q E h
  have hlu : us.length = ps.length := by rw [← r.length]; exact hlv
  have hN : ps.length + 1 ≤ N.length := by
    have q := congrArg List.length S.pre
    rw [List.length_take, List.length_append] at q
    simp only [List.length_cons, List.length_nil] at q
    omega
  have C : NdefX.CellsAt [("__class__", cc)] ["__class__"] [none] s.heap H := by
    have hone : ∀ y c, List.lookup y [(("__class__" : Str), cc)] = some c → y = "__class__" ∧ c = cc := fun y c e => by
      rw [List.lookup_cons] at e
      cases z : y == ("__class__" : Str) with
      | true => rw [z] at e; cases e; exact ⟨beq_iff_eq.mp z, rfl⟩
      | false => rw [z] at e; cases e
    refine ⟨rfl, fun y c e => ?_, fun a b c e1 e2 => by rw [(hone a c e1).1, (hone b c e2).1], fun i y e => ?_⟩
    · rw [(hone y c e).2]
      have kk := e0.mod.kin _ _ hcell
      exact ⟨(e0.bs _ _ kk).2, v, _, KX _ _ hcell, rfl⟩
    · cases i with
      | zero =>
        cases e
        exact ⟨cc, by rw [List.lookup_cons]; simp, fun v z => by simp at z⟩
      | succ i => simp at e
  obtain ⟨B, as, o, x1, e1, a1, n1, m1, f1⟩ := h
  have hst : NdefX.startF N vs [none] = L2.start N vs := by
    unfold NdefX.startF L2.start
    congr 1
    have e : N.length - vs.length = (N.length - vs.length - 1) + 1 := by omega
    rw [e, List.replicate_succ]
    simp
  refine ks_codeAny_call_defAt (fd := PySem.W.fnX x qual (defArgs st) (defBody st) (defScope st) [("__class__", cc)] .none kV doc pm an (.ref cda) ct) (body := defBody st) (binds := ps.zip us) hr.depth (KX _ _ lk) rfl lim
    (PySem.W.codeRec_of KX hcd) rfl hbd S.nocell (fun ⟨y, u⟩ hy => S.par y (List.of_mem_zip hy).1) (fun h₁ hns kp => ?_) S.co S.gen S.kind
  have I : Inv (NdefX.ncx (L2.CX P w) P w K mg base N (nfS x qual st cc cda) f A outer s H E) [] (NdefX.startF N vs [none]) H { s with heap := h₁, toks := s.toks + (ps.zip us).length } := NdefX.inv_startN S hr.hd e0 hlv r C hns kp
  have hq := body_fin (K := K) (n := n) (N := N) (b := b) (Q := Q) (E := E) x1 (by omega) a1 n1 m1 f1
  rw [← hst] at hq
  refine _root_.PySem.wpAt_mono (d A outer s H E (hr.deeper _) [] _ (NdefX.startF N vs [none]) H { nx := fun _ H' => Q .non H', rt := Q } I hq) (fun fl s' hs => ?_) fun e s' hs => hs
  have fin : ∀ {σ' : L2.St} {H' : Hp} {v : V} {u : Value}, Inv (NdefX.ncx (L2.CX P w) P w K mg base N (nfS x qual st cc cda) f A outer s H E) [] σ' H' s' → RelV v u → Q v H' → CE outer P w H s Q u s' :=
    fun {σ' H' v u} J rv q => ⟨v, H', J.os, J.bare, J.base, J.hok, rv, q⟩
  cases fl with
  | ret u =>
    obtain ⟨v, σ', H', J, rv, q⟩ := hs
    exact fin J rv q
  | next =>
    obtain ⟨σ', H', J, q⟩ := hs
    exact fin (v := V.non) (u := Value.none) J rfl q
  | brk =>
    obtain ⟨_, _, _, q⟩ := hs
    exact False.elim q
  | cont =>
    obtain ⟨_, _, _, q⟩ := hs
    exact False.elim q
theorem fn_sup {x qual : Str} {st : Stmt} {f cc cda : Addr} {fd : FuncData} {N ps : List Str} {k n : Nat} (Fn : FunS K x qual st f cc cda fd) (S : NdefX.NScope N ps ["__class__"] (defScope st)) (b : MS K) (hn : ps.length = n)
    (hb : ∀ (kV doc pm : Value) (an : Option Addr) (ct : Value) (us : List Value), us.length = ps.length → bindArgs (PySem.W.fnX x qual (defArgs st) (defBody st) (defScope st) [("__class__", cc)] .none kV doc pm an (.ref cda) ct) ⟨us, []⟩ = pure (ps.zip us))
    (d : ∀ (A : Around) (outer : List PySem.Env) (s : Shared) (H : Hp) (E : XK), Room k (A.deeper (NdefX.envF (nfS x qual st cc cda) f s.heap.objs.size)) →
      PSsc (NdefX.ncx (L2.CX P w) P w K mg base N (nfS x qual st cc cda) f A outer s H E) (.func (defBody st) (NdefX.envF (nfS x qual st cc cda) f s.heap.objs.size)) (defBody st) (b.t fun cls d _ H => E cls d H)) :
    FnR P w K mg base (L2.CX P w) (k + 1) f (spM K n (mfOf N.length b.m)) := by
  have F := fn_supO Fn S b hn d
  obtain ⟨oc, od, kV, doc, pm, an, ct, osl, rfl, lk, hcd⟩ := Fn.ex
  intro A outer s H us vs Q E hr e0 r h
  exact F.run A outer s H ⟨us, []⟩ us vs Q E hr e0 (.of_eq (hb kV doc pm an ct us (by rw [← r.length]; exact F.len _ _ _ _ h))) r h
end
section
variable {K : PySem.W.Frag}
def mSup (c : Str) (n : Nat) (mf : List Slot → Option CO) (b : MC K) (hk : b.k = true := by exact id rfl) : ME K where
  t := fun W => tSup K c n mf (WE W) (b.t W)
  m := fun ρ => match ρ[(0 : Nat)]? with
    | some (.val (.ins c' fs)) => if c' = c then (b.m ρ).bind fun o => match o with
        | .ok is ρ2 => if is.length + 1 = n then callM mf (some (.ok (.inl (.ins c fs) :: is) ρ2)) else none
        | .ex e ρ2 => some (.ex e ρ2)
      else none
    | _ => none
  p := false
  k := true
  ok := fun F W ρ σ B H Q out e R f => by
    split at e
    · rename_i c' fs hs
      split at e
      · rename_i hc
        subst hc
        obtain ⟨v, hv, a, dx, ws, rfl, hb, hf⟩ := R.sl 0 _ hs
        have hσ : σ[0]? = some (some (.ref a)) := by
          rw [List.getD_eq_getElem?_getD] at hv
          cases z : σ[0]? with
          | none => rw [z] at hv; cases hv
          | some y => rw [z] at hv; exact congrArg some hv
        refine ⟨a, dx, ws, hσ, R.ex _ _ hb, ?_⟩
        obtain ⟨o, e2, e⟩ := Option.bind_eq_some_iff.mp e
        cases o with
        | ex x ρ2 => cases e; exact b.ok F W ρ σ B H _ _ e2 R fun cls d B2 H2 x2 R2 xr => f cls d B2 H2 x2 R2 xr
        | ok is ρ2 =>
          refine b.ok F W ρ σ B H _ _ e2 R fun vs B2 H2 x2 p2 R2 r2 => ?_
          rw [hk, if_pos rfl] at r2
          dsimp only at e
          split at e
          · rename_i hn
            exact call_fin (H := H) (ρ := ρ) (is := .inl (.ins c' fs) :: is) x2 R2 ⟨_, vs, rfl, ⟨a, dx, ws, rfl, x2 _ _ hb, RepF.mono x2 _ _ hf⟩, r2⟩ hn e f
          · cases e
      · cases e
    · cases e
end
end Sg
set_option Elab.async false
set_option linter.all false
set_option maxRecDepth 100000
set_option maxHeartbeats 4000000
namespace Sg
open PySem L2
section
variable {X : Cx} {W : WX} {c : Code} {st : Stmt} {sts : List Stmt} {S S' : MS X.K} {A : ME X.K} {e iter tg : Expr} {G : MG X.K} {x : Str} {p2 pos : Pos}
theorem uof (h : PS X st (S.t W)) : PSc X c st (S.t W) := psc_of h
theorem urest (h : PSs X sts (S.t W)) : PSsc X c sts (S.t W) := pssc_of h
theorem ucons (h1 : PSc X c st (S.t W)) (h2 : PSsc X c sts (S'.t W)) : PSsc X c (st :: sts) ((msSeq S S').t W) := show PSsc X c (st :: sts) (tSeq (S.t W) (S'.t W)) from pssc_cons h1 h2
theorem uset {i : Nat} {h} (hN : X.N.Nodup) (he : PEc X c e (A.t W)) (hi : X.N[i]? = some x := by rfl) (hx : Loc X.env.scope x := by first | exact Or.inl rfl | exact Or.inr rfl) (hs : swapsWith e (some (.Name x p2)) pos.line X.env = pure false := by rfl)
    (hf : X.fn x = true ∨ X.env.scope.names.lookup x = some .local := by first | exact .inr rfl | exact .inl rfl) : PSc X c (.Assign [.Name x p2] e pos) ((msAsg A (mgName i) h).t W) := psc_set hN he hi hx hs hf
theorem urev {k : Nat} {h} {p1 p3 : Pos} (he : PEc X c e (A.t W)) : PEc X c (.Subscript e (.Slice none none (some (.UnaryOp .USub (.Constant (.int 1) k p1) p2)) p3) pos) ((mFr (mRev A h)).t W) := pec_rev he
theorem ufor {body : List Stmt} {kl : List Nat} {h} (hp : PassesOwn (model X.prog X.w) X.A X.env X.xe) (hi : PEc X c iter (A.t W)) (hg : PG X tg G.t) (hb : PSs X body (S.t W)) (hc : X.calm = true := by rfl) (hs : ∀ x, foldedSetIterable iter X.env x = pure x := by intro _; rfl) :
    PSc X c (.For tg iter body [] pos) ((msFor (miList A h) G S kl).t W) := psc_for hp hc (pic_list hi) hg hb hs
theorem usup {f cda cc f2 : Addr} {fd : FuncData} {slf cl m : Str} {n k : Nat} {mf : List Slot → Option CO} {L : MC X.K} {h} {a0 : Expr} {es : List Expr} {body : List Stmt} {apos p0 p1 : Pos} {pl : Sem Bool} (s : SupF X.K X.prog X.mg f cda cc fd slf cl m f2)
    (F : FnR X.prog X.w X.K X.mg X.base (L2.CX X.prog X.w) k f2 (spM X.K n mf)) (hr : Room k X.A) (tk : Takes X W) (ha : PA X (a0 :: es) (L.t W))
    (hN : X.N[0]? = some slf := by rfl) (hself : X.env.scope.names.lookup slf = some .local := by rfl) (hks : X.env.kindOf "super" = some .globalImplicit := by rfl) (hkc : X.env.kindOf "__class__" = some .free := by rfl) (hcl : X.env.cells.lookup ("__class__" : Str) = some cc := by rfl)
    (hfu : X.env.func = some f := by rfl) (hco : X.env.code = .ref cda := by rfl) (hm : (m == ("__class__" : Str)) = false := by decide)
    (hst : starEach (a0 :: es) X.env = (false, eval a0 X.env) :: starEach es X.env := by rfl) (hpl : (backTo pos (starEach es X.env)).any (·.1) = false := by rfl)
    (he : eval (.Call (.Attribute (.Call (.Name "super" p0) [] [] p1) m apos) (a0 :: es) [] pos) X.env = (do
      let ov ← attributeBase (.Call (.Name "super" p0) [] [] p1) m X.env (eval (.Call (.Name "super" p0) [] [] p1) X.env)
      standAt apos.atName
      let (f, first) ← holding [ov] (getMethod ov m pl)
      callWith pos f first (backTo pos (starEach (a0 :: es) X.env)) []) := by rfl) :
    PEc X (.func body X.env) (.Call (.Attribute (.Call (.Name "super" p0) [] [] p1) m apos) (a0 :: es) [] pos) ((mSup cl n mf L h).t W) := pec_sup s F hr tk ha hN hself hks hkc hcl hfu hco hm hst hpl he
end
theorem tkNo {X : Cx} : Takes X WNo := fun _ _ ⟨_, _, _, _, _, _, _, _, _, _, _, _, _, _, _, _, w⟩ => False.elim w
section
variable {P : Program} {w : World} {K : PySem.W.Frag} {mg : Str → Option Value} {base : Heap} {k j n : Nat} {c m : Str} {mf : List Slot → Option CO} {tab : MTab} {CX : CXT}
theorem CalM.mono (h : CalM P w K mg base CX j c m n mf) (l : j ≤ k) : CalM P w K mg base CX k c m n mf := by
  obtain ⟨a, f, b, d⟩ := h
  exact ⟨a, f, b, d.mono l⟩
theorem calT_nil : CalT P w K mg base k m n [] := fun c mf h => by cases h
theorem calT_cons (h1 : CalM P w K mg base (L2.CX P w) k c m n mf) (h2 : CalT P w K mg base k m n tab) : CalT P w K mg base k m n ((c, mf) :: tab) := fun c' mf' h => by
  rw [List.lookup_cons] at h
  cases z : c' == c with
  | true => rw [z] at h; cases h; rw [beq_iff_eq.mp z]; exact h1
  | false => rw [z] at h; exact h2 c' mf' h
theorem xt_nil {c : Str} : ∀ cx b, List.lookup cx ([] : XTab) = some b → PySem.W.exmOne K (.ref (He.ga K cx)) (.ref (He.ga K c)) = some b := fun cx b h => by cases h
theorem xt_cons {c d : Str} {b0 : Bool} {tab : XTab} (h1 : PySem.W.exmOne K (.ref (He.ga K d)) (.ref (He.ga K c)) = some b0) (h2 : ∀ cx b, tab.lookup cx = some b → PySem.W.exmOne K (.ref (He.ga K cx)) (.ref (He.ga K c)) = some b) :
    ∀ cx b, List.lookup cx ((d, b0) :: tab) = some b → PySem.W.exmOne K (.ref (He.ga K cx)) (.ref (He.ga K c)) = some b := fun cx b h => by
  rw [List.lookup_cons] at h
  cases z : cx == d with
  | true => rw [z] at h; cases h; rw [beq_iff_eq.mp z]; exact h1
  | false => rw [z] at h; exact h2 cx b h
end
open He (ga ma ba eqO eqO_ok)
inductive Pl where
  | g (x : Str)
  | m (c x : Str)
  | k (c x : Str)
  | p (c x : Str)
def pmg (K : PySem.W.Frag) (p : Addr) : Addr := match PySem.W.recIn K p "property" with
  | some (.ref g :: _) => g
  | _ => 0
def cmg (K : PySem.W.Frag) (p : Addr) : Addr := match PySem.W.recIn K p "classmethod" with
  | some (.ref g :: _) => g
  | _ => 0
def Pl.ad (K : PySem.W.Frag) : Pl → Addr
  | .g x => ga K x
  | .m c x => ma K (ga K c) x
  | .k c x => cmg K (ma K (ga K c) x)
  | .p c x => pmg K (ma K (ga K c) x)
abbrev FnY : Type := Option (Str × Str × Arguments × FuncBody × Scope × Addr × List Str × Value × Addr)
def fnY (K : PySem.W.Frag) (p : Pl) : FnY := match K.lookup (p.ad K) with
  | some ⟨_, _, .func fd, _⟩ => some (fd.name, fd.qualname, fd.params, fd.body, fd.scope, fd.globals, fd.closure.map (·.1), fd.defaults, fd.builtins)
  | _ => none
structure DefY where
  at_ : Pl
  name : Str
  qual : Str
  st : Stmt
  cl : List Str
def DefY.val (d : DefY) : FnY := some (d.name, d.qual, defArgs d.st, .stmts (defBody d.st), defScope d.st, mainGlobals, d.cl, .none, builtinsNs)
def DefY.ok (K : PySem.W.Frag) (d : DefY) : Bool := PySem.W.keepIn K (.ref (d.at_.ad K)) && (match K.lookup (d.at_.ad K) with
  | some ⟨_, _, .func fd, _⟩ => PySem.W.codeIn K fd.code d.qual
  | _ => false)
theorem fun_of {K : PySem.W.Frag} {d : DefY} (e : fnY K d.at_ = d.val) (c : d.ok K = true) (hcl : d.cl = []) : ∃ fd, Fun K d.name d.qual d.st (d.at_.ad K) fd := by
  obtain ⟨kp, c2⟩ := ba c
  unfold fnY at e
  cases q : K.lookup (d.at_.ad K) with
  | none => rw [q] at c2; cases c2
  | some o =>
    obtain ⟨oc, od, dt, osl⟩ := o
    rw [q] at c2 e
    cases dt with
    | func fd =>
      obtain ⟨n1, n2, n3, n4, n5, n6, n7, n8, n9, n10, n11, n12, n13, n14, n15⟩ := fd
      have e2 : (some (n1, n2, n3, n4, n5, n6, n7.map (·.1), n8, n15) : FnY) = some (d.name, d.qual, defArgs d.st, .stmts (defBody d.st), defScope d.st, mainGlobals, d.cl, .none, builtinsNs) := e
      simp only [Option.some.injEq, Prod.mk.injEq] at e2
      obtain ⟨h1, h2, h3, h4, h5, h6, h7, h8, h9⟩ := e2
      rw [hcl] at h7
      have h7' : n7 = [] := List.map_eq_nil_iff.mp h7
      subst h1 h2 h3 h4 h5 h6 h7' h8 h9
      exact ⟨_, ⟨oc, od, n9, n10, n11, n12, n13, n14, osl, rfl, q, c2⟩, kp⟩
    | _ => cases c2
def ccOf (K : PySem.W.Frag) (f : Addr) : Addr := match K.lookup f with
  | some ⟨_, _, .func fd, _⟩ => (match fd.closure with
    | [(_, c)] => c
    | _ => 0)
  | _ => 0
def cdOf (K : PySem.W.Frag) (f : Addr) : Addr := match K.lookup f with
  | some ⟨_, _, .func fd, _⟩ => (match fd.code with
    | .ref c => c
    | _ => 0)
  | _ => 0
def cellB (K : PySem.W.Frag) (a : Addr) (v : Addr) : Bool := match K.lookup a with
  | some ⟨_, _, .cell (some (.ref b)), _⟩ => decide (b = v)
  | _ => false
theorem cellB_ok {K : PySem.W.Frag} {a v : Addr} (h : cellB K a v = true) : ∃ cl cld csl, K.lookup a = some ⟨cl, cld, .cell (some (.ref v)), csl⟩ := by
  unfold cellB at h
  split at h
  · rename_i cl cld b csl e
    rw [of_decide_eq_true h] at e
    exact ⟨_, _, _, e⟩
  · cases h
theorem funS_of {K : PySem.W.Frag} {d : DefY} {v : Addr} (e : fnY K d.at_ = d.val) (c : d.ok K = true) (hcl : d.cl = (["__class__"] : List Str)) (hc : cellB K (ccOf K (d.at_.ad K)) v = true) :
    ∃ fd, FunS K d.name d.qual d.st (d.at_.ad K) (ccOf K (d.at_.ad K)) (cdOf K (d.at_.ad K)) fd := by
  obtain ⟨kp, c2⟩ := ba c
  obtain ⟨cl, cld, csl, hcell⟩ := cellB_ok hc
  unfold fnY at e
  cases q : K.lookup (d.at_.ad K) with
  | none => rw [q] at c2; cases c2
  | some o =>
    obtain ⟨oc, od, dt, osl⟩ := o
    rw [q] at c2 e
    cases dt with
    | func fd =>
      obtain ⟨n1, n2, n3, n4, n5, n6, n7, n8, n9, n10, n11, n12, n13, n14, n15⟩ := fd
      have e2 : (some (n1, n2, n3, n4, n5, n6, n7.map (·.1), n8, n15) : FnY) = some (d.name, d.qual, defArgs d.st, .stmts (defBody d.st), defScope d.st, mainGlobals, d.cl, .none, builtinsNs) := e
      simp only [Option.some.injEq, Prod.mk.injEq] at e2
      obtain ⟨h1, h2, h3, h4, h5, h6, h7, h8, h9⟩ := e2
      rw [hcl] at h7
      match n7, h7 with
      | [(z, cc)], h7 =>
        simp only [List.map_cons, List.map_nil, List.cons.injEq, and_true] at h7
        subst h1 h2 h3 h4 h5 h6 h7 h8 h9
        have ec : ccOf K (d.at_.ad K) = cc := by unfold ccOf; rw [q]
        have c3 : PySem.W.codeIn K n13 d.qual = true := c2
        cases n13 with
        | ref cda =>
          have ed : cdOf K (d.at_.ad K) = cda := by unfold cdOf; rw [q]
          rw [ec] at hcell
          rw [ec, ed]
          exact ⟨_, ⟨oc, od, n9, n10, n11, n12, n14, osl, rfl, q, c3⟩, ⟨cl, cld, csl, _, hcell⟩⟩
        | _ => cases c3
    | _ => cases c2
def fileB (K : PySem.W.Frag) (a : Addr) (file : Str) : Bool := match K.lookup a with
  | some ⟨_, _, .fields vs, _⟩ => (match (vs[(2 : Nat)]? : Option Value) with
    | some (.str g _) => file == g
    | _ => false)
  | _ => false
def supB (K : PySem.W.Frag) (file : Str) (f : Addr) (c m b : Str) : Bool := fileB K (cdOf K f) file && (cellB K (ccOf K f) (ga K c) && (PySem.W.isClsIn K (ga K c) && (decide (PySem.W.mroIn K (ga K c) (.ref (ga K c)) = some true) &&
  (eqO (PySem.W.nsIn K cStatics "thirdparty.any") (some none) && (eqO (PySem.W.ks_superIn K (ga K c) (ga K c) m) (some (some (.ref (ma K (ga K b) m)))) && (decide (PySem.W.typeIn K (.ref (ma K (ga K b) m)) = some (.type "function")) && PySem.W.fnIn K (ma K (ga K b) m)))))))
theorem supF_of {K : PySem.W.Frag} {P : Program} {mg : Str → Option Value} {x qual slf c m b : Str} {st : Stmt} {f : Addr} {fd : FuncData} (F : FunS K x qual st f (ccOf K f) (cdOf K f) fd) (h : supB K P.main.file f c m b = true)
    (har : ∃ ar, ((defArgs st).posonlyargs ++ (defArgs st).args).head? = some ar ∧ ar.arg = slf) (noS : mg "super" = none) (top : (P.main.scope.names.lookup ("super" : Str)).isSome = false) :
    SupF K P mg f (cdOf K f) (ccOf K f) fd slf c m (ma K (ga K b) m) := by
  obtain ⟨h1, h⟩ := ba h
  obtain ⟨h2, h⟩ := ba h
  obtain ⟨h3, h⟩ := ba h
  obtain ⟨h4, h⟩ := ba h
  obtain ⟨h5, h⟩ := ba h
  obtain ⟨h6, h⟩ := ba h
  obtain ⟨h7, h8⟩ := ba h
  obtain ⟨oc, od, kV, doc, pm, an, ct, osl, rfl, lk, hcd⟩ := F.ex
  refine ⟨⟨oc, od, osl, lk⟩, har, ?_, cellB_ok h2, Option.isSome_iff_exists.mp h3, of_decide_eq_true h4, noS, eqO_ok h5, eqO_ok h6, of_decide_eq_true h7, h8, top⟩
  unfold fileB at h1
  split at h1
  · rename_i ccl cdd vs ccs e
    split at h1
    · rename_i g tf e2
      exact ⟨ccl, cdd, vs, ccs, g, tf, e, e2, h1⟩
    · cases h1
  · cases h1
def mk0B (K : PySem.W.Frag) (c : Str) : Bool := PySem.W.makesIn K (ga K c) && (eqO (PySem.W.findIn K (.ref (ga K c)) "__init__") (some (some (.builtin "object.__init__"))) && PySem.W.keepIn K (.ref (ga K c)))
theorem mk0_ok {K : PySem.W.Frag} {c : Str} (h : mk0B K c = true) : Mk0 K (ga K c) := by
  obtain ⟨h1, h⟩ := ba h
  obtain ⟨h2, h3⟩ := ba h
  exact ⟨h1, eqO_ok h2, h3⟩
def methB (K : PySem.W.Frag) (c m b : Str) : Bool := eqO (PySem.W.findIn K (.ref (ga K c)) m) (some (some (.ref (ma K (ga K b) m)))) && (PySem.W.isFn K (.ref (ma K (ga K b) m)) && PySem.W.keepIn K (.ref (ma K (ga K b) m)))
theorem methB_ok {K : PySem.W.Frag} {c m b : Str} (h : methB K c m b = true) : Meth K (ga K c) m (ma K (ga K b) m) := by
  obtain ⟨h1, h⟩ := ba h
  obtain ⟨h2, h3⟩ := ba h
  exact ⟨eqO_ok h1, h2, h3⟩
def creadB (K : PySem.W.Frag) (c : Str) : Bool := PySem.W.readsIn K (ga K c) (.type "type") && eqO (PySem.W.specialIn K (.ref (ga K c)) "__getattribute__") (some (some (.builtin "type.__getattribute__")))
theorem cread_ok {K : PySem.W.Frag} {c : Str} (h : creadB K c = true) : ClX.CRead K (ga K c) (.type "type") := by
  obtain ⟨h1, h2⟩ := ba h
  exact ⟨h1, eqO_ok h2⟩
def cmetB (K : PySem.W.Frag) (c m : Str) : Bool := (match PySem.W.findCls K (.ref (ga K c)) (.type "type") m with
    | some (.get (.builtin g) (.ref p) .none (.ref c')) => decide (g = "classmethod.__get__") && (decide (p = ma K (ga K c) m) && decide (c' = ga K c))
    | _ => false) && ((match PySem.W.recIn K (ma K (ga K c) m) "classmethod" with
    | some (.ref _ :: _) => true
    | _ => false) && PySem.W.fnIn K (cmg K (ma K (ga K c) m)))
theorem cmet_ok {K : PySem.W.Frag} {c m : Str} (h : cmetB K c m = true) : ClX.CMet K (ga K c) (.type "type") m (ma K (ga K c) m) (cmg K (ma K (ga K c) m)) := by
  obtain ⟨h1, h⟩ := ba h
  obtain ⟨h2, h3⟩ := ba h
  refine ⟨?_, ?_, h3⟩
  · split at h1
    · rename_i g p c' e
      obtain ⟨e1, h1⟩ := ba h1
      obtain ⟨e2, e3⟩ := ba h1
      rw [of_decide_eq_true e1, of_decide_eq_true e2, of_decide_eq_true e3] at e
      exact e
    · cases h1
  · unfold cmg
    split at h2
    · rename_i g r e
      rw [e]
      exact ⟨r, rfl⟩
    · cases h2
def strsV (xs : List Str) : List V := xs.map V.str
def conB (K : PySem.W.Frag) (c f : Str) (xs : List Str) : Bool := match PySem.W.findCls K (.ref (ga K c)) (.type "type") f with
  | some (.val (.ref p)) => (match K.lookup p with
    | some ⟨.type t, _, .seq its _, _⟩ => decide (t = "tuple") && (decide (its.size ≤ sizeLine) && He.relAll (strsV xs) its.toList)
    | _ => false)
  | _ => false
theorem repL_strs {K : PySem.W.Frag} {B : Hp} : ∀ xs : List Str, RepL K B (xs.map U.str) (strsV xs)
  | [] => rfl
  | x :: xs => ⟨.str x, strsV xs, rfl, rfl, repL_strs xs⟩
theorem con_ok {K : PySem.W.Frag} {c f : Str} {xs : List Str} (r : creadB K c = true) (h : conB K c f xs = true) : ConC K c f (.tup (xs.map U.str)) := by
  unfold conB at h
  split at h
  · rename_i p e
    split at h
    · rename_i t od its n sl e2
      obtain ⟨h1, h⟩ := ba h
      obtain ⟨h2, h3⟩ := ba h
      refine ⟨.type "type", .ref p, .ref p, cread_ok r, ⟨e, rfl⟩, fun B => ⟨p, strsV xs, rfl, .inr ⟨_, its, n, e2, congrArg Value.type (of_decide_eq_true h1), rfl, of_decide_eq_true h2, He.relAll_ok h3⟩, repL_strs xs⟩⟩
    · cases h
  · cases h
theorem xf_ok {K : PySem.W.Frag} {mg : Str → Option Value} {c : Str} (g : mg c = some (.ref (ga K c))) (h : (He.Fa.exc c).ok K = true) : XF K mg c := ⟨g, He.exc_ok h⟩
def exmB (K : PySem.W.Frag) (x y : Str) (b : Bool) : Bool := decide (PySem.W.exmOne K (.ref (ga K x)) (.ref (ga K y)) = some b)
theorem exm_ok {K : PySem.W.Frag} {x y : Str} {b : Bool} (h : exmB K x y b = true) : PySem.W.exmOne K (.ref (ga K x)) (.ref (ga K y)) = some b := of_decide_eq_true h
abbrev FaY : Type := PySem.W.Frag → Bool
abbrev AlY : Type := Bool × List FnY
def obsY (fa : List FaY) (fn : List DefY) (K : PySem.W.Frag) : AlY := ((fa.all fun f => f K) && fn.all fun d => d.ok K, fn.map fun d => fnY K d.at_)
def valY (fn : List DefY) : AlY := (true, fn.map DefY.val)
def SaysY (fa : List FaY) (fn : List DefY) (K : PySem.W.Frag) : Prop := obsY fa fn K = valY fn
def asY (g : Addr → Option Obj) (n : Nat) : List Addr := (He.asD g n ++ [cStatics, sysModules]).eraseDups
def obsYG (n : Nat) (fa : List FaY) (fn : List DefY) (g : Addr → Option Obj) : AlY := obsY fa fn (He.frG g (asY g n))
def hookY (n : Nat) (fa : List FaY) (fn : List DefY) : PySem.W.Hook where
  α := AlY
  obs := fun s => obsYG n fa fn s.heap.get?
  val := fun _ => valY fn
  says := fun _ h => ∃ K : PySem.W.Frag, K.In h ∧ SaysY fa fn K
  of := fun _ _ e => ⟨_, He.frG_in, e⟩
  keeps := fun _ _ _ ⟨K, hK, c⟩ k => ⟨K, PySem.W.Frag.In.keeps hK k, c⟩
theorem obsYG_eq {n : Nat} {fa : List FaY} {fn : List DefY} {g : Addr → Option Obj} {s : Shared} (h : ∀ a, g a = s.heap.get? a) : obsYG n fa fn g = (hookY n fa fn).obs s := by
  have e : g = s.heap.get? := funext h
  rw [e] <;> rfl
section
variable {fa : List FaY} {fn : List DefY} {K : PySem.W.Frag}
theorem SaysY.fact (c : SaysY fa fn K) (i : Nat) {f : FaY} (h : fa[i]? = some f) : f K = true := by
  have c1 := (ba (show ((fa.all fun f => f K) && fn.all fun d => d.ok K) = true from congrArg (fun z : AlY => z.1) c)).1
  exact List.all_eq_true.mp c1 f (List.mem_of_getElem? h)
theorem SaysY.def_ (c : SaysY fa fn K) (i : Nat) {d : DefY} (h : fn[i]? = some d) : fnY K d.at_ = d.val ∧ d.ok K = true := by
  have c2 := (ba (show ((fa.all fun f => f K) && fn.all fun d => d.ok K) = true from congrArg (fun z : AlY => z.1) c)).2
  have e : fn.map (fun d => fnY K d.at_) = fn.map DefY.val := congrArg (fun z : AlY => z.2) c
  have e2 : (fn.map fun d => fnY K d.at_)[i]? = (fn.map DefY.val)[i]? := by rw [e]
  rw [List.getElem?_map, List.getElem?_map, h] at e2
  exact ⟨Option.some.inj e2, List.all_eq_true.mp c2 d (List.mem_of_getElem? h)⟩
end
theorem repL_ints {K : PySem.W.Frag} {B : Hp} : ∀ ns : List Int, RepL K B (ns.map U.int) (ns.map V.int)
  | [] => rfl
  | x :: xs => ⟨.int x, xs.map V.int, rfl, rfl, repL_ints xs⟩
def spL (K : PySem.W.Frag) (mf : List Slot → Option CO) : Sp := fun vs H Q _ => spM K 1 mf vs H Q fun _ _ _ => False
theorem spM_law {K : PySem.W.Frag} {mf : List Slot → Option CO} {ns : List Int} (h : mf [.val (.frl (ns.map U.int))] = some (.val (.bl true) none)) {a : Addr} {H : Hp} (hS : SqL K H a (ns.map V.int)) : spL K mf [.ref a] H (fun v _ => v = .bl true) (fun _ _ _ => False) :=
  ⟨H, [.val (.frl (ns.map U.int))], _, Ex.refl, rfl, ⟨.ref a, [], rfl, ⟨a, _, rfl, hS, repL_ints ns⟩, rfl⟩, Nat.zero_le 1, h, fun v B' H' _ _ r => r⟩
theorem law0 {P : Program} {w : World} {K : PySem.W.Frag} {mg : Str → Option Value} {base : Heap} {k : Nat} {f : Addr} {fd : FuncData} {ps : List Str} {mf : List Slot → Option CO} (F : FnOk P w K mg base (L2.CX P w) k f fd ps (spM K 1 mf)) : FnOk P w K mg base CX0 k f fd ps (spL K mf) :=
  ⟨fun vs H Q E h => F.len vs H Q _ h, fun A outer s H args us vs Q E hr e0 hb r h => codeAny_mono (F.run A outer s H args us vs Q _ hr e0 hb r h) fun r s' hq => by
    cases r with
    | error e =>
      obtain ⟨_, _, _, _, _, _, _, _, _, _, _, _, z⟩ := hq
      exact z.elim
    | ok fl => cases fl <;> exact hq⟩
end Sg
set_option Elab.async false
set_option linter.all false
set_option maxRecDepth 100000
set_option maxHeartbeats 4000000
namespace Sg
open PySem L2
variable {K : PySem.W.Frag}
section
open PySem.Spec PyProof.Rows
end
mutual
def pdG : U → Option PyData
  | .non => some .none
  | .bl b => some (.bool b)
  | .int i => some (.int i)
  | .str s => some (.str s)
  | .lst us => (pdGL us).map .list
  | .frl us => (pdGL us).map .list
  | .tup us => (pdGL us).map .tuple
  | .dic kvs => (pdGD kvs).map .dict
  | _ => none
def pdGL : List U → Option (List PyData)
  | [] => some []
  | u :: us => (pdG u).bind fun d => (pdGL us).map fun ds => d :: ds
def pdGD : List (Key × U) → Option (List (PyData × PyData))
  | [] => some []
  | (.inl i, u) :: us => (pdG u).bind fun d => (pdGD us).map fun ds => (.int i, d) :: ds
  | (.inr i, u) :: us => (pdG u).bind fun d => (pdGD us).map fun ds => (.str i, d) :: ds
end
end Sg
set_option Elab.async false
set_option linter.all false
set_option maxRecDepth 100000
set_option maxHeartbeats 4000000
namespace Sg
open PySem L2 PySem.Spec PyProof.Rows
end Sg
set_option Elab.async false
set_option linter.all false
set_option maxRecDepth 100000
set_option maxHeartbeats 4000000
namespace Sg
open PySem L2 PySem.Spec PyProof.Rows
end Sg
set_option Elab.async false
set_option linter.all false
set_option maxRecDepth 100000
set_option maxHeartbeats 4000000
namespace Sg
open PySem L2 PySem.Spec PyProof.Rows
def rSetL (K : PySem.W.Frag) (w : World) : List V → Hp → VK → Prop := fun xs H Q => ∃ (a : Addr) (ns : List Int), xs = [V.ref a] ∧ SqL K H a (ns.map V.int) ∧ ns.length ≤ 4000 ∧
  ∀ p c, c ≤ ns.length → H p = none → Q (.ref p) (upd H p (SetO w p (fun j => decide (j ∈ ns)) c))
end Sg
set_option Elab.async false
set_option linter.all false
set_option maxRecDepth 100000
set_option maxHeartbeats 4000000
namespace Sg
open PySem L2
end Sg
set_option Elab.async false
set_option linter.all false
set_option maxRecDepth 100000
set_option maxHeartbeats 4000000
namespace Sg
open PySem L2
variable {K : PySem.W.Frag}
theorem mC_m (u : U) (z : V) (h : scV u = some z) (ρ : Env) : (@mC K u z h).m ρ = (some (.ok u ρ)) := rfl
theorem mVar_m (i : Nat) (ρ : Env) : (@mVar K i).m ρ = (match ρ[i]? with
    | some (.val u) => some (.ok u ρ)
    | some (.lck kvs) => some (.ok (.dic kvs) ρ)
    | some (.nam _ u) => some (.ok u ρ)
    | _ => none) := rfl
theorem mLook_m (i : Nat) (ρ : Env) : (@mLook K i).m ρ = (match ρ[i]? with
    | some (.val u) => some (.ok u ρ)
    | some (.cel _ us) => some (.ok (.lst us) ρ)
    | some (.celD _ us) => some (.ok (.dic us) ρ)
    | some (.lck us) => some (.ok (.dic us) ρ)
    | some (.nam _ u) => some (.ok u ρ)
    | _ => none) := rfl
theorem mLet_m (i : Nat) (ρ : Env) : (@mLet K i).m ρ = (match ρ[i]? with
    | some (.val u) => some (.ok u ρ)
    | some (.cel true us) => some (.ok (.lst us) (ρ.set i (.val (.lst us))))
    | _ => none) := rfl
theorem mNil_m (ρ : Env) : (@mNil K).m ρ = (some (.ok [] ρ)) := rfl
theorem msNil_m (ρ : Env) : (@msNil K).m ρ = (some (.nx ρ)) := rfl
theorem msSeq_m (a b : MS K) (ρ : Env) : (@msSeq K a b).m ρ = (thenS (a.m ρ) b.m) := rfl
theorem msAsgF_m (e : MF K) (i : Nat) (ρ : Env) : (@msAsgF K e i).m ρ = (bindAS (e.m ρ) fun us ρ1 => some (.nx (ρ1.set i (.cel true us)))) := rfl
theorem msDrop_m (e : ME K) (ρ : Env) : (@msDrop K e).m ρ = (bindES (e.m ρ) fun _ ρ1 => some (.nx ρ1)) := rfl
theorem msRet_m (e : ME K) (h : e.k = true) (ρ : Env) : (@msRet K e h).m ρ = (bindES (e.m ρ) fun u ρ1 => some (.rt (.val u) ρ1)) := rfl
theorem msRetF_m (e : MF K) (ρ : Env) : (@msRetF K e).m ρ = (bindAS (e.m ρ) fun us ρ1 => some (.rt (.cel us) ρ1)) := rfl
theorem msRaise_m (c : Str) (ρ : Env) : (@msRaise K c).m ρ = (some (.ex ⟨c, none⟩ ρ)) := rfl
theorem msFor_m (it : MI K) (g : MG K) (b : MS K) (kl : List Nat) (ρ : Env) : (@msFor K it g b kl).m ρ = (bindAS (it.m ρ) fun us ρ1 => loopM g.m b.m kl us ρ1) := rfl
theorem mtYes_m (ρ : Env) : (@mtYes K).m ρ = (some (.ok true ρ)) := rfl
theorem mLc_m (it : MI K) (g : MG K) (tt : MTs K) (e : ME K) (vs : List Nat) (hg : (g.is.all fun i => vs.contains i) = true) (hk : e.k = true) (ρ : Env) : (@mLc K it g tt e vs hg hk).m ρ = (match it.m ρ with
    | some (.ok us ρ1) => lcM g.m tt.m e.m vs us [] (kills ρ1 vs)
    | o => o) := rfl
theorem mcNil_m (ρ : Env) : (@mcNil K).m ρ = (some (.ok [] ρ)) := rfl
theorem mcCel_m (j : Nat) (b : MC K) (ρ : Env) : (@mcCel K j b).m ρ = (match ρ[j]? with
    | some (.cel _ _) => consC (.inr j) (b.m ρ)
    | some (.celD _ _) => consC (.inr j) (b.m ρ)
    | _ => none) := rfl
theorem mCall_m (n : Nat) (mf : List Slot → Option CO) (a : MC K) (hk : a.k = true) (ρ : Env) : (@mCall K n mf a hk).m ρ = ((a.m ρ).bind fun o => match o with
    | .ok is _ => if is.length = n then callM mf (some o) else none
    | _ => callM mf (some o)) := rfl
theorem moNone_m (ρ : Env) : (@moNone K).m ρ = (some (.ok none ρ)) := rfl
theorem moSome_m (a : ME K) (ρ : Env) : (@moSome K a).m ρ = (match a.m ρ with
    | some (.ok (.int i) ρ1) => some (.ok (some i) ρ1)
    | some (.ex e ρ1) => some (.ex e ρ1)
    | _ => none) := rfl
theorem mSlL_m (a : ME K) (lo hi : MO K) (hk : a.k = true) (h1 : lo.p = true) (h2 : hi.p = true) (ρ : Env) : (@mSlL K a lo hi hk h1 h2).m ρ = (match a.m ρ with
    | none => none
    | some (.ex e ρ1) => some (.ex e ρ1)
    | some (.ok u ρ1) => match lo.m ρ1 with
      | none => none
      | some (.ex e ρ2) => some (.ex e ρ2)
      | some (.ok x ρ2) => match hi.m ρ2 with
        | none => none
        | some (.ex e ρ3) => some (.ex e ρ3)
        | some (.ok y ρ3) => (lstU u).map fun us => .ok (cutU us x y) ρ3) := rfl
theorem mBi_m (o : OpC K) (a : MA K) (ρ : Env) : (@mBi K o a).m ρ = (bindAE (a.m ρ) fun us ρ1 => (o.f us).map fun w => .ok w ρ1) := rfl
theorem mBiF_m (o : OpF K) (a : MA K) (hk : a.k = true) (ρ : Env) : (@mBiF K o a hk).m ρ = (match a.m ρ with
    | some (.ok us ρ1) => (o.f us).map fun ws => .ok ws ρ1
    | x => x) := rfl
theorem miList_m (a : ME K) (hk : a.k = true) (ρ : Env) : (@miList K a hk).m ρ = (match a.m ρ with
    | some (.ok u ρ1) => (lstU u).map fun us => .ok us ρ1
    | some (.ex e ρ1) => some (.ex e ρ1)
    | none => none) := rfl
theorem miTup_m (a : ME K) (hk : a.k = true) (ρ : Env) : (@miTup K a hk).m ρ = (match a.m ρ with
    | some (.ok (.tup us) ρ1) => some (.ok us ρ1)
    | some (.ex e ρ1) => some (.ex e ρ1)
    | _ => none) := rfl
theorem miRng1_m (a : ME K) (ρ : Env) : (@miRng1 K a).m ρ = (match a.m ρ with
    | some (.ok (.int j) ρ1) => if rngOk 0 j = true then some (.ok (rangeU 0 j.toNat) ρ1) else none
    | some (.ex e ρ1) => some (.ex e ρ1)
    | _ => none) := rfl
theorem miEnum_m (a : ME K) (hk : a.k = true) (ρ : Env) : (@miEnum K a hk).m ρ = (match a.m ρ with
    | some (.ok u ρ1) => (lstU u).map fun us => .ok (enumU 0 us) ρ1
    | some (.ex e ρ1) => some (.ex e ρ1)
    | none => none) := rfl
theorem miZip_m (a b : ME K) (hk : (a.k && b.k) = true) (ρ : Env) : (@miZip K a b hk).m ρ = (match a.m ρ with
    | some (.ok u ρ1) => (match b.m ρ1 with
      | some (.ok v ρ2) => (lstU u).bind fun us => (lstU v).map fun vs => .ok (zipU us vs) ρ2
      | some (.ex e ρ2) => some (.ex e ρ2)
      | none => none)
    | some (.ex e ρ1) => some (.ex e ρ1)
    | none => none) := rfl
theorem mMeth_m (j : Nat) (o : OpM K) (a : MA K) (hk : a.k = true) (ρ : Env) : (@mMeth K j o a hk).m ρ = (match ρ[j]? with
    | some (.cel _ _) => (match a.m ρ with
      | some (.ok xs ρ1) => (match ρ1[j]? with
        | some (.cel own us) => (o.f us xs).map fun q => .ok q.1 (ρ1.set j (.cel own q.2))
        | _ => none)
      | some (.ex e ρ1) => some (.ex e ρ1)
      | none => none)
    | _ => none) := rfl
theorem msSet_m (j : Nat) (i e : ME K) (hk : e.k = true) (ρ : Env) : (@msSet K j i e hk).m ρ = (match e.m ρ with
    | none => none
    | some (.ex x ρ1) => some (.ex x ρ1)
    | some (.ok u ρ1) => match ρ1[j]? with
      | some (.cel _ _) => (match i.m ρ1 with
        | none => none
        | some (.ex x ρ2) => some (.ex x ρ2)
        | some (.ok (.int n) ρ2) => (match ρ2[j]? with
          | some (.cel own us) => (ixN us.length n).map fun k => .nx (ρ2.set j (.cel own (us.set k u)))
          | _ => none)
        | _ => none)
      | _ => none) := rfl
theorem mCat_m (a b : ME K) (hk : (a.k && b.k) = true) (ρ : Env) : (@mCat K a b hk).m ρ = (match a.m ρ with
    | some (.ok (.lst us) ρ1) => (match b.m ρ1 with
      | some (.ok (.lst vs) ρ2) => if us.length + vs.length ≤ 16777216 then some (.ok (us ++ vs) ρ2) else none
      | some (.ex e ρ2) => some (.ex e ρ2)
      | _ => none)
    | some (.ex e ρ1) => some (.ex e ρ1)
    | _ => none) := rfl
theorem mRepeat_m (a b : ME K) (hk : a.k = true) (ρ : Env) : (@mRepeat K a b hk).m ρ = (match a.m ρ with
    | some (.ok (.lst us) ρ1) => (match b.m ρ1 with
      | some (.ok (.int n) ρ2) => if -(2 ^ 63) ≤ n ∧ n < 2 ^ 63 ∧ us.length * n.toNat ≤ 16777216 then some (.ok (List.replicate n.toNat us).flatten ρ2) else none
      | some (.ex e ρ2) => some (.ex e ρ2)
      | _ => none)
    | some (.ex e ρ1) => some (.ex e ρ1)
    | _ => none) := rfl
theorem mChain_m (o o' : Op2 K) (a b c : ME K) (h1 : (a.k || b.p) = true) (h2 : (b.k || c.p) = true) (ρ : Env) : (@mChain K o o' a b c h1 h2).m ρ = (bindE (a.m ρ) fun u ρ1 => bindE (b.m ρ1) fun v ρ2 => match o.f u v with
    | some (.bl true) => bindE (c.m ρ2) fun w ρ3 => (o'.f v w).bind fun z => match z with
      | .bl d => some (.ok (.bl d) ρ3)
      | _ => none
    | some (.bl false) => some (.ok (.bl false) ρ2)
    | _ => none) := rfl
theorem mIsi_m (n : String) (a : ME K) (ρ : Env) : (@mIsi K n a).m ρ = (bindE (a.m ρ) fun u ρ1 => (tyU u).bind fun s => (isiB s n).map fun b => .ok (.bl b) ρ1) := rfl
theorem mRev_m (a : ME K) (hk : a.k = true) (ρ : Env) : (@mRev K a hk).m ρ = (match a.m ρ with
    | some (.ok u ρ1) => (lstU u).map fun us => .ok us.reverse ρ1
    | some (.ex e ρ1) => some (.ex e ρ1)
    | none => none) := rfl
theorem mListRng_m (a b : ME K) (ρ : Env) : (@mListRng K a b).m ρ = (match a.m ρ with
    | some (.ok (.int i) ρ1) => (match b.m ρ1 with
      | some (.ok (.int j) ρ2) => if rgLok i j = true then some (.ok (rangeU i (j - i).toNat) ρ2) else none
      | some (.ex e ρ2) => some (.ex e ρ2)
      | _ => none)
    | some (.ex e ρ1) => some (.ex e ρ1)
    | _ => none) := rfl
theorem mCallF_m (n : Nat) (mf : List Slot → Option CO) (a : MC K) (hk : a.k = true) (ρ : Env) : (@mCallF K n mf a hk).m ρ = ((a.m ρ).bind fun o => match o with
    | .ok is _ => if is.length = n then callMF mf (some o) else none
    | _ => callMF mf (some o)) := rfl
theorem msParVV_m (i j : Nat) (a b : ME K) (ha : a.k = true) (hb : b.k = true) (ρ : Env) : (@msParVV K i j a b ha hb).m ρ = (bindES (a.m ρ) fun u ρ1 => bindES (b.m ρ1) fun v ρ2 => some (.nx ((ρ2.set i (.val u)).set j (.val v)))) := rfl
theorem mMethD_m (m : Str) (n : Nat) (tab : MTab) (a : ME K) (b : MC K) (ha : a.k = true) (hk : b.k = true) (ρ : Env) : (@mMethD K m n tab a b ha hk).m ρ = (bindE (a.m ρ) fun u ρ1 => match u with
    | .ins c fs => match fs.lookup m, tab.lookup c with
      | none, some mf => (b.m ρ1).bind fun o => match o with
        | .ok is ρ2 => if is.length + 1 = n then callM mf (some (.ok (.inl (.ins c fs) :: is) ρ2)) else none
        | .ex e ρ2 => some (.ex e ρ2)
      | _, _ => none
    | _ => none) := rfl
theorem mNew_m (c : Str) (ρ : Env) : (@mNew K c).m ρ = (some (.ok (.ins c []) ρ)) := rfl
theorem mCMeth_m (c : Str) (n : Nat) (mf : List Slot → Option CO) (b : MC K) (hk : b.k = true) (ρ : Env) : (@mCMeth K c n mf b hk).m ρ = ((b.m ρ).bind fun o => match o with
    | .ok is ρ2 => if is.length + 1 = n then callM mf (some (.ok (.inl (.ref (He.ga K c)) :: is) ρ2)) else none
    | .ex e ρ2 => some (.ex e ρ2)) := rfl
theorem mConC_m (c : Str) (u : U) (a : ME K) (ρ : Env) : (@mConC K c u a).m ρ = (bindE (a.m ρ) fun x ρ1 => match x with
    | .ref p => if p = He.ga K c then some (.ok u ρ1) else none
    | _ => none) := rfl
theorem msTry_m (tab : XTab) (S S2 : MS K) (ρ : Env) : (@msTry K tab S S2).m ρ = (match S.m ρ with
    | some (.ex e ρ') => match tab.lookup e.c with
      | some true => match S2.m ρ' with
        | some (.ex _ _) => none
        | o => o
      | some false => some (.ex e ρ')
      | none => none
    | o => o) := rfl
theorem mSup_m (c : Str) (n : Nat) (mf : List Slot → Option CO) (b : MC K) (hk : b.k = true) (ρ : Env) : (@mSup K c n mf b hk).m ρ = (match ρ[(0 : Nat)]? with
    | some (.val (.ins c' fs)) => if c' = c then (b.m ρ).bind fun o => match o with
        | .ok is ρ2 => if is.length + 1 = n then callM mf (some (.ok (.inl (.ins c fs) :: is) ρ2)) else none
        | .ex e ρ2 => some (.ex e ρ2)
      else none
    | _ => none) := rfl
section
variable {α : Type}
def opE (x : Option EO) (b : ME K) (f : U → U → Option U) : Option EO := bindE x fun u ρ1 => bindE (b.m ρ1) fun v ρ2 => (f u v).map fun w => .ok w ρ2
def opF (x : Option EO) (u : U) (f : U → U → Option U) : Option EO := bindE x fun v ρ2 => (f u v).map fun w => .ok w ρ2
def okE (x : Option U) (ρ : Env) : Option EO := x.map fun w => .ok w ρ
theorem okE_some (u : U) (ρ : Env) : okE (some u) ρ = some (.ok u ρ) := rfl
theorem okE_none (ρ : Env) : okE none ρ = none := rfl
theorem opE_ok (u : U) (ρ : Env) (b : ME K) (f : U → U → Option U) : opE (some (.ok u ρ)) b f = opF (b.m ρ) u f := rfl
theorem opE_ex (e : Exn) (ρ : Env) (b : ME K) (f : U → U → Option U) : opE (some (.ex e ρ)) b f = some (.ex e ρ) := rfl
theorem opF_ok (u v : U) (ρ : Env) (f : U → U → Option U) : opF (some (.ok v ρ)) u f = okE (f u v) ρ := rfl
theorem opF_ex (u : U) (e : Exn) (ρ : Env) (f : U → U → Option U) : opF (some (.ex e ρ)) u f = some (.ex e ρ) := rfl
theorem mOp_e (o : Op2 K) (a b : ME K) (h : (a.k || b.p) = true) (ρ : Env) : (@mOp K o a b h).m ρ = opE (a.m ρ) b o.f := rfl
theorem mIx_e (o : OpI K) (a b : ME K) (h : (a.k || b.p) = true) (ρ : Env) : (@mIx K o a b h).m ρ = opE (a.m ρ) b o.f := rfl
def unE (x : Option EO) (f : U → Option U) : Option EO := bindE x fun u ρ1 => (f u).map fun w => .ok w ρ1
theorem unE_ok (u : U) (ρ : Env) (f : U → Option U) : unE (some (.ok u ρ)) f = okE (f u) ρ := rfl
theorem mUn_e (o : Op1 K) (a : ME K) (ρ : Env) : (@mUn K o a).m ρ = unE (a.m ρ) o.f := rfl
def coE (x : Option EO) (b : MA K) : Option AO := bindEA x fun u ρ1 => match b.m ρ1 with
    | none => none
    | some (.ex e ρ2) => some (.ex e ρ2)
    | some (.ok us ρ2) => some (.ok (u :: us) ρ2)
def coF (x : Option AO) (u : U) : Option AO := match x with
    | none => none
    | some (.ex e ρ2) => some (.ex e ρ2)
    | some (.ok us ρ2) => some (.ok (u :: us) ρ2)
theorem coE_ok (u : U) (ρ : Env) (b : MA K) : coE (some (.ok u ρ)) b = coF (b.m ρ) u := rfl
theorem coE_ex (e : Exn) (ρ : Env) (b : MA K) : coE (some (.ex e ρ)) b = some (.ex e ρ) := rfl
theorem coF_ok (u : U) (us : List U) (ρ : Env) : coF (some (.ok us ρ)) u = some (.ok (u :: us) ρ) := rfl
theorem coF_ex (u : U) (e : Exn) (ρ : Env) : coF (some (.ex e ρ)) u = some (.ex e ρ) := rfl
theorem mCons_e (a : ME K) (b : MA K) (h : (a.k || b.p) = true) (ρ : Env) : (@mCons K a b h).m ρ = coE (a.m ρ) b := rfl
def tupF (us : List U) (ρ : Env) : Option EO := if us.length ≤ 16777216 then some (.ok (.tup us) ρ) else none
theorem bindAE_ok (us : List U) (ρ : Env) (f : List U → Env → Option EO) : bindAE (some (.ok us ρ)) f = f us ρ := rfl
theorem bindAE_ex (e : Exn) (ρ : Env) (f : List U → Env → Option EO) : bindAE (some (.ex e ρ)) f = some (.ex e ρ) := rfl
theorem mTup_e (a : MA K) (h : a.k = true) (ρ : Env) : (@mTup K a h).m ρ = bindAE (a.m ρ) tupF := rfl
theorem tupF_e (us : List U) (ρ : Env) (h : us.length ≤ 16777216) : tupF us ρ = some (.ok (.tup us) ρ) := if_pos h
def frF (us : List U) (ρ : Env) : Option EO := some (.ok (.lst us) ρ)
theorem mFr_e (a : MF K) (ρ : Env) : (@mFr K a).m ρ = bindAE (a.m ρ) frF := rfl
def lstF (x : Option AO) : Option AO := match x with
    | some (.ok us ρ1) => if us.length ≤ 16777216 then some (.ok us ρ1) else none
    | o => o
theorem lstF_ok (us : List U) (ρ : Env) (h : us.length ≤ 16777216) : lstF (some (.ok us ρ)) = some (.ok us ρ) := if_pos h
theorem mLst_e (a : MA K) (h : a.k = true) (ρ : Env) : (@mLst K a h).m ρ = lstF (a.m ρ) := rfl
def tsE (x : Option EO) : Option TOu := bindET x fun u ρ1 => match u with
    | .bl b => some (.ok b ρ1)
    | _ => none
theorem tsE_ok (b : Bool) (ρ : Env) : tsE (some (.ok (.bl b) ρ)) = some (.ok b ρ) := rfl
theorem tsE_ex (e : Exn) (ρ : Env) : tsE (some (.ex e ρ)) = some (.ex e ρ) := rfl
theorem mTest_e (a : ME K) (ρ : Env) : (@mTest K a).m ρ = tsE (a.m ρ) := rfl
def truE (x : Option EO) : Option TOu := bindET x fun u ρ1 => (truU u).map fun b => .ok b ρ1
def okT (x : Option Bool) (ρ : Env) : Option TOu := x.map fun b => .ok b ρ
theorem okT_some (b : Bool) (ρ : Env) : okT (some b) ρ = some (.ok b ρ) := rfl
theorem truE_ok (u : U) (ρ : Env) : truE (some (.ok u ρ)) = okT (truU u) ρ := rfl
theorem truE_ex (e : Exn) (ρ : Env) : truE (some (.ex e ρ)) = some (.ex e ρ) := rfl
theorem mTru_e (a : ME K) (ρ : Env) : (@mTru K a).m ρ = truE (a.m ρ) := rfl
def anE (x : Option TOu) (b : MT K) : Option TOu := bindTT x fun c ρ1 => if c = true then b.m ρ1 else some (.ok false ρ1)
def orE (x : Option TOu) (b : MT K) : Option TOu := bindTT x fun c ρ1 => if c = true then some (.ok true ρ1) else b.m ρ1
theorem anE_t (b : MT K) (ρ : Env) : anE (some (.ok true ρ)) b = b.m ρ := rfl
theorem anE_f (b : MT K) (ρ : Env) : anE (some (.ok false ρ)) b = some (.ok false ρ) := rfl
theorem anE_ok (c : Bool) (b : MT K) (ρ : Env) : anE (some (.ok c ρ)) b = if c = true then b.m ρ else some (.ok false ρ) := rfl
theorem orE_t (b : MT K) (ρ : Env) : orE (some (.ok true ρ)) b = some (.ok true ρ) := rfl
theorem orE_f (b : MT K) (ρ : Env) : orE (some (.ok false ρ)) b = b.m ρ := rfl
theorem orE_ok (c : Bool) (b : MT K) (ρ : Env) : orE (some (.ok c ρ)) b = if c = true then some (.ok true ρ) else b.m ρ := rfl
theorem mAnd_e (a b : MT K) (ρ : Env) : (@mAnd K a b).m ρ = anE (a.m ρ) b := rfl
theorem mOr_e (a b : MT K) (ρ : Env) : (@mOr K a b).m ρ = orE (a.m ρ) b := rfl
def noE (x : Option TOu) : Option TOu := bindTT x fun c ρ1 => some (.ok (!c) ρ1)
theorem noE_ok (c : Bool) (ρ : Env) : noE (some (.ok c ρ)) = some (.ok (!c) ρ) := rfl
theorem noE_ex (e : Exn) (ρ : Env) : noE (some (.ex e ρ)) = some (.ex e ρ) := rfl
theorem mNot_e (a : MT K) (ρ : Env) : (@mNot K a).m ρ = noE (a.m ρ) := rfl
def anV (x : Option EO) (b : ME K) : Option EO := bindE x fun u ρ1 => match u with
    | .bl true => bindE (b.m ρ1) fun v ρ2 => match v with
      | .bl c => some (.ok (.bl c) ρ2)
      | _ => none
    | .bl false => some (.ok (.bl false) ρ1)
    | _ => none
def orV (x : Option EO) (b : ME K) : Option EO := bindE x fun u ρ1 => match u with
    | .bl false => bindE (b.m ρ1) fun v ρ2 => match v with
      | .bl c => some (.ok (.bl c) ρ2)
      | _ => none
    | .bl true => some (.ok (.bl true) ρ1)
    | _ => none
def blV (x : Option EO) : Option EO := bindE x fun v ρ2 => match v with
      | .bl c => some (.ok (.bl c) ρ2)
      | _ => none
theorem blV_ok (c : Bool) (ρ : Env) : blV (some (.ok (.bl c) ρ)) = some (.ok (.bl c) ρ) := rfl
theorem blV_ex (e : Exn) (ρ : Env) : blV (some (.ex e ρ)) = some (.ex e ρ) := rfl
theorem anV_t (b : ME K) (ρ : Env) : anV (some (.ok (.bl true) ρ)) b = blV (b.m ρ) := rfl
theorem anV_f (b : ME K) (ρ : Env) : anV (some (.ok (.bl false) ρ)) b = some (.ok (.bl false) ρ) := rfl
theorem anV_ok (c : Bool) (b : ME K) (ρ : Env) : anV (some (.ok (.bl c) ρ)) b = if c = true then blV (b.m ρ) else some (.ok (.bl false) ρ) := by cases c <;> rfl
theorem orV_t (b : ME K) (ρ : Env) : orV (some (.ok (.bl true) ρ)) b = some (.ok (.bl true) ρ) := rfl
theorem orV_f (b : ME K) (ρ : Env) : orV (some (.ok (.bl false) ρ)) b = blV (b.m ρ) := rfl
theorem orV_ok (c : Bool) (b : ME K) (ρ : Env) : orV (some (.ok (.bl c) ρ)) b = if c = true then some (.ok (.bl true) ρ) else blV (b.m ρ) := by cases c <;> rfl
theorem mAndV_e (a b : ME K) (ρ : Env) : (@mAndV K a b).m ρ = anV (a.m ρ) b := rfl
theorem mOrV_e (a b : ME K) (ρ : Env) : (@mOrV K a b).m ρ = orV (a.m ρ) b := rfl
def noV (x : Option EO) : Option EO := bindE x fun u ρ1 => match u with
    | .bl c => some (.ok (.bl (!c)) ρ1)
    | _ => none
theorem noV_ok (c : Bool) (ρ : Env) : noV (some (.ok (.bl c) ρ)) = some (.ok (.bl (!c)) ρ) := rfl
theorem noV_ex (e : Exn) (ρ : Env) : noV (some (.ex e ρ)) = some (.ex e ρ) := rfl
theorem mNotV_e (a : ME K) (ρ : Env) : (@mNotV K a).m ρ = noV (a.m ρ) := rfl
def ifV (x : Option TOu) (a b : ME K) : Option EO := bindTE x fun c ρ1 => if c = true then a.m ρ1 else b.m ρ1
theorem ifV_t (a b : ME K) (ρ : Env) : ifV (some (.ok true ρ)) a b = a.m ρ := rfl
theorem ifV_f (a b : ME K) (ρ : Env) : ifV (some (.ok false ρ)) a b = b.m ρ := rfl
theorem ifV_ok (c : Bool) (a b : ME K) (ρ : Env) : ifV (some (.ok c ρ)) a b = if c = true then a.m ρ else b.m ρ := rfl
theorem mIf_e (c : MT K) (a b : ME K) (ρ : Env) : (@mIf K c a b).m ρ = ifV (c.m ρ) a b := rfl
def ifS (x : Option TOu) (a b : MS K) : Option SO := bindTS x fun c ρ1 => if c = true then a.m ρ1 else b.m ρ1
theorem ifS_t (a b : MS K) (ρ : Env) : ifS (some (.ok true ρ)) a b = a.m ρ := rfl
theorem ifS_f (a b : MS K) (ρ : Env) : ifS (some (.ok false ρ)) a b = b.m ρ := rfl
theorem ifS_ok (c : Bool) (a b : MS K) (ρ : Env) : ifS (some (.ok c ρ)) a b = if c = true then a.m ρ else b.m ρ := rfl
theorem ifS_ex (e : Exn) (a b : MS K) (ρ : Env) : ifS (some (.ex e ρ)) a b = some (.ex e ρ) := rfl
theorem msIf_e (c : MT K) (a b : MS K) (ρ : Env) : (@msIf K c a b).m ρ = ifS (c.m ρ) a b := rfl
def asE (x : Option EO) (g : MG K) : Option SO := bindES x fun u ρ1 => (g.m u ρ1).map .nx
def nxO (x : Option Env) : Option SO := x.map .nx
theorem nxO_some (ρ : Env) : nxO (some ρ) = some (.nx ρ) := rfl
theorem asE_ok (u : U) (ρ : Env) (g : MG K) : asE (some (.ok u ρ)) g = nxO (g.m u ρ) := rfl
theorem asE_ex (e : Exn) (ρ : Env) (g : MG K) : asE (some (.ex e ρ)) g = some (.ex e ρ) := rfl
theorem msAsg_e (e : ME K) (g : MG K) (h : e.k = true) (ρ : Env) : (@msAsg K e g h).m ρ = asE (e.m ρ) g := rfl
def gcE (x : Option Env) (gs : MGs K) (us : List U) : Option Env := x.bind fun ρ1 => gs.m us ρ1
theorem gcE_some (ρ : Env) (gs : MGs K) (us : List U) : gcE (some ρ) gs us = gs.m us ρ := rfl
theorem mgCons_e (g : MG K) (gs : MGs K) (u : U) (us : List U) (ρ : Env) : (@mgCons K g gs).m (u :: us) ρ = gcE (g.m u ρ) gs us := rfl
theorem mgNil_e (ρ : Env) : (@mgNil K).m [] ρ = some ρ := rfl
theorem mgTup_e (n : Nat) (gs : MGs K) (us : List U) (ρ : Env) (h : us.length = n) : (@mgTup K n gs).m (.tup us) ρ = gs.m us ρ := if_pos h
theorem mgName_e (i : Nat) (u : U) (ρ : Env) : (@mgName K i).m u ρ = some (ρ.set i (.val u)) := rfl
def cvE (x : Option EO) (b : MC K) : Option CA := bindEC x fun u ρ1 => consC (.inl u) (b.m ρ1)
theorem cvE_ok (u : U) (ρ : Env) (b : MC K) : cvE (some (.ok u ρ)) b = consC (.inl u) (b.m ρ) := rfl
theorem cvE_ex (e : Exn) (ρ : Env) (b : MC K) : cvE (some (.ex e ρ)) b = some (.ex e ρ) := rfl
theorem consC_ok (i : U ⊕ Nat) (is : List (U ⊕ Nat)) (ρ : Env) : consC i (some (.ok is ρ)) = some (.ok (i :: is) ρ) := rfl
theorem mcVal_e (a : ME K) (b : MC K) (h : (a.k || b.p) = true) (ρ : Env) : (@mcVal K a b h).m ρ = cvE (a.m ρ) b := rfl
theorem thenS_nx (ρ : Env) (f : Env → Option SO) : thenS (some (.nx ρ)) f = f ρ := rfl
theorem thenS_bk (ρ : Env) (f : Env → Option SO) : thenS (some (.bk ρ)) f = some (.bk ρ) := rfl
theorem thenS_ct (ρ : Env) (f : Env → Option SO) : thenS (some (.ct ρ)) f = some (.ct ρ) := rfl
theorem thenS_rt (r : RV) (ρ : Env) (f : Env → Option SO) : thenS (some (.rt r ρ)) f = some (.rt r ρ) := rfl
theorem thenS_ex (e : Exn) (ρ : Env) (f : Env → Option SO) : thenS (some (.ex e ρ)) f = some (.ex e ρ) := rfl
theorem bindES_ok (u : U) (ρ : Env) (f : U → Env → Option SO) : bindES (some (.ok u ρ)) f = f u ρ := rfl
theorem bindES_ex (e : Exn) (ρ : Env) (f : U → Env → Option SO) : bindES (some (.ex e ρ)) f = some (.ex e ρ) := rfl
theorem bindAS_ok (u : List U) (ρ : Env) (f : List U → Env → Option SO) : bindAS (some (.ok u ρ)) f = f u ρ := rfl
theorem bindAS_ex (e : Exn) (ρ : Env) (f : List U → Env → Option SO) : bindAS (some (.ex e ρ)) f = some (.ex e ρ) := rfl
def fin_ (as : List Slot) (x : Option SO) : Option CO := match x with
  | some (.nx ρ) => (cellAt as ρ).map fun c => .val .non c
  | some (.rt (.val u) ρ) => (cellAt as ρ).map fun c => .val u c
  | some (.rt (.cel us) ρ) => (cellAt as ρ).map fun c => .cel us c
  | some (.ex e ρ) => (cellAt as ρ).map fun c => .ex e c
  | _ => none
theorem mfOf_e (N : Nat) (b : MS K) (as : List Slot) : mfOf N b.m as = fin_ as (b.m (as.map unown ++ List.replicate (N - as.length) .non)) := rfl
def noX (x : Option CO) : Option CO := match x with
  | some (.ex _ _) => none
  | o => o
theorem mfOf0_e (N : Nat) (b : MS K) (as : List Slot) : mfOf0 N b.m as = noX (fin_ as (b.m (as.map unown ++ List.replicate (N - as.length) .non))) := rfl
theorem noX_val (u : U) (c : Option (List U)) : noX (some (.val u c)) = some (.val u c) := rfl
theorem noX_cel (u : List U) (c : Option (List U)) : noX (some (.cel u c)) = some (.cel u c) := rfl
def coM (x : Option (Option (List U))) (f : Option (List U) → CO) : Option CO := x.map f
theorem coM_some (c : Option (List U)) (f : Option (List U) → CO) : coM (some c) f = some (f c) := rfl
theorem fin_val (as : List Slot) (u : U) (ρ : Env) : fin_ as (some (.rt (.val u) ρ)) = coM (cellAt as ρ) (.val u) := rfl
theorem fin_cel (as : List Slot) (u : List U) (ρ : Env) : fin_ as (some (.rt (.cel u) ρ)) = coM (cellAt as ρ) (.cel u) := rfl
theorem fin_nx (as : List Slot) (ρ : Env) : fin_ as (some (.nx ρ)) = coM (cellAt as ρ) (.val .non) := rfl
theorem fin_ex (as : List Slot) (e : Exn) (ρ : Env) : fin_ as (some (.ex e ρ)) = coM (cellAt as ρ) (.ex e) := rfl
end
end Sg
set_option Elab.async false
set_option linter.all false
set_option maxRecDepth 100000
set_option maxHeartbeats 4000000
namespace Sg
open PySem L2
variable {K : PySem.W.Frag}
theorem oAdd_i (i j : Int) : (oAdd (K := K)).f (.int i) (.int j) = some (.int (i + j)) := rfl
theorem oSub_i (i j : Int) : (oSub (K := K)).f (.int i) (.int j) = some (.int (i - j)) := rfl
theorem oMul_l (i j : Int) (h1 : -18446744073709551616 < i) (h2 : i < 18446744073709551616) : (oMul (K := K)).f (.int i) (.int j) = some (.int (i * j)) := if_pos (.inl (.inl ⟨by omega, by omega⟩))
theorem oMul_r (i j : Int) (h1 : -18446744073709551616 < j) (h2 : j < 18446744073709551616) : (oMul (K := K)).f (.int i) (.int j) = some (.int (i * j)) := if_pos (.inl (.inr ⟨by omega, by omega⟩))
theorem oMod_i (i j : Int) (h : 0 < j) : (oMod (K := K)).f (.int i) (.int j) = some (.int (i % j)) := by
  show (if j ≠ 0 then some (U.int (i.fmod j)) else none) = _
  rw [if_pos (by omega), Int.fmod_eq_emod_of_nonneg _ (by omega)]
theorem oDiv_i (i j : Int) (h : 0 < j) (h2 : j < 1000000000000000000000000000000000000000000000000000000000000000000000000) : (oDiv (K := K)).f (.int i) (.int j) = some (.int (i / j)) := by
  show (if j ≠ 0 ∧ j.natAbs < 1073741824 then some (U.int (i.fdiv j)) else if 0 < j ∧ j.natAbs.log2 < 9000 then some (U.int (i / j)) else none) = _
  rw [Int.fdiv_eq_ediv_of_nonneg _ (by omega)]
  split
  · rfl
  · have h3 : j.natAbs < 2 ^ 9000 := by
      have : j.natAbs < 1000000000000000000000000000000000000000000000000000000000000000000000000 := by omega
      refine Nat.lt_of_lt_of_le this (by decide +kernel)
    rw [if_pos ⟨h, (Nat.log2_lt (by omega)).mpr h3⟩]
theorem oPow_i (i j : Int) (h1 : -18446744073709551616 < i) (h2 : i < 18446744073709551616) (h3 : 0 ≤ j) (h4 : j ≤ 1000000) : (oPow (K := K)).f (.int i) (.int j) = some (.int (i ^ j.toNat)) := if_pos ⟨h3, h4, by omega⟩
theorem oLt_i (i j : Int) : (oLt (K := K)).f (.int i) (.int j) = some (.bl (decide (i < j))) := rfl
theorem oLe_i (i j : Int) : (oLe (K := K)).f (.int i) (.int j) = some (.bl (decide (i ≤ j))) := rfl
theorem oGt_i (i j : Int) : (oGt (K := K)).f (.int i) (.int j) = some (.bl (decide (j < i))) := rfl
theorem oGe_i (i j : Int) : (oGe (K := K)).f (.int i) (.int j) = some (.bl (decide (j ≤ i))) := rfl
theorem oEqI_i (i j : Int) : (oEqI (K := K)).f (.int i) (.int j) = some (.bl (decide (i = j))) := rfl
theorem oIx_l (us : List U) (i : Int) : (oIx (K := K)).f (.lst us) (.int i) = atI us i := rfl
theorem oIx_f (us : List U) (i : Int) : (oIx (K := K)).f (.frl us) (.int i) = atI us i := rfl
theorem oIx_t (us : List U) (i : Int) : (oIx (K := K)).f (.tup us) (.int i) = atI us i := rfl
theorem at1_0 (a : U) : atI [a] 0 = some a := rfl
theorem at2_0 (a b : U) : atI [a, b] 0 = some a := rfl
theorem at2_1 (a b : U) : atI [a, b] 1 = some b := rfl
theorem at3_0 (a b c : U) : atI [a, b, c] 0 = some a := rfl
theorem at3_1 (a b c : U) : atI [a, b, c] 1 = some b := rfl
theorem at3_2 (a b c : U) : atI [a, b, c] 2 = some c := rfl
theorem at4_0 (a b c d : U) : atI [a, b, c, d] 0 = some a := rfl
theorem at4_1 (a b c d : U) : atI [a, b, c, d] 1 = some b := rfl
theorem at4_2 (a b c d : U) : atI [a, b, c, d] 2 = some c := rfl
theorem at4_3 (a b c d : U) : atI [a, b, c, d] 3 = some d := rfl
theorem ix3_0 : ixN 3 0 = some 0 := rfl
theorem ix3_1 : ixN 3 1 = some 1 := rfl
theorem ix3_2 : ixN 3 2 = some 2 := rfl
theorem oMax2_i (i j : Int) : (oMax2 (K := K)).f [.int i, .int j] = some (.int (if j > i then j else i)) := rfl
theorem oMin2_i (i j : Int) : (oMin2 (K := K)).f [.int i, .int j] = some (.int (if j < i then j else i)) := rfl
theorem oAbs_i (i : Int) : (oAbs (K := K)).f [.int i] = some (.int (if i < 0 then -i else i)) := rfl
theorem oInt_b (b : Bool) : (oInt (K := K)).f [.bl b] = some (.int (if b then 1 else 0)) := rfl
theorem oLen_l (us : List U) : (oLen (K := K)).f [.lst us] = some (.int us.length) := rfl
theorem oLen_f (us : List U) : (oLen (K := K)).f [.frl us] = some (.int us.length) := rfl
theorem oLen_t (us : List U) : (oLen (K := K)).f [.tup us] = some (.int us.length) := rfl
theorem oNeg_i (i : Int) : (oNeg (K := K)).f (.int i) = some (.int (-i)) := rfl
theorem truU_i (i : Int) : truU (.int i) = some (i != 0) := rfl
theorem truU_l (us : List U) : truU (.lst us) = some (!us.isEmpty) := rfl
theorem truU_b (b : Bool) : truU (.bl b) = some b := rfl
theorem truU_n : truU .non = some false := rfl
theorem lstU_l (us : List U) : lstU (.lst us) = some us := rfl
theorem lstU_f (us : List U) : lstU (.frl us) = some us := rfl
theorem oAppend_u (us : List U) (u : U) (h : us.length < 16777216) : (oAppend (K := K)).f us [u] = some (.non, us ++ [u]) := if_pos h
theorem lstF_0 (ρ : Env) : lstF (some (.ok [] ρ)) = some (.ok [] ρ) := rfl
theorem tupF_0 (ρ : Env) : tupF [] ρ = some (.ok (.tup []) ρ) := rfl
theorem lstF_1 (a : U) (ρ : Env) : lstF (some (.ok [a] ρ)) = some (.ok [a] ρ) := rfl
theorem tupF_1 (a : U) (ρ : Env) : tupF [a] ρ = some (.ok (.tup [a]) ρ) := rfl
theorem lstF_2 (a b : U) (ρ : Env) : lstF (some (.ok [a, b] ρ)) = some (.ok [a, b] ρ) := rfl
theorem tupF_2 (a b : U) (ρ : Env) : tupF [a, b] ρ = some (.ok (.tup [a, b]) ρ) := rfl
theorem lstF_3 (a b c : U) (ρ : Env) : lstF (some (.ok [a, b, c] ρ)) = some (.ok [a, b, c] ρ) := rfl
theorem tupF_3 (a b c : U) (ρ : Env) : tupF [a, b, c] ρ = some (.ok (.tup [a, b, c]) ρ) := rfl
theorem lstF_4 (a b c d : U) (ρ : Env) : lstF (some (.ok [a, b, c, d] ρ)) = some (.ok [a, b, c, d] ρ) := rfl
theorem tupF_4 (a b c d : U) (ρ : Env) : tupF [a, b, c, d] ρ = some (.ok (.tup [a, b, c, d]) ρ) := rfl
theorem lstF_5 (a b c d e : U) (ρ : Env) : lstF (some (.ok [a, b, c, d, e] ρ)) = some (.ok [a, b, c, d, e] ρ) := rfl
theorem tupF_5 (a b c d e : U) (ρ : Env) : tupF [a, b, c, d, e] ρ = some (.ok (.tup [a, b, c, d, e]) ρ) := rfl
theorem lstF_6 (a b c d e f : U) (ρ : Env) : lstF (some (.ok [a, b, c, d, e, f] ρ)) = some (.ok [a, b, c, d, e, f] ρ) := rfl
theorem tupF_6 (a b c d e f : U) (ρ : Env) : tupF [a, b, c, d, e, f] ρ = some (.ok (.tup [a, b, c, d, e, f]) ρ) := rfl
theorem isi_NoneType_bool : isiB "NoneType" "bool" = some false := by decide
theorem isi_NoneType_int : isiB "NoneType" "int" = some false := by decide
theorem isi_NoneType_str : isiB "NoneType" "str" = some false := by decide
theorem isi_NoneType_list : isiB "NoneType" "list" = some false := by decide
theorem isi_NoneType_tuple : isiB "NoneType" "tuple" = some false := by decide
theorem isi_NoneType_dict : isiB "NoneType" "dict" = some false := by decide
theorem isi_bool_bool : isiB "bool" "bool" = some true := by decide
theorem isi_bool_int : isiB "bool" "int" = some true := by decide
theorem isi_bool_str : isiB "bool" "str" = some false := by decide
theorem isi_bool_list : isiB "bool" "list" = some false := by decide
theorem isi_bool_tuple : isiB "bool" "tuple" = some false := by decide
theorem isi_bool_dict : isiB "bool" "dict" = some false := by decide
theorem isi_int_bool : isiB "int" "bool" = some false := by decide
theorem isi_int_int : isiB "int" "int" = some true := by decide
theorem isi_int_str : isiB "int" "str" = some false := by decide
theorem isi_int_list : isiB "int" "list" = some false := by decide
theorem isi_int_tuple : isiB "int" "tuple" = some false := by decide
theorem isi_int_dict : isiB "int" "dict" = some false := by decide
theorem isi_str_bool : isiB "str" "bool" = some false := by decide
theorem isi_str_int : isiB "str" "int" = some false := by decide
theorem isi_str_str : isiB "str" "str" = some true := by decide
theorem isi_str_list : isiB "str" "list" = some false := by decide
theorem isi_str_tuple : isiB "str" "tuple" = some false := by decide
theorem isi_str_dict : isiB "str" "dict" = some false := by decide
theorem isi_list_bool : isiB "list" "bool" = some false := by decide
theorem isi_list_int : isiB "list" "int" = some false := by decide
theorem isi_list_str : isiB "list" "str" = some false := by decide
theorem isi_list_list : isiB "list" "list" = some true := by decide
theorem isi_list_tuple : isiB "list" "tuple" = some false := by decide
theorem isi_list_dict : isiB "list" "dict" = some false := by decide
theorem isi_tuple_bool : isiB "tuple" "bool" = some false := by decide
theorem isi_tuple_int : isiB "tuple" "int" = some false := by decide
theorem isi_tuple_str : isiB "tuple" "str" = some false := by decide
theorem isi_tuple_list : isiB "tuple" "list" = some false := by decide
theorem isi_tuple_tuple : isiB "tuple" "tuple" = some true := by decide
theorem isi_tuple_dict : isiB "tuple" "dict" = some false := by decide
theorem isi_dict_bool : isiB "dict" "bool" = some false := by decide
theorem isi_dict_int : isiB "dict" "int" = some false := by decide
theorem isi_dict_str : isiB "dict" "str" = some false := by decide
theorem isi_dict_list : isiB "dict" "list" = some false := by decide
theorem isi_dict_tuple : isiB "dict" "tuple" = some false := by decide
theorem isi_dict_dict : isiB "dict" "dict" = some true := by decide
theorem tyU_n : tyU .non = some "NoneType" := rfl
theorem tyU_b (b : Bool) : tyU (.bl b) = some "bool" := rfl
theorem tyU_i (b : Int) : tyU (.int b) = some "int" := rfl
theorem tyU_s (b : Str) : tyU (.str b) = some "str" := rfl
theorem tyU_l (b : List U) : tyU (.lst b) = some "list" := rfl
theorem tyU_t (b : List U) : tyU (.tup b) = some "tuple" := rfl
theorem rngOk_i (i j : Int) (h1 : -4611686018427387904 ≤ i) (h2 : i < 4611686018427387904) (h3 : -4611686018427387904 ≤ j) (h4 : j < 4611686018427387904) : rngOk i j = true := decide_eq_true ⟨by omega, by omega, by omega, by omega⟩
end Sg
set_option Elab.async false
set_option linter.all false
set_option maxRecDepth 100000
set_option maxHeartbeats 4000000
namespace Sg
open PySem L2
variable {K : PySem.W.Frag}
theorem loopM_inv {g : U → Env → Option Env} {b : Env → Option SO} {kl : List Nat} (I : List U → Env → Prop)
    (step : ∀ u us ρ, I (u :: us) ρ → ∃ ρ1 ρ2, g u ρ = some ρ1 ∧ (b ρ1 = some (.nx ρ2) ∨ b ρ1 = some (.ct ρ2)) ∧ I us (kills ρ2 kl)) :
    ∀ us ρ, I us ρ → ∃ ρ', loopM g b kl us ρ = some (.nx ρ') ∧ I [] ρ'
  | [], ρ, h => ⟨ρ, rfl, h⟩
  | u :: us, ρ, h => by
    obtain ⟨ρ1, ρ2, e1, e2, h2⟩ := step u us ρ h
    obtain ⟨ρ', e3, h3⟩ := loopM_inv I step us _ h2
    refine ⟨ρ', ?_, h3⟩
    unfold loopM
    rcases e2 with e2 | e2 <;> simp only [e1, e2, e3]
theorem lcM_inv {g : U → Env → Option Env} {tt : Env → Option TOu} {e : Env → Option EO} {vs : List Nat} (I : List U → List U → Env → Prop)
    (step : ∀ u us acc ρ, I (u :: us) acc ρ → ∃ ρ1, g u ρ = some ρ1 ∧ ((∃ ρ2, tt ρ1 = some (.ok false ρ2) ∧ I us acc (kills ρ2 vs)) ∨
      ∃ ρ2 w ρ3, tt ρ1 = some (.ok true ρ2) ∧ e ρ2 = some (.ok w ρ3) ∧ acc.length < 16777216 ∧ I us (acc ++ [w]) (kills ρ3 vs))) :
    ∀ us acc ρ, I us acc ρ → ∃ acc' ρ', lcM g tt e vs us acc ρ = some (.ok acc' ρ') ∧ I [] acc' ρ'
  | [], acc, ρ, h => ⟨acc, ρ, rfl, h⟩
  | u :: us, acc, ρ, h => by
    obtain ⟨ρ1, e1, h1⟩ := step u us acc ρ h
    rcases h1 with ⟨ρ2, e2, h2⟩ | ⟨ρ2, w, ρ3, e2, e3, hl, h2⟩
    · obtain ⟨acc', ρ', e4, h4⟩ := lcM_inv I step us _ _ h2
      exact ⟨acc', ρ', by unfold lcM; simp only [e1, e2, e4], h4⟩
    · obtain ⟨acc', ρ', e4, h4⟩ := lcM_inv I step us _ _ h2
      exact ⟨acc', ρ', by unfold lcM; simp only [e1, e2, e3, e4, hl, if_true], h4⟩
theorem lcM_all {α : Type} {g : U → Env → Option Env} {tt : Env → Option TOu} {e : Env → Option EO} {vs : List Nat} {ρ : Env} (r : α → U) (f : α → U) (xs : List α) (hl : xs.length ≤ 16777216)
    (h : ∀ x ∈ xs, ∃ ρ1 ρ2 ρ3, g (r x) ρ = some ρ1 ∧ tt ρ1 = some (.ok true ρ2) ∧ e ρ2 = some (.ok (f x) ρ3) ∧ kills ρ3 vs = ρ) :
    lcM g tt e vs (xs.map r) [] ρ = some (.ok (xs.map f) ρ) := by
  have : ∀ (xs : List α) acc, acc.length + xs.length ≤ 16777216 → (∀ x ∈ xs, ∃ ρ1 ρ2 ρ3, g (r x) ρ = some ρ1 ∧ tt ρ1 = some (.ok true ρ2) ∧ e ρ2 = some (.ok (f x) ρ3) ∧ kills ρ3 vs = ρ) →
      lcM g tt e vs (xs.map r) acc ρ = some (.ok (acc ++ xs.map f) ρ) := by
    intro xs
    induction xs with
    | nil => intro acc _ _; simp [lcM]
    | cons x xs ih =>
      intro acc hl h
      obtain ⟨ρ1, ρ2, ρ3, e1, e2, e3, hk⟩ := h x List.mem_cons_self
      rw [List.length_cons] at hl
      have i2 := ih (acc ++ [f x]) (by rw [List.length_append, List.length_singleton]; omega) fun v hv => h v (List.mem_cons_of_mem _ hv)
      have hl2 : acc.length < 16777216 := by omega
      rw [List.map_cons, List.map_cons]
      unfold lcM
      simp only [e1, e2, e3, hk, i2, hl2, if_true, List.append_assoc, List.singleton_append]
  have z := this xs [] (by simpa using hl) h
  simpa using z
theorem zipU_map {α β : Type} (r : α → U) (s : β → U) : ∀ (xs : List α) (ys : List β), zipU (xs.map r) (ys.map s) = (xs.zip ys).map fun p => .tup [r p.1, s p.2]
  | [], _ => rfl
  | _ :: _, [] => rfl
  | x :: xs, y :: ys => by
    show U.tup [r x, s y] :: zipU (xs.map r) (ys.map s) = _
    rw [zipU_map r s xs ys]
    rfl
theorem intsU_map : ∀ is : List Int, intsU (is.map U.int) = some is
  | [] => rfl
  | i :: is => by
    show (intsU (is.map U.int)).map (fun js => i :: js) = _
    rw [intsU_map is]
    rfl
theorem blsU_map : ∀ is : List Bool, blsU (is.map U.bl) = some is
  | [] => rfl
  | i :: is => by
    show (blsU (is.map U.bl)).map (fun js => i :: js) = _
    rw [blsU_map is]
    rfl
theorem oAll_l (bs : List Bool) : (oAll (K := K)).f [.lst (bs.map U.bl)] = some (.bl (bs.all id)) := by
  show (blsU (bs.map U.bl)).map _ = _
  rw [blsU_map]
  rfl
theorem oSum_l (is : List Int) : (oSum (K := K)).f [.lst (is.map U.int)] = some (.int is.sum) := by
  show (intsU (is.map U.int)).map _ = _
  rw [intsU_map]
  rfl
theorem rangeU_map (lo : Int) (n : Nat) : rangeU lo n = (List.range n).map fun i => U.int (lo + (i : Nat)) := rfl
theorem atI_get' {us : List U} {i : Int} {u : U} (h0 : 0 ≤ i) (h : us[i.toNat]? = some u) : atI us i = some u := by
  have e : i = ((i.toNat : Nat) : Int) := (Int.toNat_of_nonneg h0).symm
  rw [e]
  exact atI_nat h
theorem atI_map {α : Type} (r : α → U) {xs : List α} {i : Int} (h0 : 0 ≤ i) (h1 : i < xs.length) : ∃ x ∈ xs, xs[i.toNat]? = some x ∧ atI (xs.map r) i = some (r x) := by
  have hl : i.toNat < xs.length := by omega
  refine ⟨xs[i.toNat], List.getElem_mem hl, List.getElem?_eq_getElem hl, atI_get' h0 ?_⟩
  rw [List.getElem?_map, List.getElem?_eq_getElem hl]
  rfl
theorem cutU_from (us : List U) (i : Int) (h : 0 ≤ i) : cutU us (some i) none = us.drop i.toNat := by
  have e : i = ((i.toNat : Nat) : Int) := (Int.toNat_of_nonneg h).symm
  unfold cutU
  rw [e, HT.sIx_nat, HT.sIx_none, Int.toNat_natCast]
  by_cases c : i.toNat ≤ us.length
  · rw [Nat.min_eq_left c, List.take_of_length_le (by rw [List.length_drop]; exact Nat.le_refl _)]
  · rw [Nat.min_eq_right (by omega), List.drop_of_length_le (Nat.le_refl _), List.drop_of_length_le (by omega)]
    simp
theorem cutU_1 (us : List U) : cutU us (some 1) none = us.drop 1 := cutU_from us 1 (by decide)
theorem cutU_m1 (us : List U) : cutU us none (some (-1)) = us.dropLast := by
  unfold cutU
  rw [HT.sIx_none]
  show (us.drop 0).take ((-1 + (us.length : Int)).toNat - 0) = _
  rw [List.drop_zero, List.dropLast_eq_take]
  congr 1
  omega
theorem drop_map {α : Type} (r : α → U) (xs : List α) (n : Nat) : (xs.map r).drop n = (xs.drop n).map r := (List.map_drop).symm
theorem reverse_map {α : Type} (r : α → U) (xs : List α) : (xs.map r).reverse = xs.reverse.map r := (List.map_reverse).symm
theorem length_map' {α : Type} (r : α → U) (xs : List α) : ((xs.map r).length : Int) = (xs.length : Int) := by rw [List.length_map]
theorem dropLast_map {α : Type} (r : α → U) (xs : List α) : (xs.map r).dropLast = xs.dropLast.map r := (List.map_dropLast).symm
end Sg
set_option Elab.async false
set_option linter.all false
set_option maxRecDepth 100000
set_option maxHeartbeats 4000000
namespace Sg
open PySem L2
variable {K : PySem.W.Frag}
structure EqT {α : Type} [DecidableEq α] (r : α → U) (k : Nat) where
  d : α → PyData
  p : ∀ x, pd (r x) = some (d x)
  c : ∀ x, (d x).canLay0 = true
  t : ∀ x, (d x).depth ≤ k
  q : ∀ x y, PyData.eqv (d x) (d y) = decide (x = y)
section
variable {α β γ : Type} [DecidableEq α] [DecidableEq β] [DecidableEq γ] {r : α → U} {s : β → U} {o : γ → U} {k k' k2 : Nat}
def eqInt : EqT U.int 0 where
  d := .int
  p _ := rfl
  c _ := by simp [PyData.canLay0]
  t _ := by simp [PyData.depth]
  q x y := by simp only [PyData.eqv]; by_cases h : x = y <;> simp [h]
def eqBl : EqT U.bl 0 where
  d := .bool
  p _ := rfl
  c _ := by simp [PyData.canLay0]
  t _ := by simp [PyData.depth]
  q x y := by simp only [PyData.eqv]; cases x <;> cases y <;> decide
theorem pdL_map (e : EqT r k) : ∀ xs : List α, pdL (xs.map r) = some (xs.map e.d)
  | [] => rfl
  | x :: xs => by
    show (pd (r x)).bind _ = _
    rw [e.p, Option.bind_some, pdL_map e xs]
    rfl
theorem canAll_map (e : EqT r k) : ∀ xs : List α, PyData.canLayAll0 (xs.map e.d) = true
  | [] => rfl
  | x :: xs => by rw [List.map_cons, PyData.canLayAll0, e.c, canAll_map e xs]; rfl
theorem depthAll_map (e : EqT r k) : ∀ xs : List α, PyData.depthAll (xs.map e.d) ≤ k
  | [] => by rw [List.map_nil, PyData.depthAll]; omega
  | x :: xs => by
    rw [List.map_cons, PyData.depthAll]
    have := e.t x
    have := depthAll_map e xs
    omega
theorem eqvAll_map (e : EqT r k) : ∀ xs ys : List α, PyData.eqvAll (xs.map e.d) (ys.map e.d) = decide (xs = ys)
  | [], [] => by simp [PyData.eqvAll]
  | [], y :: ys => by simp [PyData.eqvAll]
  | x :: xs, [] => by simp [PyData.eqvAll]
  | x :: xs, y :: ys => by
    rw [List.map_cons, List.map_cons, PyData.eqvAll, e.q, eqvAll_map e xs ys]
    by_cases h1 : x = y <;> by_cases h2 : xs = ys <;> simp [h1, h2]
def eqLst (e : EqT r k) : EqT (fun xs : List α => U.lst (xs.map r)) (k + 1) where
  d xs := .list (xs.map e.d)
  p xs := by show (pdL (xs.map r)).map _ = _; rw [pdL_map e]; rfl
  c xs := by rw [PyData.canLay0]; exact canAll_map e xs
  t xs := by rw [PyData.depth]; have := depthAll_map e xs; omega
  q xs ys := by rw [PyData.eqv]; exact eqvAll_map e xs ys
def eqTup2 (e : EqT r k) (f : EqT s k') (h1 : k ≤ k2) (h2 : k' ≤ k2) : EqT (fun p : α × β => U.tup [r p.1, s p.2]) (k2 + 1) where
  d p := .tuple [e.d p.1, f.d p.2]
  p x := by show (pdL [r x.1, s x.2]).map _ = _; simp only [pdL, e.p, f.p, Option.bind_some, Option.map_some]
  c x := by rw [PyData.canLay0]; simp only [PyData.canLayAll0, e.c, f.c, Bool.and_self]
  t x := by rw [PyData.depth]; simp only [PyData.depthAll]; have := e.t x.1; have := f.t x.2; omega
  q x y := by
    obtain ⟨x1, x2⟩ := x
    obtain ⟨y1, y2⟩ := y
    rw [PyData.eqv]
    simp only [PyData.eqvAll, e.q, f.q, Bool.and_true]
    by_cases h1 : x1 = y1 <;> by_cases h2 : x2 = y2 <;> simp [h1, h2]
def eqTup3 (e : EqT r k) (f : EqT s k) (g : EqT o k) : EqT (fun p : α × β × γ => U.tup [r p.1, s p.2.1, o p.2.2]) (k + 1) where
  d p := .tuple [e.d p.1, f.d p.2.1, g.d p.2.2]
  p x := by show (pdL [r x.1, s x.2.1, o x.2.2]).map _ = _; simp only [pdL, e.p, f.p, g.p, Option.bind_some, Option.map_some]
  c x := by rw [PyData.canLay0]; simp only [PyData.canLayAll0, e.c, f.c, g.c, Bool.and_self]
  t x := by rw [PyData.depth]; simp only [PyData.depthAll]; have := e.t x.1; have := f.t x.2.1; have := g.t x.2.2; omega
  q x y := by
    obtain ⟨x1, x2, x3⟩ := x
    obtain ⟨y1, y2, y3⟩ := y
    rw [PyData.eqv]
    simp only [PyData.eqvAll, e.q, f.q, g.q, Bool.and_true]
    by_cases h1 : x1 = y1 <;> by_cases h2 : x2 = y2 <;> by_cases h3 : x3 = y3 <;> simp [h1, h2, h3]
theorem EqT.shaped (e : EqT r k) (hk : k ≤ 64) (x : α) : SeqAt.shaped (e.d x) = true := by
  unfold SeqAt.shaped
  rw [e.c, Bool.true_and]
  exact decide_eq_true (Nat.le_trans (e.t x) hk)
theorem EqT.eq (e : EqT r k) (hk : k ≤ 64) (x y : α) : eqU (r x) (r y) = some (decide (x = y)) := by
  unfold eqU
  rw [e.p, e.p, Option.bind_some, Option.bind_some, if_pos ⟨e.shaped hk x, e.shaped hk y⟩, e.q]
theorem eqU_nl (e : EqT r k) (hk : k + 1 ≤ 64) (xs : List α) : eqU .non (.lst (xs.map r)) = some false := by
  have h := (eqLst e).shaped hk xs
  have p := (eqLst e).p xs
  unfold eqU
  rw [show pd (.lst (xs.map r)) = some ((eqLst e).d xs) from p, show pd .non = some .none from rfl, Option.bind_some, Option.bind_some, if_pos ⟨by decide, h⟩]
  show some (PyData.eqv .none (.list _)) = _
  rw [PyData.eqv]
theorem eqU_ln (e : EqT r k) (hk : k + 1 ≤ 64) (xs : List α) : eqU (.lst (xs.map r)) .non = some false := by
  have h := (eqLst e).shaped hk xs
  have p := (eqLst e).p xs
  unfold eqU
  rw [show pd (.lst (xs.map r)) = some ((eqLst e).d xs) from p, show pd .non = some .none from rfl, Option.bind_some, Option.bind_some, if_pos ⟨h, by decide⟩]
  show some (PyData.eqv (.list _) .none) = _
  rw [PyData.eqv]
end
theorem oEq_u (u v : U) (b : Bool) (h : eqU u v = some b) : (oEq (K := K)).f u v = some (.bl b) := by
  show (eqU u v).map _ = _
  rw [h]; rfl
theorem oNe_u (u v : U) (b : Bool) (h : eqU u v = some b) : (oNe (K := K)).f u v = some (.bl (!b)) := by
  show (eqU u v).map _ = _
  rw [h]; rfl
theorem oEq_i (i j : Int) : (oEq (K := K)).f (.int i) (.int j) = some (.bl (decide (i = j))) := oEq_u _ _ _ (eqInt.eq (by decide) i j)
theorem oNe_i (i j : Int) : (oNe (K := K)).f (.int i) (.int j) = some (.bl (!decide (i = j))) := oNe_u _ _ _ (eqInt.eq (by decide) i j)
theorem oEq_b (i j : Bool) : (oEq (K := K)).f (.bl i) (.bl j) = some (.bl (decide (i = j))) := oEq_u _ _ _ (eqBl.eq (by decide) i j)
theorem oNe_b (i j : Bool) : (oNe (K := K)).f (.bl i) (.bl j) = some (.bl (!decide (i = j))) := oNe_u _ _ _ (eqBl.eq (by decide) i j)
theorem oEq_nn : (oEq (K := K)).f .non .non = some (.bl true) := rfl
theorem oNe_nn : (oNe (K := K)).f .non .non = some (.bl false) := rfl
abbrev pU (p : Int × Int) : U := .tup [.int p.1, .int p.2]
abbrev tU (t : Int × Int × Int) : U := .tup [.int t.1, .int t.2.1, .int t.2.2]
def eqP : EqT pU 1 := eqTup2 eqInt eqInt (Nat.le_refl _) (Nat.le_refl _)
def eqTr : EqT tU 1 := eqTup3 eqInt eqInt eqInt
theorem oEq_tt (xs ys : List (Int × Int × Int)) : (oEq (K := K)).f (.lst (xs.map tU)) (.lst (ys.map tU)) = some (.bl (decide (xs = ys))) := oEq_u _ _ _ ((eqLst eqTr).eq (by decide) xs ys)
theorem oNe_tt (xs ys : List (Int × Int × Int)) : (oNe (K := K)).f (.lst (xs.map tU)) (.lst (ys.map tU)) = some (.bl (!decide (xs = ys))) := oNe_u _ _ _ ((eqLst eqTr).eq (by decide) xs ys)
theorem oEq_tn (xs : List (Int × Int × Int)) : (oEq (K := K)).f (.lst (xs.map tU)) .non = some (.bl false) := oEq_u _ _ _ (eqU_ln eqTr (by decide) xs)
theorem oNe_tn (xs : List (Int × Int × Int)) : (oNe (K := K)).f (.lst (xs.map tU)) .non = some (.bl true) := oNe_u _ _ _ (eqU_ln eqTr (by decide) xs)
theorem oEq_nt (xs : List (Int × Int × Int)) : (oEq (K := K)).f .non (.lst (xs.map tU)) = some (.bl false) := oEq_u _ _ _ (eqU_nl eqTr (by decide) xs)
theorem oNe_nt (xs : List (Int × Int × Int)) : (oNe (K := K)).f .non (.lst (xs.map tU)) = some (.bl true) := oNe_u _ _ _ (eqU_nl eqTr (by decide) xs)
theorem oEq_pp (xs ys : List (Int × Int)) : (oEq (K := K)).f (.lst (xs.map pU)) (.lst (ys.map pU)) = some (.bl (decide (xs = ys))) := oEq_u _ _ _ ((eqLst eqP).eq (by decide) xs ys)
theorem oNe_pp (xs ys : List (Int × Int)) : (oNe (K := K)).f (.lst (xs.map pU)) (.lst (ys.map pU)) = some (.bl (!decide (xs = ys))) := oNe_u _ _ _ ((eqLst eqP).eq (by decide) xs ys)
theorem oEq_ii (xs ys : List Int) : (oEq (K := K)).f (.lst (xs.map U.int)) (.lst (ys.map U.int)) = some (.bl (decide (xs = ys))) := oEq_u _ _ _ ((eqLst eqInt).eq (by decide) xs ys)
theorem oNe_ii (xs ys : List Int) : (oNe (K := K)).f (.lst (xs.map U.int)) (.lst (ys.map U.int)) = some (.bl (!decide (xs = ys))) := oNe_u _ _ _ ((eqLst eqInt).eq (by decide) xs ys)
theorem oEq_s (a b : Str) (ha : (PyData.str a).canLay0 = true) (hb : (PyData.str b).canLay0 = true) : (oEq (K := K)).f (.str a) (.str b) = some (.bl (decide (a = b))) := by
  refine oEq_u _ _ _ ?_
  unfold eqU
  have h1 : SeqAt.shaped (PyData.str a) = true := by unfold SeqAt.shaped; rw [ha, Bool.true_and]; exact decide_eq_true (by rw [PyData.depth]; omega)
  have h2 : SeqAt.shaped (PyData.str b) = true := by unfold SeqAt.shaped; rw [hb, Bool.true_and]; exact decide_eq_true (by rw [PyData.depth]; omega)
  rw [show pd (.str a) = some (.str a) from rfl, show pd (.str b) = some (.str b) from rfl, Option.bind_some, Option.bind_some, if_pos ⟨h1, h2⟩, PyData.eqv]
  by_cases h : a = b <;> simp [h]
end Sg
set_option Elab.async false
set_option linter.all false
set_option maxRecDepth 100000
set_option maxHeartbeats 4000000
namespace Sg
open PySem L2
end Sg
namespace Sg
open PySem L2
end Sg
set_option Elab.async false
set_option linter.all false
set_option maxRecDepth 100000
set_option maxHeartbeats 1000000
namespace Sg
open PySem L2
variable {K : PySem.W.Frag}
theorem nat_log62 {n : Nat} (h : n < 100000000000000000000000000000000000000000000000000000000000000) : n.log2 < 210 := by
  by_cases z : n = 0
  · rw [z]; decide
  · exact (Nat.log2_lt z).mpr (Nat.lt_of_lt_of_le h (by decide +kernel))
theorem oMul_s (i j : Int) (h1 : -100000000000000000000000000000000000000000000000000000000000000 < i) (h2 : i < 100000000000000000000000000000000000000000000000000000000000000) (h3 : -100000000000000000000000000000000000000000000000000000000000000 < j) (h4 : j < 100000000000000000000000000000000000000000000000000000000000000) : (oMul (K := K)).f (.int i) (.int j) = some (.int (i * j)) := by
  refine if_pos (.inr ?_)
  have a : i.natAbs < 100000000000000000000000000000000000000000000000000000000000000 := by omega
  have b : j.natAbs < 100000000000000000000000000000000000000000000000000000000000000 := by omega
  have la := nat_log62 a
  have lb := nat_log62 b
  show (Builtin.Int.intBits i : Int) + (Builtin.Int.intBits j : Int) ≤ 134217728
  have bits : ∀ k : Int, k.natAbs.log2 < 210 → (Builtin.Int.intBits k : Int) ≤ 211 := fun k hk => by
    unfold Builtin.Int.intBits
    split <;> omega
  have := bits i la
  have := bits j lb
  omega
end Sg
set_option Elab.async false
set_option linter.all false
set_option maxRecDepth 100000
set_option maxHeartbeats 4000000
namespace Sg
open PySem L2 RZ
end Sg
set_option Elab.async false
set_option linter.all false
set_option maxRecDepth 100000
set_option maxHeartbeats 4000000
namespace Sg
open PySem L2 PySem.Calls PySem.Spec PyProof.Rows
section
variable {M : Model} {A : Around} {E : Value → Shared → Prop} {s : Shared}
theorem sk_args {f : Value} {x : Sem Value} {pos : Pos} {kws : List (Option Str × Sem Value)} {Q : Args → Shared → Prop} (hall : kws.all (·.1.isSome) = true)
    (h : wpAny M A x (fun v s1 => wpAny M A (evalAll (kws.map (·.2))) (fun ks s2 => PySem.W.StarOf M A E v (fun vs s3 => Q ⟨vs, (kws.filterMap (·.1)).zip ks⟩ s3) s2) E s1) E s) :
    wpAny M A (evalArgs f true [(true, (do let v ← x; standAt pos; pure v))] kws) Q E s := by
  unfold evalArgs
  refine wpAny_bind (wpAny_bind (wpAny_mono h (fun v s1 h1 => wpAny_bind (wpAny_standAt (wpAny_pure (wpAny_bind (wpAny_pure ?_))))) fun _ _ z => z))
  refine wpAny_holding ?_
  simp only [hall, if_true]
  refine wpAny_bind (wpAny_mono h1 (fun ks s2 h2 => ?_) fun _ _ z => z)
  unfold PySem.W.StarOf at h2
  refine wpAny_bind (wpAny_bind (wpAny_mono h2 (fun b s3 h3 => ?_) fun _ _ z => z))
  obtain ⟨rfl, h3⟩ := h3
  simp only [Bool.false_eq_true, if_false]
  exact wpAny_holding (wpAny_mono h3 (fun vs s4 h4 => wpAny_pure h4) fun _ _ z => z)
end
section
variable {M : Model} {A : Around} {E : Value → Shared → Prop} {s : Shared} {K : PySem.W.Frag}
theorem sk_call {P : Heap → Prop} {f : Value} {first : List Value} {pos : Pos} {Q : Value → Shared → Prop} {args : List (Bool × Sem Value)} {kws : List (Option Str × Sem Value)} (hst : args.any (·.1) = true)
    (hk : ∀ h, P h → ∃ k, (k = Keeper.frame ∨ k = Keeper.machine ∨ k = Keeper.boundFrame) ∧ PySem.W.Looks M h (keeperOf f) k)
    (h : wpAny M A (evalArgs f true args kws) (fun a s₁ => P s₁.heap ∧ wpAny M A (call f (first ++ a.pos) a.kw) Q E s₁) E s) : wpAny M A (callWith pos f first args kws) Q E s := by
  unfold callWith
  refine wpAny_bind (wpAny_holding (wpAny_mono h (fun a s₁ h₁ => wpAny_bind (wpAny_standAt ?_)) fun _ _ x => x))
  obtain ⟨k, hk', L⟩ := hk _ h₁.1
  simp only [hst, Bool.true_or]
  refine wpAny_bind (L.here ?_)
  have tail : ∀ {t : Sem Value}, wpAny M A t Q E s₁ → wpAny M A (t >>= fun r => holding [r] point >>= fun _ => pure r) Q E s₁ :=
    fun ht => wpAny_bind (wpAny_mono ht (fun r s₂ hr => wpAny_bind (wpAny_holding (wpAny_point (wpAny_pure hr)))) fun _ _ x => x)
  have marked (mk : Value) : wpAny M A (callMarked mk f (first ++ a.pos) a.kw) Q E s₁ := by unfold callMarked; exact Calls.wpAny_keep h₁.2
  rcases hk' with rfl | rfl | rfl <;> dsimp only <;> first | exact tail (marked _) | exact tail (wpAny_operating h₁.2)
theorem callWith_SK {env : PySem.Env} {pos p : Pos} {f : Value} {first : List Value} {Q : Value → Shared → Prop} {h₀ : Heap} {e : Expr} {kws : List Keyword} (_X : K.In h₀) (hk : PySem.W.keepIn K f = true) (hall : (backToKw pos (keywordEach kws env)).all (·.1.isSome) = true)
    (h : wpAny M A (eval e env) (fun v s1 => wpAny M A (evalAll ((backToKw pos (keywordEach kws env)).map (·.2))) (fun ks s2 => PySem.W.StarOf M A E v (fun vs s3 => K.In s3.heap ∧ wpAny M A (call f (first ++ vs) (((backToKw pos (keywordEach kws env)).filterMap (·.1)).zip ks)) Q E s3) s2) E s1) E s)
    (he : starEach [.Starred e p] env = [(true, eval e env)] := by rfl) :
    wpAny M A (callWith pos f first (backTo pos (starEach [.Starred e p] env)) (backToKw pos (keywordEach kws env))) Q E s := by
  rw [he]
  exact sk_call rfl (PySem.W.keeps_K hk) (sk_args hall h)
end
def FnV (P : Program) (w : World) (K : PySem.W.Frag) (mg : Str → Option Value) (base : Heap) (CX : CXT) (k : Nat) (f : Addr) (kw : Str) (sp : V → V → List V → Hp → VK → XK → Prop) : Prop :=
  ∀ (A : Around) (outer : List PySem.Env) (s : Shared) (H : Hp) (a r : Value) (us : List Value) (va vr : V) (vs : List V) (Q : VK) (E : XK), Room k A → Env0 P w K mg base A outer s H → RelV va a → RelV vr r → Vals vs us → vs.length ≤ sizeLine → sp va vr vs H Q E →
    codeAny (model P w) A (.call (.ref f) ⟨a :: us, [(kw, r)]⟩) (CR CX outer P w H s Q E) s
def FnV0 (P : Program) (w : World) (K : PySem.W.Frag) (mg : Str → Option Value) (base : Heap) (CX : CXT) (k : Nat) (f : Addr) (d : V) (sp : V → V → List V → Hp → VK → XK → Prop) : Prop :=
  ∀ (A : Around) (outer : List PySem.Env) (s : Shared) (H : Hp) (a : Value) (us : List Value) (va : V) (vs : List V) (Q : VK) (E : XK), Room k A → Env0 P w K mg base A outer s H → RelV va a → Vals vs us → vs.length ≤ sizeLine → sp va d vs H Q E →
    codeAny (model P w) A (.call (.ref f) ⟨a :: us, []⟩) (CR CX outer P w H s Q E) s
def spT (sp : V → V → V → List V → Hp → VK → XK → Prop) : V → V → List V → Hp → VK → XK → Prop := fun va vr vs H Q E => ∀ p, H p = none → sp va vr (.ref p) vs (upd H p (.tup vs)) Q E
section
variable {CX : CXT} {P : Program} {w : World} {K : PySem.W.Frag} {mg : Str → Option Value} {base : Heap} {k : Nat} {f : Addr} {x qual p1 pv kw : Str} {st : Stmt} {fd : FuncData} {N : List Str} {sp : V → V → V → List V → Hp → VK → XK → Prop}
theorem fn_V (F : Fun K x qual st f fd) (S : FnScope N [p1, kw, pv] (defScope st)) (hCX : StX.CXUp CX)
    (h0 : ∀ (kV doc pm : Value) (an : Option Addr) (cdv ct a r : Value), bindArgs (PySem.W.fnOf x qual (defArgs st) (defBody st) (defScope st) .none kV doc pm an cdv ct) ⟨[a], [(kw, r)]⟩ = (newTuple [] >>= fun t => pure [(p1, a), (kw, r), (pv, t)]))
    (h1 : ∀ (kV doc pm : Value) (an : Option Addr) (cdv ct a r y : Value) (ys : List Value), bindArgs (PySem.W.fnOf x qual (defArgs st) (defBody st) (defScope st) .none kV doc pm an cdv ct) ⟨a :: y :: ys, [(kw, r)]⟩ = (newTuple (y :: ys) >>= fun t => pure [(p1, a), (kw, r), (pv, t)]))
    (hbody : ∀ (cdv : Value) (A : Around) (outer : List PySem.Env) (s : Shared) (H : Hp) (va vr vt : V) (vs : List V) (Q : VK) (E : XK), Room k (A.deeper (envOfC qual (defScope st) s.heap.objs.size f cdv)) → sp va vr vt vs H Q E →
      ∃ t, PSs (cxOf CX P w K mg base N qual (defScope st) f cdv A outer s H E) (defBody st) t ∧ t { nx := fun _ H' => Q .non H', rt := Q } (L2.start N [va, vr, vt]) H) :
    FnV P w K mg base CX (k + 1) f kw (spT sp) := by
  obtain ⟨oc, od, kV, doc, pm, an, cdv, ct, osl, rfl, lk, hcd⟩ := F.ex
  intro A outer s H a r us va vr vs Q E hr e0 ra rr rv hz hq
  have hn : H s.heap.objs.size = Option.none := e0.hok.fresh (Nat.le_refl _)
  have hl2 : us.length ≤ sizeLine := by rw [← rv.length]; exact hz
  have hb : bindArgs (PySem.W.fnOf x qual (defArgs st) (defBody st) (defScope st) .none kV doc pm an cdv ct) ⟨a :: us, [(kw, r)]⟩ = (newTuple us >>= fun t => pure [(p1, a), (kw, r), (pv, t)]) := by
    cases us with
    | nil => exact h0 kV doc pm an cdv ct a r
    | cons y ys => exact h1 kV doc pm an cdv ct a r y ys
  refine StX.run_bnd lk hcd S hr e0 (G := fun xs H2 => ∃ p, H p = Option.none ∧ xs = [va, vr, V.ref p] ∧ H2 = upd H p (.tup vs)) (fun A' Ex Q' h => ?_) fun s2 H2 xs ⟨p, hp, ex, eH⟩ hr' => ?_
  · rw [hb]
    refine wpAny_bind (wpAny_newTuple (wpAny_pure ?_) hl2)
    have new : ObjOk P w (upd H s.heap.objs.size (.tup vs)) (s.heap.push ({ cls := .type "tuple", data := .seq us.toArray } : Obj)) s.heap.objs.size (.tup vs) := ⟨hz, us, rv, ⟨_, Heap.get?_push_size _ rfl, rfl, _, rfl⟩⟩
    have un := StX.un_laid (fs := frs outer) (s := s) (o := ({ cls := .type "tuple", data := .seq us.toArray } : Obj)) (u := .tup vs) hn
    have z := h _ _ [va, vr, V.ref s.heap.objs.size] [a, r, Value.ref s.heap.objs.size] (StX.env0_laid e0 new) un rfl (fun e s' => hCX outer s H _ _ E e s' un (fun b o q => Heap.get?_push_of_some _ q) rfl) (.cons ra (.cons rr (.cons rfl .nil)))
      rfl ⟨_, hn, rfl, rfl⟩
    exact z
  · subst ex eH
    exact hbody cdv A outer s2 _ va vr (.ref p) vs Q E hr' (hq p hp)
end
end Sg
set_option Elab.async false
set_option linter.all false
set_option maxRecDepth 100000
set_option maxHeartbeats 4000000
namespace Sg
open PySem L2
variable {K : PySem.W.Frag}
inductive IN where
  | nx (fs : List (Str × U)) (ρ : Env)
  | ex (e : Exn) (ρ : Env)
inductive IR where
  | ok (fs : List (Str × U))
  | ex (e : Exn)
def putU (f : Str) (u : U) : List (Str × U) → List (Str × U)
  | [] => [(f, u)]
  | (g, x) :: r => if g = f then (g, u) :: r else (g, x) :: putU f u r
theorem RepF.put {B : Hp} {f : Str} {u : U} {v : V} (q : Rep K B u v) : ∀ {fs : List (Str × U)} {ws : List (Str × V)}, RepF K B fs ws → RepF K B (putU f u fs) (putF f v ws)
  | [], _, h => by cases h; exact ⟨v, [], rfl, q, rfl⟩
  | (g, x) :: r, _, h => by
    obtain ⟨w, ws, rfl, h1, h2⟩ := h
    unfold putU putF
    by_cases c : g = f
    · rw [if_pos c, if_pos c]; exact ⟨v, ws, rfl, q, h2⟩
    · rw [if_neg c, if_neg c]; exact ⟨w, _, rfl, h1, RepF.put q h2⟩
theorem RepF.length {B : Hp} : ∀ {fs : List (Str × U)} {ws : List (Str × V)}, RepF K B fs ws → ws.length = fs.length
  | [], _, h => by cases h; rfl
  | (g, x) :: r, _, h => by
    obtain ⟨w, ws, rfl, h1, h2⟩ := h
    simp [RepF.length h2]
def FinN (K : PySem.W.Frag) (F : Fc) (W : WX) (c : Str) (x dx : Addr) (D : Ends) (B : Hp) : IN → Prop
  | .nx fs ρ' => ∀ σ' B' H' ws, Ex B B' → Rel K (F.push x (.ins (He.ga K c) dx ws)) ρ' σ' B' H' → RepF K B' fs ws → D.nx σ' H'
  | .ex e ρ' => ∀ cls d σ' B' H' ws, Ex B B' → Rel K (F.push x (.ins (He.ga K c) dx ws)) ρ' σ' B' H' → XRel K F e cls d H' → W cls d σ' H'
theorem FinN.mono {F : Fc} {W : WX} {c : Str} {x dx : Addr} {D : Ends} {B B1 : Hp} {o : IN} (b : Ex B B1) (f : FinN K F W c x dx D B o) : FinN K F W c x dx D B1 o := by
  cases o with
  | nx fs ρ' => exact fun σ' B' H' ws x1 R r => f σ' B' H' ws (b.trans x1) R r
  | ex e ρ' => exact fun cls d σ' B' H' ws x1 R r => f cls d σ' B' H' ws (b.trans x1) R r
structure MN (K : PySem.W.Frag) where
  fl : List Str
  t : WX → TS
  m : Addr → Env → List (Str × U) → Option IN
  ok : ∀ (c : Str) (F : Fc) (W : WX) (ρ : Env) (σ : St) (B H : Hp) (D : Ends) (x dx : Addr) (fs : List (Str × U)) (ws : List (Str × V)) (o : IN), Cls K (He.ga K c) → (∀ f ∈ fl, NoAttr K (He.ga K c) f) → m x ρ fs = some o →
    Rel K (F.push x (.ins (He.ga K c) dx ws)) ρ σ B H → RepF K B fs ws → FinN K F W c x dx D B o → t W D σ H
def at0 (x : Addr) (ρ : Env) : Bool := match ρ[(0 : Nat)]? with
  | some (.val (.ref y)) => decide (y = x)
  | _ => false
theorem at0_ok {x : Addr} {ρ : Env} (h : at0 x ρ = true) : ρ[0]? = some (.val (.ref x)) := by
  unfold at0 at h
  split at h
  · rename_i y e; rw [of_decide_eq_true h] at e; exact e
  · cases h
def mnSeq (a b : MN K) : MN K where
  fl := a.fl ++ b.fl
  t := fun W => tSeq (a.t W) (b.t W)
  m := fun x ρ fs => match a.m x ρ fs with
    | some (.nx fs' ρ') => b.m x ρ' fs'
    | o => o
  ok := fun c F W ρ σ B H D x dx fs ws o hc hn q R r f => by
    have ha : ∀ f ∈ a.fl, NoAttr K (He.ga K c) f := fun f h => hn f (List.mem_append_left _ h)
    have hb : ∀ f ∈ b.fl, NoAttr K (He.ga K c) f := fun f h => hn f (List.mem_append_right _ h)
    split at q
    · rename_i fs' ρ' ea
      refine a.ok c F W ρ σ B H _ x dx fs ws _ hc ha ea R r fun σ1 B1 H1 ws1 x1 R1 r1 => ?_
      exact b.ok c F W ρ' σ1 B1 H1 D x dx fs' ws1 o hc hb q R1 r1 (f.mono x1)
    · rename_i hne
      refine a.ok c F W ρ σ B H _ x dx fs ws _ hc ha q R r ?_
      cases o with
      | nx fs' ρ' => exact absurd q (hne _ _)
      | ex e ρ' => exact f
def mnS (S : MS K) : MN K where
  fl := []
  t := S.t
  m := fun _ ρ fs => match S.m ρ with
    | some (.nx ρ') => some (.nx fs ρ')
    | some (.ex e ρ') => some (.ex e ρ')
    | _ => none
  ok := fun c F W ρ σ B H D x dx fs ws o hc hn q R r f => by
    split at q
    · rename_i ρ' es
      cases q
      exact S.ok _ W ρ σ B H D _ es R fun σ' B' H' x1 R1 => f σ' B' H' ws x1 R1 (RepF.mono x1 _ _ r)
    · rename_i e ρ' es
      cases q
      exact S.ok _ W ρ σ B H D _ es R fun cls d σ' B' H' x1 R1 xr => f cls d σ' B' H' ws x1 R1 (XRel.pop xr)
    · cases q
def mnF (f : Str) (e : ME K) (he : e.k = true := by exact id rfl) : MN K where
  fl := [f]
  t := fun W => sFld K (tVar 0) (e.t W) f
  m := fun x ρ fs => match e.m ρ with
    | none => none
    | some (.ex y ρ') => some (.ex y ρ')
    | some (.ok u ρ') => if at0 x ρ' = true ∧ fs.length < 1000 then some (.nx (putU f u fs) ρ') else none
  ok := fun c F W ρ σ B H D x dx fs ws o hc hn q R r fin => by
    show e.t W σ H _
    split at q
    · cases q
    · rename_i y ρ' es
      cases q
      exact e.ok _ W ρ σ B H _ _ es R fun cls d B1 H1 x1 R1 xr => fin cls d σ B1 H1 ws x1 R1 (XRel.pop xr)
    · rename_i u ρ' es
      refine e.ok _ W ρ σ B H _ _ es R fun v B1 H1 x1 p1 R1 r1 => ?_
      rw [he, if_pos rfl] at r1
      split at q
      · rename_i hh
        obtain ⟨h0, hl⟩ := hh
        cases q
        obtain ⟨v0, e0, r0⟩ := R1.sl 0 _ (at0_ok h0)
        obtain rfl : v0 = .ref x := r0
        exact ⟨.ref x, getD_some e0, x, He.ga K c, dx, ws, rfl, R1.getX.1, hc, hn f (List.mem_cons_self), by rw [r.length]; exact hl, fin σ B1 _ (putF f v ws) x1 R1.updX (RepF.put r1 (RepF.mono x1 _ _ r))⟩
      · cases q
def initM (N : MN K) (n : Nat) (x : Addr) (r : U) (us : List U) : Option IR := match N.m x ([.val (.ref x), .val r, .val (.tup us)] ++ List.replicate (n - 3) .non) [] with
  | some (.nx fs _) => some (.ok fs)
  | some (.ex e _) => some (.ex e)
  | none => none
def FinV (K : PySem.W.Frag) (B H0 : Hp) (c : Str) (x dx : Addr) (Q : VK) (E : XK) : IR → Prop
  | .ok fs => ∀ ws B' H', Go [] B H0 B' H' → H' x = some (.ins (He.ga K c) dx ws) → B' x = none → RepF K B' fs ws → Q .non H'
  | .ex e => ∀ cls d B' H', Go [] B H0 B' H' → XRelC K H0 e cls d H' → E cls d H'
def spN (K : PySem.W.Frag) (c : Str) (N : MN K) (n : Nat) : V → V → V → List V → Hp → VK → XK → Prop := fun va vr vt vs H Q E => ∃ (B H0 : Hp) (x dx p : Addr) (r : U) (us : List U) (o : IR),
  va = .ref x ∧ vt = .ref p ∧ H = upd (upd H0 x (.ins (He.ga K c) dx [])) p (.tup vs) ∧ H0 x = none ∧ H0 p = none ∧ p ≠ x ∧ Ex B H0 ∧ Rep K B r vr ∧ RepL K B us vs ∧ initM N n x r us = some o ∧ FinV K B H0 c x dx Q E o
theorem upd_swap {H : Hp} {a b : Addr} {o u : HO} (n : a ≠ b) : upd (upd H a o) b u = upd (upd H b u) a o := by
  funext c
  by_cases h1 : c = a
  · subst h1; rw [upd_ne n, upd_same, upd_same]
  · by_cases h2 : c = b
    · subst h2; rw [upd_same, upd_ne h1, upd_same]
    · rw [upd_ne h2, upd_ne h1, upd_ne h1, upd_ne h2]
theorem XRelC.upd {H0 : Hp} {p : Addr} {o : HO} {e : Exn} {cls : Value} {d : Option Addr} {H' : Hp} (x : XRelC K (upd H0 p o) e cls d H') : XRelC K H0 e cls d H' := by
  obtain ⟨h1, h2⟩ := x
  refine ⟨h1, ?_⟩
  cases q : e.arg with
  | none => rw [q] at h2; exact h2
  | some pq =>
    rw [q] at h2
    obtain ⟨dd, z, h3, h4, h5, h6⟩ := h2
    refine ⟨dd, z, h3, h4, h5, ?_⟩
    by_cases c : dd = p
    · rw [c, upd_same] at h6; cases h6
    · rw [upd_ne c] at h6; exact h6
theorem init_fin {N : List Str} {c : Str} {b : MN K} {va vr vt : V} {vs : List V} {H : Hp} {Q : VK} {E : XK} (hN : 3 ≤ N.length) (hc : Cls K (He.ga K c)) (hn : ∀ f ∈ b.fl, NoAttr K (He.ga K c) f) (h : spN K c b N.length va vr vt vs H Q E) :
    b.t (fun cls d _ H' => E cls d H') { nx := fun _ H' => Q .non H', rt := Q } (L2.start N [va, vr, vt]) H := by
  obtain ⟨B, H0, x, dx, p, r, us, o, rfl, rfl, rfl, hx, hp, px, xb, rr, ru, em, f⟩ := h
  have g1 := Go.newB (o := .tup vs) xb hp
  have hx1 : upd H0 p (.tup vs) x = none := by rw [upd_ne (Ne.symm px)]; exact hx
  have R0 := start_rel (K := K) (as := [.val (.ref x), .val r, .val (.tup us)]) (vs := [.ref x, vr, .ref p]) (N := N) g1.bh
    ⟨.ref x, _, rfl, rfl, vr, _, rfl, Rep.mono g1.bb _ _ rr, .ref p, _, rfl, ⟨p, vs, rfl, .inl (.inl upd_same), RepL.mono g1.bb _ _ ru⟩, rfl⟩ (Nat.zero_le 1) (by exact hN)
  have R1 := R0.addX (o := .ins (He.ga K c) dx []) hx1
  rw [upd_swap (Ne.symm px)]
  unfold initM at em
  have rg : ∀ {ρ' : Env} {σ' : St} {B' H' : Hp} {ws : List (Str × V)}, Rel K (Fc.push ⟨upd B p (.tup vs), upd H0 p (.tup vs), [], [], L2.start N [.ref x, vr, .ref p], []⟩ x (.ins (He.ga K c) dx ws)) ρ' σ' B' H' → Go [] B H0 B' H' := fun R => g1.trans (Rel.go (F := ⟨upd B p (.tup vs), upd H0 p (.tup vs), [], [], L2.start N [.ref x, vr, .ref p], []⟩) rfl rfl R.popX)
  split at em
  · rename_i fs ρ' e1
    cases em
    exact b.ok c ⟨upd B p (.tup vs), upd H0 p (.tup vs), [], [], L2.start N [.ref x, vr, .ref p], []⟩ _ _ _ _ _ _ x dx [] [] _ hc hn e1 R1 rfl fun σ' B' H' ws x1 R r => f ws B' H' (rg R) R.getX.1 R.getX.2.1 r
  · rename_i e ρ' e1
    cases em
    exact b.ok c ⟨upd B p (.tup vs), upd H0 p (.tup vs), [], [], L2.start N [.ref x, vr, .ref p], []⟩ _ _ _ _ _ _ x dx [] [] _ hc hn e1 R1 rfl fun cls d σ' B' H' ws x1 R xr => f cls d B' H' (rg R) (XRelC.upd (XRel.down xr))
  · cases em
section
open PyProof.Rows
variable {P : Program} {w : World} {mg : Str → Option Value} {base : Heap} {k : Nat} {f : Addr} {x qual p1 pv kw c : Str} {st : Stmt} {fd : FuncData} {N : List Str}
theorem fn_init (F : Fun K x qual st f fd) (S : FnScope N [p1, kw, pv] (defScope st)) (b : MN K) (hN : 3 ≤ N.length) (hc : Cls K (He.ga K c)) (hn : ∀ f ∈ b.fl, NoAttr K (He.ga K c) f)
    (h0 : ∀ (kV doc pm : Value) (an : Option Addr) (cdv ct a r : Value), bindArgs (PySem.W.fnOf x qual (defArgs st) (defBody st) (defScope st) .none kV doc pm an cdv ct) ⟨[a], [(kw, r)]⟩ = (newTuple [] >>= fun t => pure [(p1, a), (kw, r), (pv, t)]))
    (h1 : ∀ (kV doc pm : Value) (an : Option Addr) (cdv ct a r y : Value) (ys : List Value), bindArgs (PySem.W.fnOf x qual (defArgs st) (defBody st) (defScope st) .none kV doc pm an cdv ct) ⟨a :: y :: ys, [(kw, r)]⟩ = (newTuple (y :: ys) >>= fun t => pure [(p1, a), (kw, r), (pv, t)]))
    (d : ∀ (cdv : Value) (A : Around) (outer : List PySem.Env) (s : Shared) (H : Hp) (E : XK), Room k (A.deeper (envOfC qual (defScope st) s.heap.objs.size f cdv)) → ∃ t, PSs (cxOf (L2.CX P w) P w K mg base N qual (defScope st) f cdv A outer s H E) (defBody st) t ∧ t = b.t fun cls d _ H => E cls d H) :
    FnV P w K mg base (L2.CX P w) (k + 1) f kw (spT (spN K c b N.length)) :=
  fn_V F S StX.cxUp h0 h1 fun cdv A outer s H va vr vt vs Q E hr h => by
    obtain ⟨t, ht, e⟩ := d cdv A outer s H E hr
    exact ⟨t, ht, by rw [e]; exact init_fin hN hc hn h⟩
end
theorem FnV.mono {P : Program} {w : World} {mg : Str → Option Value} {base : Heap} {CX : CXT} {k j : Nat} {f : Addr} {kw : Str} {sp : V → V → List V → Hp → VK → XK → Prop} (F : FnV P w K mg base CX j f kw sp) (l : j ≤ k) : FnV P w K mg base CX k f kw sp :=
  fun A outer s H a r us va vr vs Q E hr => F A outer s H a r us va vr vs Q E (hr.mono l)
noncomputable def allX (g : Addr → Option IR) : Option IR := open Classical in if ∀ x y, g x = g y then g 0 else none
theorem allX_some {g : Addr → Option IR} {o : IR} (h : allX g = some o) (x : Addr) : g x = some o := by
  unfold allX at h
  split at h
  · rename_i hh; rw [hh x 0]; exact h
  · cases h
theorem allX_const {c : Option IR} : allX (fun _ => c) = c := by
  unfold allX
  rw [if_pos fun _ _ => rfl]
def tMakeS (K : PySem.W.Frag) (c : Str) (sp : V → V → List V → Hp → VK → XK → Prop) (E : St → XK) (te tr : TE) : TE := fun σ H Q => te σ H fun y H1 => tr σ H1 fun z H2 => ∃ a xs, y = .ref a ∧ (SqT K H2 a xs ∨ SqL K H2 a xs) ∧
  ∀ x dx, H2 x = none → H2 dx = none → dx ≠ x → sp (.ref x) z xs (upd (upd H2 dx (.own x)) x (.ins (He.ga K c) dx [])) (fun v H3 => v = .non ∧ Q (.ref x) H3) (E σ)
def tMakeL (K : PySem.W.Frag) (i : Nat) (c : Str) (t : TE) : TE := fun σ H Q => σ[i]? = some (some (.ref (He.ga K c))) ∧ t σ H Q
structure CalI (P : Program) (w : World) (K : PySem.W.Frag) (mg : Str → Option Value) (base : Heap) (k : Nat) (c kw : Str) (N : MN K) (n : Nat) : Prop where
  mg_ : mg c = some (.ref (He.ga K c))
  ok : ∃ f, Mk K (He.ga K c) f ∧ FnV P w K mg base (L2.CX P w) k f kw (spT (spN K c N n))
section
open PyProof.Rows
variable {X : Cx} {W : WX} {k n i : Nat} {x c kw : Str} {N : MN X.K} {e e2 : Expr} {te tr : TE} {p pos sp_ kp : Pos}
theorem run_makeV {C f : Addr} {sp : V → V → List V → Hp → VK → XK → Prop} {pins : List (Addr × Obj)} {σ : L2.St} {H : Hp} {s : Shared} {Q : VK} {E : XK} {us : List Value} {vs : List V} {r : Value} {vr : V} (M : Mk X.K C f) (F : FnV X.prog X.w X.K X.mg X.base (L2.CX X.prog X.w) k f kw sp) (hr : Room (k + 1) X.A) (hx : PassesAt (L2.CX X.prog X.w) X σ E)
    (I : Inv X pins σ H s) (rv : Vals vs us) (hz : vs.length ≤ sizeLine) (rr : RelV vr r)
    (h : ∀ x dx, H x = none → H dx = none → dx ≠ x → sp (.ref x) vr vs (upd (upd H dx (.own x)) x (.ins C dx [])) (fun v H2 => v = .non ∧ Q (.ref x) H2) E) :
    wpAny (model X.prog X.w) X.A (call (.ref C) us [(kw, r)]) (EP X pins σ Q) X.xe s := by
  have hq := h (s.heap.objs.size + 1) s.heap.objs.size (I.hok.fresh (Nat.le_succ _)) (I.hok.fresh (Nat.le_refl _)) (Nat.ne_of_lt (Nat.lt_succ_self _))
  have I2 := Inv.made (C := C) I
  refine wpAny_call (make_map (f := f) I.kIn M.makes M.init (beq_iff_eq.mp M.fn) (codeAny_mono (F _ X.stack _ _ (Value.ref (s.heap.objs.size + 1)) r us (V.ref (s.heap.objs.size + 1)) vr vs _ E (hr.make C us [(kw, r)]) (I2.env0.make C us [(kw, r)]) rfl rr rv hz hq) fun r1 s' hq' => ?_))
  cases r1 with
  | error e => exact hx pins _ _ e s' I2 hq'
  | ok fl =>
    cases fl with
    | ret u =>
      obtain ⟨v, H', I3, rv, ev, q3⟩ := I2.after hq'
      subst ev
      exact ⟨rv, ⟨V.ref (s.heap.objs.size + 1), H', I3, rfl, q3⟩⟩
    | next => exact False.elim hq'
    | brk => exact False.elim hq'
    | cont => exact False.elim hq'
theorem star_len {a : Addr} {xs : List V} {pins : List (Addr × Obj)} {σ : L2.St} {H : Hp} {s : Shared} (I : Inv X pins σ H s) (h : SqT X.K H a xs ∨ SqL X.K H a xs) : xs.length ≤ sizeLine := by
  rcases h with h | h
  · obtain ⟨_, _, _, z⟩ := I.tuple h; exact z
  · obtain ⟨_, _, _, z⟩ := I.list h; exact z
theorem run_makeS {pins : List (Addr × Obj)} {σ : L2.St} {H : Hp} {s : Shared} {Q : VK} (c1 : CalI X.prog X.w X.K X.mg X.base k c kw N n) (hr : Room (k + 1) X.A) (tk : Takes X W) (he : PE X e te) (hk : PE X e2 tr) (I : Inv X pins σ H s) (h : tMakeS X.K c (spT (spN X.K c N n)) (WE W) te tr σ H Q)
    (hall : (backToKw pos (keywordEach [⟨some kw, e2, kp⟩] X.env)).all (·.1.isSome) = true) (hks : (backToKw pos (keywordEach [⟨some kw, e2, kp⟩] X.env)).filterMap (·.1) = [kw]) (hst : starEach [.Starred e sp_] X.env = [(true, eval e X.env)]) :
    wpAny (model X.prog X.w) X.A (callWith pos (.ref (He.ga X.K c)) [] (backTo pos (starEach [.Starred e sp_] X.env)) (backToKw pos (keywordEach [⟨some kw, e2, kp⟩] X.env))) (EP X pins σ Q) X.xe s := by
  obtain ⟨f, M, F⟩ := c1.ok
  refine callWith_SK (h₀ := X.base) I.ok.mod.kin M.kp hall (thn (he.run pins s σ H _ I h) fun v s1 ⟨y, H1, I1, ry, q⟩ => ?_) hst
  have hkw : PK X [⟨some kw, e2, kp⟩] (tCons tr tNil) := pk_cons hk pk_nil
  refine thn (hkw.run pos pins s1 σ H1 (fun zs H2 => match zs with
    | [z] => ∃ a xs, y = .ref a ∧ (SqT X.K H2 a xs ∨ SqL X.K H2 a xs) ∧ ∀ x dx, H2 x = none → H2 dx = none → dx ≠ x → spT (spN X.K c N n) (.ref x) z xs (upd (upd H2 dx (.own x)) x (.ins (He.ga X.K c) dx [])) (fun v H3 => v = .non ∧ Q (.ref x) H3) (WE W σ)
    | _ => False) I1 q) fun ws s2 ⟨zs, H2, I2, rz, q1⟩ => ?_
  cases rz with
  | nil => exact q1.elim
  | cons r1 rz2 =>
    cases rz2 with
    | cons _ _ => exact q1.elim
    | nil =>
      obtain ⟨a, xs, ey, hxs, q2⟩ := q1
      subst ey
      obtain rfl : v = Value.ref a := ry
      refine StX.star_any I2 hxs fun us s3 I3 rv => ⟨I3.kIn, ?_⟩
      rw [hks]
      exact run_makeV M F hr (passAt tk σ) I3 rv (star_len I3 hxs) r1 q2
end
end Sg
set_option Elab.async false
set_option linter.all false
set_option maxRecDepth 100000
set_option maxHeartbeats 4000000
namespace Sg
open PySem L2
variable {K : PySem.W.Frag}
noncomputable def mMakeS (c : Str) (n : Nat) (N : MN K) (a b : ME K) (ha : a.k = true := by exact id rfl) (hb : b.k = true := by exact id rfl) : ME K where
  t := fun W => tMakeS K c (spT (spN K c N n)) (WE W) (a.t W) (b.t W)
  m := fun ρ => bindE (a.m ρ) fun u ρ1 => bindE (b.m ρ1) fun r ρ2 => match seqU u with
    | some us => match allX fun x => initM N n x r us with
      | some (.ok fs) => some (.ok (.ins c fs) ρ2)
      | some (.ex e) => some (.ex e ρ2)
      | none => none
    | none => none
  p := false
  k := true
  ok := fun F W ρ σ B H Q out e R f => by
    rcases bindE_some e with ⟨u, ρ1, e1, e⟩ | ⟨y, ρ1, e1, rfl⟩
    · refine a.ok F W ρ σ B H _ _ e1 R fun v1 B1 H1 x1 p1 R1 r1 => ?_
      rw [ha, if_pos rfl] at r1
      rcases bindE_some e with ⟨r, ρ2, e2, e⟩ | ⟨y, ρ2, e2, rfl⟩
      · refine b.ok F W ρ1 σ B1 H1 _ _ e2 R1 fun v2 B2 H2 x2 p2 R2 r2 => ?_
        rw [hb, if_pos rfl] at r2
        split at e
        · rename_i us hu
          obtain ⟨ad, vs, rfl, h1, h2⟩ := seqU_ok (Rep.mono x2 _ _ r1) hu
          refine ⟨ad, vs, rfl, h1.symm.imp (Ex.t R2.ex) (Ex.l R2.ex), fun x dx hx hd ne p hp => ?_⟩
          have R3 := R2.grow (Go.newC (o := .own x) R2.ex hd)
          have hx0 : upd H2 dx (.own x) x = none := by rw [upd_ne (Ne.symm ne)]; exact hx
          have px : p ≠ x := fun c => by rw [c, upd_same] at hp; cases hp
          have hp0 : upd H2 dx (.own x) p = none := by rw [upd_ne px] at hp; exact hp
          split at e
          · rename_i fs hm
            cases e
            refine ⟨B2, upd H2 dx (.own x), x, dx, p, r, us, .ok fs, rfl, rfl, rfl, hx0, hp0, px, R3.ex, r2, h2, allX_some hm x, fun ws B' H' g hH hB rf => ?_⟩
            have R4 := (R3.grow g).know hH hB (R3.fresh0 hx0) (fun j s es => by rw [R3.ow_eq g es]; exact R3.notC hx0 j s es) (fun u hu => by have := (R3.xx x u hu).1; rw [hx0] at this; cases this)
            exact ⟨rfl, f _ _ _ ((x1.trans x2).trans (g.bb.trans (Ex.new hB))) (fun z => nomatch z) R4 ⟨x, dx, ws, rfl, upd_same, RepF.mono (Ex.new hB) _ _ rf⟩⟩
          · rename_i y hm
            cases e
            exact ⟨B2, upd H2 dx (.own x), x, dx, p, r, us, .ex y, rfl, rfl, rfl, hx0, hp0, px, R3.ex, r2, h2, allX_some hm x, fun cls d B' H' g xr => f cls d B' H' ((x1.trans x2).trans g.bb) (R3.grow g) (XRel.up R3 xr)⟩
          · cases e
        · cases e
      · exact b.ok F W ρ1 σ B1 H1 _ _ e2 R1 fun cls d B2 H2 x2 R2 xr => f cls d B2 H2 (x1.trans x2) R2 xr
    · exact a.ok F W ρ σ B H _ _ e1 R fun cls d B1 H1 x1 R1 xr => f cls d B1 H1 x1 R1 xr
noncomputable def mMakeL (i : Nat) (c : Str) (n : Nat) (N : MN K) (a b : ME K) (ha : a.k = true := by exact id rfl) (hb : b.k = true := by exact id rfl) : ME K where
  t := fun W => tMakeL K i c ((mMakeS c n N a b ha hb).t W)
  m := fun ρ => match ρ[i]? with
    | some (.val (.ref q)) => if q = He.ga K c then (mMakeS c n N a b ha hb).m ρ else none
    | _ => none
  p := false
  k := true
  ok := fun F W ρ σ B H Q out e R f => by
    split at e
    · rename_i q hq
      split at e
      · rename_i hc
        subst hc
        obtain ⟨v, hv, r⟩ := R.sl i _ hq
        obtain rfl : v = .ref (He.ga K c) := r
        exact ⟨getD_some hv, (mMakeS c n N a b ha hb).ok F W ρ σ B H Q out e R f⟩
      · cases e
    · cases e
section
open PyProof.Rows
variable {X : Cx} {W : WX} {k n i : Nat} {x c kw : Str} {N : MN X.K} {e e2 : Expr} {A B : ME X.K} {p pos sp_ kp : Pos}
theorem dMkS {h1 h2} (c1 : CalI X.prog X.w X.K X.mg X.base k c kw N n) (hr : Room (k + 1) X.A) (tk : Takes X W) (he : PE X e (A.t W)) (hk : PE X e2 (B.t W)) (hg : Gl X c := by rfl) (hdb : (c == ("__debug__" : Str)) = false := by decide)
    (hall : (backToKw pos (keywordEach [⟨some kw, e2, kp⟩] X.env)).all (·.1.isSome) = true := by rfl) (hks : (backToKw pos (keywordEach [⟨some kw, e2, kp⟩] X.env)).filterMap (·.1) = [kw] := by rfl) (hst : starEach [.Starred e sp_] X.env = [(true, eval e X.env)] := by rfl) :
    PE X (.Call (.Name c p) [.Starred e sp_] [⟨some kw, e2, kp⟩] pos) ((mMakeS c n N A B h1 h2).t W) :=
  ⟨fun pins s σ H Q I h => wpAny_Call_Name_kw (ld_glob I hg c1.mg_ (run_makeS c1 hr tk he hk I h hall hks hst) hdb)⟩
theorem dMkL {h1 h2} (c1 : CalI X.prog X.w X.K X.mg X.base k c kw N n) (hr : Room (k + 1) X.A) (tk : Takes X W) (he : PE X e (A.t W)) (hk : PE X e2 (B.t W)) (hN : X.N[i]? = some x := by rfl) (hv : Vis X.env.scope x := by first | exact Or.inl rfl | exact Or.inr (Or.inl rfl) | exact Or.inr (Or.inr rfl)) (hd : (x == ("__debug__" : Str)) = false := by decide)
    (hcd : (x == ("__classdict__" : Str)) = false := by decide)
    (hall : (backToKw pos (keywordEach [⟨some kw, e2, kp⟩] X.env)).all (·.1.isSome) = true := by rfl) (hks : (backToKw pos (keywordEach [⟨some kw, e2, kp⟩] X.env)).filterMap (·.1) = [kw] := by rfl) (hst : starEach [.Starred e sp_] X.env = [(true, eval e X.env)] := by rfl) :
    PE X (.Call (.Name x p) [.Starred e sp_] [⟨some kw, e2, kp⟩] pos) ((mMakeL i c n N A B h1 h2).t W) := by
  refine ⟨fun pins s σ H Q I h => ?_⟩
  have P : PE X (.Name x p) (tVar i) := pe_var hN hv hd hcd
  refine wpAny_Call_Name_kw (thn (P.run pins s σ H (fun v H1 => v = .ref (He.ga X.K c) ∧ (mMakeS c n N A B h1 h2).t W σ H1 Q) I ⟨_, h.1, rfl, h.2⟩) fun u s1 ⟨v, H1, I1, rv, ev, q⟩ => ?_)
  subst ev
  obtain rfl : u = Value.ref (He.ga X.K c) := rv
  exact run_makeS c1 hr tk he hk I1 q hall hks hst
end
section
variable {X : Cx} {W : WX} {st : Stmt} {sts : List Stmt} {a b : MN X.K} {S : MS X.K} {A : ME X.K} {o value : Expr} {f y : Str} {pos pos' p : Pos}
theorem nseq (h1 : PS X st (a.t W)) (h2 : PSs X sts (b.t W)) : PSs X (st :: sts) ((mnSeq a b).t W) := show PSs X (st :: sts) (tSeq (a.t W) (b.t W)) from pss_cons h1 h2
theorem none1 (h1 : PS X st (a.t W)) : PSs X [st] (a.t W) := pss_one h1
theorem nS (h : PS X st (S.t W)) : PS X st ((mnS S).t W) := h
theorem nF {h} (hv : PE X value (A.t W)) (hN : X.N[0]? = some y := by rfl) (hvis : Vis X.env.scope y := by first | exact Or.inl rfl | exact Or.inr (Or.inl rfl) | exact Or.inr (Or.inr rfl)) (hd : (y == ("__debug__" : Str)) = false := by decide)
    (hcd : (y == ("__classdict__" : Str)) = false := by decide) (hs : swapsWith value (some (.Attribute (.Name y p) f pos')) pos.line X.env = pure false := by rfl) :
    PS X (.Assign [.Attribute (.Name y p) f pos'] value pos) ((mnF f A h).t W) := ps_fld (pe_var hN hvis hd hcd) hv hs
end
theorem na_nil {P : Str → Prop} : ∀ f ∈ ([] : List Str), P f := fun f h => by cases h
theorem na_cons {P : Str → Prop} {a : Str} {l : List Str} (h1 : P a) (h2 : ∀ f ∈ l, P f) : ∀ f ∈ a :: l, P f := fun f h => by
  rcases List.mem_cons.mp h with rfl | h
  · exact h1
  · exact h2 f h
theorem RepF.look {B : Hp} {m : Str} {u : U} : ∀ {fs : List (Str × U)} {ws : List (Str × V)}, RepF K B fs ws → fs.lookup m = some u → ∃ v, ws.lookup m = some v ∧ Rep K B u v
  | [], _, h, e => by cases e
  | (k, x) :: us, _, h, e => by
    obtain ⟨v, r, rfl, h1, h2⟩ := h
    rw [List.lookup_cons] at e ⊢
    cases c : m == k with
    | true => rw [c] at e; cases e; exact ⟨v, rfl, h1⟩
    | false => rw [c] at e; exact RepF.look h2 e
def FldT (K : PySem.W.Frag) (f : Str) (cs : List Str) : Prop := ∀ c ∈ cs, Cls K (He.ga K c) ∧ NoAttr K (He.ga K c) f
def tFldT (K : PySem.W.Frag) (f : Str) (cs : List Str) (ta : TE) : TE := fun σ H Q => ta σ H fun x H1 => ∃ a c dx fs v, x = .ref a ∧ H1 a = some (.ins (He.ga K c) dx fs) ∧ c ∈ cs ∧ fs.lookup f = some v ∧ Q v H1
def mFld (f : Str) (cs : List Str) (a : ME K) : ME K where
  t := fun W => tFldT K f cs (a.t W)
  m := fun ρ => bindE (a.m ρ) fun u ρ1 => match u with
    | .ins c fs => if c ∈ cs then (fs.lookup f).map fun w => .ok w ρ1 else none
    | _ => none
  p := a.p
  k := a.k
  ok := fun F W ρ σ B H Q out e R f => by
    rcases bindE_some e with ⟨u, ρ1, e1, e⟩ | ⟨y, ρ1, e1, rfl⟩
    · refine a.ok F W ρ σ B H _ _ e1 R fun v1 B1 H1 x1 p1 R1 r1 => ?_
      cases u with
      | ins c fs =>
        dsimp only at e
        split at e
        · rename_i hc
          obtain ⟨w, hw, rfl⟩ := Option.map_eq_some_iff.mp e
          obtain ⟨ad, dx, ws, rfl, hb, hf⟩ := r1
          obtain ⟨v, hv, rv⟩ := RepF.look hf hw
          have hb' : H1 ad = some (.ins (He.ga K c) dx ws) := by
            cases ck : a.k with
            | true => rw [ck, if_pos rfl] at hb; exact R1.ex _ _ hb
            | false => rw [ck] at hb; exact hb
          exact ⟨ad, c, dx, ws, v, rfl, hb', hc, hv, f v B1 H1 x1 p1 R1 rv⟩
        · cases e
      | _ => cases e
    · exact a.ok F W ρ σ B H _ _ e1 R fun cls d B1 H1 x1 R1 xr => f cls d B1 H1 x1 R1 xr
theorem dfld {X : Cx} {W : WX} {f : Str} {cs : List Str} {A : ME X.K} {e : Expr} {pos : Pos} (he : PE X e (A.t W)) (hT : FldT X.K f cs) (hb : attributeBase e f X.env (eval e X.env) = eval e X.env := by rfl) : PE X (.Attribute e f pos) ((mFld f cs A).t W) := by
  refine ⟨fun pins s σ H Q I h => ?_⟩
  refine attr_of hb (thn (he.run pins s σ H _ I h) fun u s1 ⟨x, H1, I1, rx, a, c, dx, fs, v, ex, ea, hc, l, q⟩ => ?_)
  subst ex
  obtain rfl : u = Value.ref a := rx
  exact getattr_ok I1 ea (hT c hc).1 (hT c hc).2 l fun u' s2 I2 ru => ⟨v, H1, I2, ru, q⟩
structure CalP (P : Program) (w : World) (K : PySem.W.Frag) (mg : Str → Option Value) (base : Heap) (k : Nat) (c f : Str) (mf : List Slot → Option CO) : Prop where
  cls : Cls K (He.ga K c)
  ok : ∃ p g fd ps, PropOf K (He.ga K c) f p g ∧ FnOk P w K mg base CX0 k g fd ps (spM K 1 mf) ∧ Binds K fd ps []
theorem CalP.mono {P : Program} {w : World} {mg : Str → Option Value} {base : Heap} {j k : Nat} {c f : Str} {mf : List Slot → Option CO} (h : CalP P w K mg base j c f mf) (l : j ≤ k) : CalP P w K mg base k c f mf := by
  obtain ⟨a, p, g, fd, ps, b, d, e⟩ := h
  exact ⟨a, p, g, fd, ps, b, d.mono l, e⟩
def CalPT (P : Program) (w : World) (K : PySem.W.Frag) (mg : Str → Option Value) (base : Heap) (k : Nat) (f : Str) (tab : MTab) : Prop := ∀ c mf, tab.lookup c = some mf → CalP P w K mg base k c f mf
section
variable {P : Program} {w : World} {mg : Str → Option Value} {base : Heap} {k : Nat} {c f : Str} {mf : List Slot → Option CO} {tab : MTab}
theorem calP_nil : CalPT P w K mg base k f [] := fun c mf h => by cases h
theorem calP_cons (h1 : CalP P w K mg base k c f mf) (h2 : CalPT P w K mg base k f tab) : CalPT P w K mg base k f ((c, mf) :: tab) := fun c' mf' h => by
  rw [List.lookup_cons] at h
  cases z : c' == c with
  | true => rw [z] at h; cases h; rw [beq_iff_eq.mp z]; exact h1
  | false => rw [z] at h; exact h2 c' mf' h
end
def tPropT (K : PySem.W.Frag) (tab : MTab) (E : St → XK) (ta : TE) : TE := fun σ H Q => ta σ H fun x H1 => ∃ a c dx fs mf, x = .ref a ∧ H1 a = some (.ins (He.ga K c) dx fs) ∧ tab.lookup c = some mf ∧ spM K 1 mf [x] H1 Q (E σ)
def mProp (tab : MTab) (a : ME K) (ha : a.k = true := by exact id rfl) : ME K where
  t := fun W => tPropT K tab (WE W) (a.t W)
  m := fun ρ => bindE (a.m ρ) fun u ρ1 => match u with
    | .ins c fs => match tab.lookup c with
      | some mf => callM mf (some (.ok [.inl (.ins c fs)] ρ1))
      | none => none
    | _ => none
  p := false
  k := true
  ok := fun F W ρ σ B H Q out e R f => by
    rcases bindE_some e with ⟨u, ρ1, e1, e⟩ | ⟨x, ρ1, e1, rfl⟩
    · refine a.ok F W ρ σ B H _ _ e1 R fun v1 B1 H1 x1 p1 R1 r1 => ?_
      rw [ha, if_pos rfl] at r1
      cases u with
      | ins c fs =>
        dsimp only at e
        split at e
        · rename_i mf h2
          obtain ⟨ad, dx, ws, rfl, hb, hf⟩ := r1
          exact ⟨ad, c, dx, ws, mf, rfl, R1.ex _ _ hb, h2, call_fin (H := H) (ρ := ρ) (is := [.inl (.ins c fs)]) x1 R1 ⟨_, [], rfl, ⟨ad, dx, ws, rfl, hb, hf⟩, rfl⟩ rfl e f⟩
        · cases e
      | _ => cases e
    · exact a.ok F W ρ σ B H _ _ e1 R fun cls d B1 H1 x1 R1 xr => f cls d B1 H1 x1 R1 xr
theorem dprop {X : Cx} {W : WX} {f : Str} {k : Nat} {tab : MTab} {A : ME X.K} {e : Expr} {pos : Pos} {h} (he : PE X e (A.t W)) (c : CalPT X.prog X.w X.K X.mg X.base k f tab) (hr : Room (k + 1) X.A) (hab : attributeBase e f X.env (eval e X.env) = eval e X.env := by rfl) :
    PE X (.Attribute e f pos) ((mProp tab A h).t W) := by
  refine ⟨fun pins s σ H Q I h => ?_⟩
  refine attr_of hab (thn (he.run pins s σ H _ I h) fun u s1 ⟨x, H1, I1, rx, a, c', dx, fs, mf, ex, ea, hl, q⟩ => ?_)
  subst ex
  obtain rfl : u = Value.ref a := rx
  obtain ⟨hc, p, g, fd, ps, hp, F, hb⟩ := c _ _ hl
  exact getprop_ok I1 ea hc hp F hr hb (dvs := []) (ds := []) .nil (E := WE W σ) (fun _ _ _ _ _ _ _ z => z.elim) q
theorem dCls {X : Cx} {W : WX} {c : Str} {pos : Pos} {h} (q : X.mg c = some (.ref (He.ga X.K c))) (hg : Gl X c := by rfl) (hd : (c == ("__debug__" : Str)) = false := by decide) : PE X (.Name c pos) ((mC (K := X.K) (.ref (He.ga X.K c)) (.ref (He.ga X.K c)) h).t W) := pe_glob hg q rfl hd
end Sg
set_option Elab.async false
set_option linter.all false
set_option maxRecDepth 100000
set_option maxHeartbeats 4000000
namespace Sg
open PySem L2
variable {K : PySem.W.Frag}
def pm {α : Type} (ix : List Nat) (xs : List α) : List α := ix.filterMap fun i => xs[i]?
theorem ItemsOk.get {B : Hp} {σ : St} : ∀ {is : List (U ⊕ Nat)} {vs : List V}, ItemsOk K B σ is vs → ∀ i : Nat, (is[i]? = none ∧ vs[i]? = none) ∨ ∃ a v, is[i]? = some a ∧ vs[i]? = some v ∧ ItemsOk K B σ [a] [v]
  | [], _, h, i => by cases h; exact .inl ⟨by simp, by simp⟩
  | .inl u :: r, _, h, i => by
    obtain ⟨v, vr, rfl, h1, h2⟩ := h
    cases i with
    | zero => exact .inr ⟨.inl u, v, rfl, rfl, v, [], rfl, h1, rfl⟩
    | succ i => simpa using ItemsOk.get h2 i
  | .inr j :: r, _, h, i => by
    obtain ⟨v, vr, rfl, h1, h2⟩ := h
    cases i with
    | zero => exact .inr ⟨.inr j, v, rfl, rfl, v, [], rfl, h1, rfl⟩
    | succ i => simpa using ItemsOk.get h2 i
theorem ItemsOk.cons {B : Hp} {σ : St} {a : U ⊕ Nat} {v : V} {is : List (U ⊕ Nat)} {vs : List V} (h1 : ItemsOk K B σ [a] [v]) (h2 : ItemsOk K B σ is vs) : ItemsOk K B σ (a :: is) (v :: vs) := by
  cases a with
  | inl u =>
    obtain ⟨v', vr, e, h1, _⟩ := h1
    cases e
    exact ⟨v, vs, rfl, h1, h2⟩
  | inr j =>
    obtain ⟨v', vr, e, h1, _⟩ := h1
    cases e
    exact ⟨v, vs, rfl, h1, h2⟩
theorem ItemsOk.pm {B : Hp} {σ : St} {is : List (U ⊕ Nat)} {vs : List V} (h : ItemsOk K B σ is vs) : ∀ ix : List Nat, ItemsOk K B σ (Sg.pm ix is) (Sg.pm ix vs)
  | [] => rfl
  | i :: ix => by
    unfold Sg.pm
    rcases h.get i with ⟨h1, h2⟩ | ⟨a, v, h1, h2, h3⟩
    · rw [List.filterMap_cons_none h1, List.filterMap_cons_none h2]
      exact ItemsOk.pm h ix
    · rw [List.filterMap_cons_some h1, List.filterMap_cons_some h2]
      exact ItemsOk.cons h3 (ItemsOk.pm h ix)
theorem ItemsOk.len {B : Hp} {σ : St} : ∀ {is : List (U ⊕ Nat)} {vs : List V}, ItemsOk K B σ is vs → vs.length = is.length
  | [], _, h => by cases h; rfl
  | .inl u :: r, _, h => by
    obtain ⟨v, vr, rfl, h1, h2⟩ := h
    simp [ItemsOk.len h2]
  | .inr j :: r, _, h => by
    obtain ⟨v, vr, rfl, h1, h2⟩ := h
    simp [ItemsOk.len h2]
section
open PyProof.Rows
end
end Sg
set_option Elab.async false
set_option linter.all false
set_option maxRecDepth 100000
set_option maxHeartbeats 4000000
namespace Sg
open PySem L2
open He (ga ma ba eqO eqO_ok)
variable {K : PySem.W.Frag}
def mkB (K : PySem.W.Frag) (c b : Str) : Bool := PySem.W.makesIn K (ga K c) && (eqO (PySem.W.findIn K (.ref (ga K c)) "__init__") (some (some (.ref (ma K (ga K b) "__init__")))) && (PySem.W.isFn K (.ref (ma K (ga K b) "__init__")) && PySem.W.keepIn K (.ref (ga K c))))
theorem mk_ok {c b : Str} (h : mkB K c b = true) : Mk K (ga K c) (ma K (ga K b) "__init__") := by
  obtain ⟨h1, h⟩ := ba h
  obtain ⟨h2, h⟩ := ba h
  obtain ⟨h3, h4⟩ := ba h
  exact ⟨h1, eqO_ok h2, h3, h4⟩
def noatB (K : PySem.W.Frag) (c f : Str) : Bool := eqO (PySem.W.findIn K (.ref (ga K c)) f) (some none)
theorem noat_ok {c f : Str} (h : noatB K c f = true) : NoAttr K (ga K c) f := eqO_ok h
def propB (K : PySem.W.Frag) (c f b : Str) : Bool := eqO (PySem.W.findIn K (.ref (ga K c)) f) (some (some (.ref (ma K (ga K b) f)))) && (eqO (PySem.W.specialIn K (.ref (ma K (ga K b) f)) "__get__") (some (some (.builtin "property.__get__"))) &&
  (decide (PySem.W.takesIn K (.ref (ma K (ga K b) f)) = some true) && (match PySem.W.recIn K (ma K (ga K b) f) "property" with
    | some (.ref _ :: _) => true
    | _ => false)))
theorem prop_ok {c f b : Str} (h : propB K c f b = true) : PropOf K (ga K c) f (ma K (ga K b) f) (pmg K (ma K (ga K b) f)) := by
  obtain ⟨h1, h⟩ := ba h
  obtain ⟨h2, h⟩ := ba h
  obtain ⟨h3, h4⟩ := ba h
  refine ⟨eqO_ok h1, eqO_ok h2, of_decide_eq_true h3, ?_⟩
  unfold pmg
  split at h4
  · rename_i g r e
    rw [e]
    exact ⟨r, rfl⟩
  · cases h4
def conIB (K : PySem.W.Frag) (c f : Str) (i : Int) : Bool := match PySem.W.findCls K (.ref (ga K c)) (.type "type") f with
  | some (.val (.int j _)) => decide (j = i)
  | _ => false
theorem conI_ok {c f : Str} {i : Int} (r : creadB K c = true) (h : conIB K c f i = true) : ConC K c f (.int i) := by
  unfold conIB at h
  split at h
  · rename_i j t e
    rw [of_decide_eq_true h] at e
    exact ⟨.type "type", .int i, .int i t, cread_ok r, ⟨e, ⟨t, rfl⟩⟩, fun B => rfl⟩
  · cases h
theorem calP_of {P : Program} {w : World} {mg : Str → Option Value} {base : Heap} {k : Nat} {c f : Str} {mf : List Slot → Option CO} {p g : Addr} (h1 : Cls K (ga K c)) (h2 : PropOf K (ga K c) f p g)
    (h3 : ∃ fd ps, FnOk P w K mg base CX0 k g fd ps (spM K 1 mf) ∧ Binds K fd ps []) : CalP P w K mg base k c f mf := by
  obtain ⟨fd, ps, a, b⟩ := h3
  exact ⟨h1, p, g, fd, ps, h2, a, b⟩
def CPowX (i j : Int) : Prop := 0 ≤ j ∧ j ≤ 1000 ∧ i.natAbs < 2 ^ 400
theorem op_powX {X : Cx} : OpR X (binaryOp .Pow) (rI CPowX fun i j => .int (i ^ j.toNat)) := opI fun i j _ _ _ _ _ hc q => PyProof.Rows.pow_int hc.1 (by
  have hb := PyProof.Rows.intBits_le hc.2.2
  have h1 : (Builtin.Int.intBits i : Int) * j ≤ 400 * j := Int.mul_le_mul_of_nonneg_right (by omega) hc.1
  have := hc.2.1
  omega) q
def oPowX : Op2 K where
  r := rI CPowX fun i j => .int (i ^ j.toNat)
  f := fI fun i j => if 0 ≤ j ∧ j ≤ 1000 ∧ i.natAbs < 2 ^ 400 then some (.int (i ^ j.toNat)) else none
  ok := fun H x y u v w ru rv e => by
    obtain ⟨i, j, rfl, rfl, e2⟩ := fI_some e
    split at e2
    · rename_i h
      cases e2; cases ru; cases rv
      exact ⟨_, rfl, fun Q q => ⟨_, _, rfl, rfl, h, q⟩⟩
    · cases e2
theorem rPowX {X : Cx} : OpR X (binaryOp .Pow) (oPowX (K := X.K)).r := op_powX
end Sg
set_option Elab.async false
set_option linter.all false
set_option maxRecDepth 100000
set_option maxHeartbeats 4000000
namespace Sg
open PySem L2
variable {K : PySem.W.Frag}
theorem oPowX_i (i j : Int) (h1 : -2582249878086908589655919172003011874329705792829223512830659356540647622016841194629645353280137831435903171972747493376 < i) (h2 : i < 2582249878086908589655919172003011874329705792829223512830659356540647622016841194629645353280137831435903171972747493376) (h3 : 0 ≤ j) (h4 : j ≤ 1000) :
    (oPowX (K := K)).f (.int i) (.int j) = some (.int (i ^ j.toNat)) := if_pos ⟨h3, h4, by omega⟩
theorem mMakeS_m (c : Str) (n : Nat) (N : MN K) (a b : ME K) (ha hb) (ρ : Env) : (@mMakeS K c n N a b ha hb).m ρ = (bindE (a.m ρ) fun u ρ1 => bindE (b.m ρ1) fun r ρ2 => match seqU u with
    | some us => match allX fun x => initM N n x r us with
      | some (.ok fs) => some (.ok (.ins c fs) ρ2)
      | some (.ex e) => some (.ex e ρ2)
      | none => none
    | none => none) := rfl
theorem mMakeL_m (i : Nat) (c : Str) (n : Nat) (N : MN K) (a b : ME K) (ha hb) (ρ : Env) : (@mMakeL K i c n N a b ha hb).m ρ = (match ρ[i]? with
    | some (.val (.ref q)) => if q = He.ga K c then (mMakeS c n N a b ha hb).m ρ else none
    | _ => none) := rfl
theorem mFld_m (f : Str) (cs : List Str) (a : ME K) (ρ : Env) : (mFld f cs a).m ρ = (bindE (a.m ρ) fun u ρ1 => match u with
    | .ins c fs => if c ∈ cs then (fs.lookup f).map fun w => .ok w ρ1 else none
    | _ => none) := rfl
theorem mProp_m (tab : MTab) (a : ME K) (ha) (ρ : Env) : (@mProp K tab a ha).m ρ = (bindE (a.m ρ) fun u ρ1 => match u with
    | .ins c fs => match tab.lookup c with
      | some mf => callM mf (some (.ok [.inl (.ins c fs)] ρ1))
      | none => none
    | _ => none) := rfl
theorem mnSeq_m (a b : MN K) (x : Addr) (ρ : Env) (fs : List (Str × U)) : (mnSeq a b).m x ρ fs = (match a.m x ρ fs with
    | some (.nx fs' ρ') => b.m x ρ' fs'
    | o => o) := rfl
theorem mnS_m (S : MS K) (x : Addr) (ρ : Env) (fs : List (Str × U)) : (mnS S).m x ρ fs = (match S.m ρ with
    | some (.nx ρ') => some (.nx fs ρ')
    | some (.ex e ρ') => some (.ex e ρ')
    | _ => none) := rfl
theorem mnF_m (f : Str) (e : ME K) (he) (x : Addr) (ρ : Env) (fs : List (Str × U)) : (@mnF K f e he).m x ρ fs = (match e.m ρ with
    | none => none
    | some (.ex y ρ') => some (.ex y ρ')
    | some (.ok u ρ') => if at0 x ρ' = true ∧ fs.length < 1000 then some (.nx (putU f u fs) ρ') else none) := rfl
theorem at0_e (x : Addr) (ρ : Env) : at0 x (.val (.ref x) :: ρ) = true := by simp [at0]
theorem initM_e (N : MN K) (n : Nat) (x : Addr) (r : U) (us : List U) : initM N n x r us = (match N.m x ([.val (.ref x), .val r, .val (.tup us)] ++ List.replicate (n - 3) .non) [] with
  | some (.nx fs _) => some (.ok fs)
  | some (.ex e _) => some (.ex e)
  | none => none) := rfl
theorem seqU_l (us : List U) : seqU (.lst us) = some us := rfl
theorem seqU_f (us : List U) : seqU (.frl us) = some us := rfl
theorem seqU_t (us : List U) : seqU (.tup us) = some us := rfl
theorem pm_nil {α : Type} (xs : List α) : pm [] xs = [] := rfl
theorem pm_cons {α : Type} (i : Nat) (ix : List Nat) (xs : List α) : pm (i :: ix) xs = (match xs[i]? with
    | some a => a :: pm ix xs
    | none => pm ix xs) := by
  unfold pm
  cases h : xs[i]? with
  | none => rw [List.filterMap_cons_none h]
  | some a => rw [List.filterMap_cons_some h]
theorem put_0 (f : Str) (u : U) : putU f u [] = [(f, u)] := rfl
end Sg
set_option Elab.async false
set_option linter.all false
set_option maxRecDepth 100000
set_option maxHeartbeats 4000000
namespace Sg
open PySem L2
end Sg
set_option Elab.async false
set_option linter.all false
set_option maxRecDepth 100000
set_option maxHeartbeats 4000000
namespace Sg
open PySem L2
variable {K : PySem.W.Frag}
def Rx (B B' : Hp) : Prop := ∀ a o, B a = some o → B' a = some o ∨ ∃ ws, Rd B a (.dK ws) ∧ Rd B' a (.dK ws)
theorem rdFn {B : Hp} {a : Addr} {o : HO} {ws : List (Key × V)} (h : Rd B a (.dK ws)) (e : B a = some o) : o = .dK ws ∨ ∃ q, o = .frz q (.dK ws) := by
  rcases h with h | ⟨q, h⟩
  · rw [e] at h; cases h; exact .inl rfl
  · rw [e] at h; cases h; exact .inr ⟨q, rfl⟩
theorem Rx.rdL {B B' : Hp} (e : Rx B B') {a : Addr} {xs : List V} (h : Rd B a (.lst xs)) : Rd B' a (.lst xs) := by
  rcases h with h | ⟨q, h⟩
  · rcases e a _ h with z | ⟨ws, z, _⟩
    · exact .inl z
    · rcases rdFn z h with y | ⟨_, y⟩ <;> cases y
  · rcases e a _ h with z | ⟨ws, z, _⟩
    · exact .inr ⟨q, z⟩
    · rcases rdFn z h with y | ⟨_, y⟩ <;> cases y
theorem Rx.rdT {B B' : Hp} (e : Rx B B') {a : Addr} {xs : List V} (h : Rd B a (.tup xs)) : Rd B' a (.tup xs) := by
  rcases h with h | ⟨q, h⟩
  · rcases e a _ h with z | ⟨ws, z, _⟩
    · exact .inl z
    · rcases rdFn z h with y | ⟨_, y⟩ <;> cases y
  · rcases e a _ h with z | ⟨ws, z, _⟩
    · exact .inr ⟨q, z⟩
    · rcases rdFn z h with y | ⟨_, y⟩ <;> cases y
theorem Rx.rdD {B B' : Hp} (e : Rx B B') {a : Addr} {ws : List (Key × V)} (h : Rd B a (.dK ws)) : Rd B' a (.dK ws) := by
  rcases h with h | ⟨q, h⟩
  · rcases e a _ h with z | ⟨vs, z, y⟩
    · exact .inl z
    · rcases rdFn z h with x | ⟨_, x⟩
      · cases x; exact y
      · cases x
  · rcases e a _ h with z | ⟨vs, z, y⟩
    · exact .inr ⟨q, z⟩
    · rcases rdFn z h with x | ⟨_, x⟩
      · cases x
      · cases x; exact y
theorem Rx.rdN {B B' : Hp} (e : Rx B B') {a b : Addr} {es : Array DictEntry} {ep : Nat} (h : Rd B a (NdO b es ep)) : Rd B' a (NdO b es ep) := by
  rcases h with h | ⟨q, h⟩
  · rcases e a _ h with z | ⟨ws, z, _⟩
    · exact .inl z
    · rcases rdFn z h with y | ⟨_, y⟩ <;> cases y
  · rcases e a _ h with z | ⟨ws, z, _⟩
    · exact .inr ⟨q, z⟩
    · rcases rdFn z h with y | ⟨_, y⟩ <;> cases y
theorem Rx.nd {K : PySem.W.Frag} {B B' : Hp} (e : Rx B B') {a : Addr} {ws : List (KT × V)} (h : ND K B a ws) : ND K B' a ws := by
  obtain ⟨z, y, xs, es, ep, e0, e1, nt, r⟩ := h
  exact ⟨z, y, xs, es, ep, e.rdN e0, e1, nt.up fun _ _ q => q.imp e.rdT id, r⟩
mutual
theorem Rep.rx {B B' : Hp} (e : Rx B B') : ∀ (u : U) (v : V), Rep K B u v → Rep K B' u v
  | .non, _, h => h
  | .bl _, _, h => h
  | .int _, _, h => h
  | .str _, _, h => h
  | .ref _, _, h => h
  | .lst us, _, h => by
    obtain ⟨a, vs, h1, h2, h3⟩ := h
    rcases e a _ h2 with z | ⟨ws, z, _⟩
    · exact ⟨a, vs, h1, z, RepL.rx e us vs h3⟩
    · rcases rdFn z h2 with y | ⟨_, y⟩ <;> cases y
  | .frl us, _, h => by
    obtain ⟨a, vs, h1, h2, h3⟩ := h
    exact ⟨a, vs, h1, h2.imp e.rdL id, RepL.rx e us vs h3⟩
  | .tup us, _, h => by
    obtain ⟨a, vs, h1, h2, h3⟩ := h
    exact ⟨a, vs, h1, h2.imp e.rdT id, RepL.rx e us vs h3⟩
  | .dic kvs, _, h => by
    obtain ⟨a, vs, h1, h2, h3⟩ := h
    exact ⟨a, vs, h1, e.rdD h2, RepD.rx e kvs vs h3⟩
  | .ndc kvs, _, h => by
    obtain ⟨a, vs, h1, h2, h3⟩ := h
    exact ⟨a, vs, h1, e.nd h2, RepN.rx e kvs vs h3⟩
  | .ins c fs, _, h => by
    obtain ⟨a, dx, vs, h1, h2, h3⟩ := h
    rcases e a _ h2 with z | ⟨ws, z, _⟩
    · exact ⟨a, dx, vs, h1, z, RepF.rx e fs vs h3⟩
    · rcases rdFn z h2 with y | ⟨_, y⟩ <;> cases y
  | .exc c, _, h => by
    obtain ⟨a, h1, h2⟩ := h
    rcases e a _ h2 with z | ⟨ws, z, _⟩
    · exact ⟨a, h1, z⟩
    · rcases rdFn z h2 with y | ⟨_, y⟩ <;> cases y
  | .exf c f z0, _, h => by
    obtain ⟨a, d, z1, h1, h2, h4, h3⟩ := h
    rcases e a _ h2 with z | ⟨ws, z, _⟩
    · rcases e d _ h3 with z2 | ⟨ws, z2, _⟩
      · exact ⟨a, d, z1, h1, z, h4, z2⟩
      · rcases rdFn z2 h3 with y | ⟨_, y⟩ <;> cases y
    · rcases rdFn z h2 with y | ⟨_, y⟩ <;> cases y
theorem RepL.rx {B B' : Hp} (e : Rx B B') : ∀ (us : List U) (vs : List V), RepL K B us vs → RepL K B' us vs
  | [], _, h => h
  | u :: us, _, h => by
    obtain ⟨v, r, h1, h2, h3⟩ := h
    exact ⟨v, r, h1, Rep.rx e u v h2, RepL.rx e us r h3⟩
theorem RepN.rx {B B' : Hp} (e : Rx B B') : ∀ (us : List (KT × U)) (vs : List (KT × V)), RepN K B us vs → RepN K B' us vs
  | [], _, h => h
  | (k, u) :: us, _, h => by
    obtain ⟨v, r, h1, h2, h3⟩ := h
    exact ⟨v, r, h1, Rep.rx e u v h2, RepN.rx e us r h3⟩
theorem RepD.rx {B B' : Hp} (e : Rx B B') : ∀ (us : List (Key × U)) (vs : List (Key × V)), RepD K B us vs → RepD K B' us vs
  | [], _, h => h
  | (k, u) :: us, _, h => by
    obtain ⟨v, r, h1, h2, h3⟩ := h
    exact ⟨v, r, h1, Rep.rx e u v h2, RepD.rx e us r h3⟩
theorem RepF.rx {B B' : Hp} (e : Rx B B') : ∀ (us : List (Str × U)) (vs : List (Str × V)), RepF K B us vs → RepF K B' us vs
  | [], _, h => h
  | (k, u) :: us, _, h => by
    obtain ⟨v, r, h1, h2, h3⟩ := h
    exact ⟨v, r, h1, Rep.rx e u v h2, RepF.rx e us r h3⟩
end
end Sg
set_option Elab.async false
set_option linter.all false
set_option maxRecDepth 100000
set_option maxHeartbeats 4000000
namespace Sg
open PySem L2
variable {K : PySem.W.Frag}
theorem RepD.get {B : Hp} : ∀ {kvs : List (Key × U)} {ws : List (Key × V)}, RepD K B kvs ws → ∀ (i : Nat), (kvs[i]? = none ∧ ws[i]? = none) ∨ ∃ k u v, kvs[i]? = some (k, u) ∧ ws[i]? = some (k, v) ∧ Rep K B u v
  | [], _, h, i => by cases h; exact .inl ⟨by simp, by simp⟩
  | (k, u) :: r, _, h, i => by
    obtain ⟨v, vr, rfl, h1, h2⟩ := h
    cases i with
    | zero => exact .inr ⟨k, u, v, rfl, rfl, h1⟩
    | succ i => simpa using RepD.get h2 i
theorem RepD.length {B : Hp} : ∀ {kvs : List (Key × U)} {ws : List (Key × V)}, RepD K B kvs ws → ws.length = kvs.length
  | [], _, h => by cases h; rfl
  | (k, u) :: r, _, h => by
    obtain ⟨v, vr, rfl, h1, h2⟩ := h
    simp [RepD.length h2]
theorem RepD.keys {B : Hp} : ∀ {kvs : List (Key × U)} {ws : List (Key × V)}, RepD K B kvs ws → ws.map (·.1) = kvs.map (·.1)
  | [], _, h => by cases h; rfl
  | (k, u) :: r, _, h => by
    obtain ⟨v, vr, rfl, h1, h2⟩ := h
    simp [RepD.keys h2]
end Sg
set_option Elab.async false
set_option linter.all false
set_option maxRecDepth 100000
set_option maxHeartbeats 4000000
namespace Sg
open PySem L2
variable {K : PySem.W.Frag}
def putD (kvs : List (Key × U)) (k : Key) (u : U) : List (Key × U) := if (kvs.any fun kv => decide (kv.1 = k)) = true then kvs.map (fun kv => if kv.1 = k then (kv.1, u) else kv) else kvs ++ [(k, u)]
theorem RepD.any {B : Hp} (k : Key) : ∀ {kvs : List (Key × U)} {ws : List (Key × V)}, RepD K B kvs ws → (ws.any fun kv => decide (kv.1 = k)) = (kvs.any fun kv => decide (kv.1 = k))
  | [], _, h => by cases h; rfl
  | (j, u) :: r, _, h => by
    obtain ⟨v, vr, rfl, h1, h2⟩ := h
    rw [List.any_cons, List.any_cons, RepD.any k h2]
theorem RepD.repl {B : Hp} (k : Key) {u : U} {v : V} (q : Rep K B u v) : ∀ {kvs : List (Key × U)} {ws : List (Key × V)}, RepD K B kvs ws → RepD K B (kvs.map fun kv => if kv.1 = k then (kv.1, u) else kv) (ws.map fun kv => if kv.1 = k then (kv.1, v) else kv)
  | [], _, h => by cases h; rfl
  | (j, x) :: r, _, h => by
    obtain ⟨y, vr, rfl, h1, h2⟩ := h
    rw [List.map_cons, List.map_cons]
    by_cases c : j = k
    · rw [if_pos c, if_pos c]; exact ⟨v, _, rfl, q, RepD.repl k q h2⟩
    · rw [if_neg c, if_neg c]; exact ⟨y, _, rfl, h1, RepD.repl k q h2⟩
theorem RepD.snoc {B : Hp} (k : Key) {u : U} {v : V} (q : Rep K B u v) : ∀ {kvs : List (Key × U)} {ws : List (Key × V)}, RepD K B kvs ws → RepD K B (kvs ++ [(k, u)]) (ws ++ [(k, v)])
  | [], _, h => by cases h; exact ⟨v, [], rfl, q, rfl⟩
  | (j, x) :: r, _, h => by
    obtain ⟨y, vr, rfl, h1, h2⟩ := h
    exact ⟨y, _, rfl, h1, RepD.snoc k q h2⟩
theorem RepD.put {B : Hp} (k : Key) {u : U} {v : V} (q : Rep K B u v) {kvs : List (Key × U)} {ws : List (Key × V)} (h : RepD K B kvs ws) : RepD K B (putD kvs k u) (putK ws k v) := by
  unfold putD putK
  rw [RepD.any k h]
  split
  · exact RepD.repl k q h
  · exact RepD.snoc k q h
end Sg
set_option Elab.async false
set_option linter.all false
set_option maxRecDepth 100000
set_option maxHeartbeats 4000000
namespace Sg
open PySem L2 PySem.Spec PyProof.Rows
end Sg
set_option Elab.async false
set_option linter.all false
set_option maxRecDepth 100000
set_option maxHeartbeats 4000000
namespace Sg
open PySem L2
end Sg
set_option Elab.async false
set_option linter.all false
set_option maxRecDepth 100000
set_option maxHeartbeats 4000000
namespace Sg
open PySem L2
end Sg
set_option Elab.async false
set_option linter.all false
set_option maxRecDepth 100000
set_option maxHeartbeats 4000000
namespace Sg
open PySem L2
end Sg
set_option Elab.async false
set_option linter.all false
set_option maxRecDepth 100000
set_option maxHeartbeats 4000000
namespace Sg
open PySem L2
end Sg
set_option Elab.async false
set_option linter.all false
set_option maxRecDepth 100000
set_option maxHeartbeats 4000000
namespace Sg
open PySem PySem.Spec PyProof.Rows L2
end Sg
set_option Elab.async false
set_option linter.all false
set_option maxRecDepth 100000
set_option maxHeartbeats 4000000
namespace Sg
open PySem L2
end Sg
set_option Elab.async false
set_option linter.all false
set_option maxRecDepth 100000
set_option maxHeartbeats 4000000
namespace Sg
open PySem L2
variable {K : PySem.W.Frag}
theorem mgTup_2 (gs : MGs K) (a b : U) (ρ : Env) : (@mgTup K 2 gs).m (.tup [a, b]) ρ = gs.m [a, b] ρ := rfl
theorem mgTup_3 (gs : MGs K) (a b c : U) (ρ : Env) : (@mgTup K 3 gs).m (.tup [a, b, c]) ρ = gs.m [a, b, c] ρ := rfl
theorem mgTup_4 (gs : MGs K) (a b c d : U) (ρ : Env) : (@mgTup K 4 gs).m (.tup [a, b, c, d]) ρ = gs.m [a, b, c, d] ρ := rfl
theorem scV_b (b : Bool) : scV (.bl b) = some (.bl b) := rfl
theorem scV_i (b : Int) : scV (.int b) = some (.int b) := rfl
theorem scV_s (b : Str) : scV (.str b) = some (.str b) := rfl
theorem scV_n : scV .non = some .non := rfl
theorem tyU_d (kvs : List (Key × U)) : tyU (.dic kvs) = some "dict" := rfl
end Sg
set_option Elab.async false
set_option linter.all false
set_option maxRecDepth 100000
set_option maxHeartbeats 4000000
namespace Sg
open PySem L2
variable {K : PySem.W.Frag}
def RepOk (u : U) (b d : Nat) : Prop := ∃ x, pdG u = some x ∧ x.showable = true ∧ x.leavesShort 128 = true ∧ x.bulk ≤ b ∧ x.depth ≤ d
def RepOkL (us : List U) (b d : Nat) : Prop := ∃ xs, pdGL us = some xs ∧ PyData.showableAll xs = true ∧ PyData.leavesShortAll 128 xs = true ∧ PyData.bulkAll xs ≤ b ∧ PyData.depthAll xs ≤ d
theorem RepOk.mono {u : U} {b d b' d' : Nat} (h : RepOk u b d) (hb : b ≤ b') (hd : d ≤ d') : RepOk u b' d' := by
  obtain ⟨x, h1, h2, h4, h5, h6⟩ := h
  exact ⟨x, h1, h2, h4, by omega, by omega⟩
theorem RepOkL.lst {us : List U} {b d : Nat} (h : RepOkL us b d) : RepOk (.lst us) b (d + 1) := by
  obtain ⟨xs, g1, g2, g4, g5, g6⟩ := h
  exact ⟨.list xs, by rw [pdG, g1]; rfl, by simpa only [PyData.showable] using g2, by simpa only [PyData.leavesShort] using g4, by simpa only [PyData.bulk] using g5, by simp only [PyData.depth]; omega⟩
theorem RepOkL.tup {us : List U} {b d : Nat} (h : RepOkL us b d) : RepOk (.tup us) b (d + 1) := by
  obtain ⟨xs, g1, g2, g4, g5, g6⟩ := h
  exact ⟨.tuple xs, by rw [pdG, g1]; rfl, by simpa only [PyData.showable] using g2, by simpa only [PyData.leavesShort] using g4, by simpa only [PyData.bulk] using g5, by simp only [PyData.depth]; omega⟩
end Sg
set_option Elab.async false
set_option linter.all false
set_option maxRecDepth 100000
set_option maxHeartbeats 4000000
namespace Sg
open PySem L2
end Sg
set_option Elab.async false
set_option linter.all false
set_option maxRecDepth 100000
set_option maxHeartbeats 4000000
namespace Sg
open PySem L2
section
open PyProof.Rows
end
end Sg
set_option Elab.async false
set_option linter.all false
set_option maxRecDepth 100000
set_option maxHeartbeats 4000000
namespace Sg
open PySem L2
end Sg
set_option Elab.async false
set_option linter.all false
set_option maxRecDepth 100000
set_option maxHeartbeats 4000000
namespace Sg
open PySem L2 PySem.Spec PyProof.Rows
end Sg
set_option Elab.async false
set_option linter.all false
set_option maxRecDepth 100000
set_option maxHeartbeats 4000000
namespace Sg
open PySem L2 PySem.Spec PyProof.Rows
variable {K : PySem.W.Frag}
inductive CsX where
  | own (y : Str) | bi (n : String)
def CsX.v (K : PySem.W.Frag) : CsX → V
  | .own y => .ref (He.ga K y)
  | .bi n => .ty n
def CsX.u (K : PySem.W.Frag) : CsX → Value
  | .own y => .ref (He.ga K y)
  | .bi n => .type n
theorem CsX.ok : ∀ c : CsX, ClsV (c.v K) (c.u K)
  | .own y => .own _
  | .bi n => .ty n
end Sg
set_option Elab.async false
set_option linter.all false
set_option maxRecDepth 100000
set_option maxHeartbeats 4000000
namespace Sg
open PySem L2 PyProof.Rows
variable {K : PySem.W.Frag}
structure CalMK (P : Program) (w : World) (K : PySem.W.Frag) (mg : Str → Option Value) (base : Heap) (CX : CXT) (k : Nat) (c m : Str) (n : Nat) (mf : List Slot → Option CO) (ks : List Str) (ix : List Nat) : Prop where
  cls : Cls K (He.ga K c)
  ok : ∃ f fd ps, Meth K (He.ga K c) m f ∧ FnOk P w K mg base CX k f fd ps (spM K n mf) ∧ ∀ (s : Shared) (self : Value) (ws : List Value), ws.length = ks.length → BindsTo s fd ⟨[self], ks.zip ws⟩ (ps.zip (self :: pm ix ws))
theorem CalMK.mono {P : Program} {w : World} {mg : Str → Option Value} {base : Heap} {CX : CXT} {j k : Nat} {c m : Str} {n : Nat} {mf : List Slot → Option CO} {ks : List Str} {ix : List Nat} (h : CalMK P w K mg base CX j c m n mf ks ix) (hjk : j ≤ k) : CalMK P w K mg base CX k c m n mf ks ix := by
  obtain ⟨h1, f, fd, ps, h2, h3, h4⟩ := h
  exact ⟨h1, f, fd, ps, h2, ⟨h3.len, fun A outer s H args us vs Q E hr => h3.run A outer s H args us vs Q E (hr.mono hjk)⟩, h4⟩
end Sg
set_option Elab.async false
set_option linter.all false
set_option maxRecDepth 100000
set_option maxHeartbeats 4000000
namespace Sg
open PySem L2
end Sg
set_option Elab.async false
set_option linter.all false
set_option maxRecDepth 100000
set_option maxHeartbeats 4000000
namespace Sg
open PySem L2
end Sg
set_option Elab.async false
set_option linter.all false
set_option maxRecDepth 100000
set_option maxHeartbeats 4000000
namespace Sg
open PySem L2
end Sg
set_option Elab.async false
set_option linter.all false
set_option maxRecDepth 100000
set_option maxHeartbeats 4000000
namespace Sg
open PySem L2
variable {K : PySem.W.Frag}
theorem bindEA_ok (u : U) (ρ : Env) (f : U → Env → Option AO) : bindEA (some (.ok u ρ)) f = f u ρ := rfl
theorem bindEA_ex (e : Exn) (ρ : Env) (f : U → Env → Option AO) : bindEA (some (.ex e ρ)) f = some (.ex e ρ) := rfl
end Sg
set_option Elab.async false
set_option linter.all false
set_option maxRecDepth 100000
set_option maxHeartbeats 4000000
namespace Sg
open PySem L2
end Sg
set_option Elab.async false
set_option linter.all false
set_option maxRecDepth 100000
set_option maxHeartbeats 4000000
namespace Sg
open PySem L2
end Sg
set_option Elab.async false
set_option linter.all false
set_option maxRecDepth 100000
set_option maxHeartbeats 4000000
namespace Sg
open PySem L2
end Sg
set_option Elab.async false
set_option linter.all false
set_option maxRecDepth 100000
set_option maxHeartbeats 4000000
namespace Sg
open PySem L2 PySem.Calls PySem.Spec PyProof.Rows
section
variable {CX : CXT} {P : Program} {w : World} {K : PySem.W.Frag} {mg : Str → Option Value} {base : Heap} {k : Nat} {f : Addr} {x qual p1 pv kw : Str} {st : Stmt} {fd : FuncData} {N : List Str} {sp : V → V → V → List V → Hp → VK → XK → Prop} {d : V}
theorem FnV0.mono {sp : V → V → List V → Hp → VK → XK → Prop} {j : Nat} (F : FnV0 P w K mg base CX j f d sp) (l : j ≤ k) : FnV0 P w K mg base CX k f d sp :=
  fun A outer s H a us va vs Q E hr => F A outer s H a us va vs Q E (hr.mono l)
end
end Sg
set_option Elab.async false
set_option linter.all false
set_option maxRecDepth 100000
set_option maxHeartbeats 4000000
namespace Sg
open PySem L2
end Sg
set_option Elab.async false
set_option linter.all false
set_option maxRecDepth 100000
set_option maxHeartbeats 4000000
namespace Sg
open PySem L2
variable {K : PySem.W.Frag}
theorem Rel.put {F : Fc} {ρ : Env} {σ : St} {B H : Hp} {i : Nat} {s : Slot} (R : Rel K F ρ σ B H) (hc : s.isC = false) (ok : SlotOk K F B H s (σ.getD i none)) : Rel K F (ρ.set i s) σ B H :=
  R.setG rfl (fun _ _ => rfl) (fun _ => ok) (fun _ _ _ _ _ _ _ h => by rw [ow_no hc] at h; cases h) (fun _ _ _ h => by rw [ow_no hc] at h; cases h) fun l => by cases s <;> first | (cases l; done) | (cases hc; done)
def un (B B1 : Hp) : Hp := fun a => match B a with
  | some o => some o
  | none => B1 a
def KeptP : Env → Env → Prop
  | [], [] => True
  | .non :: r, _ :: r' => KeptP r r'
  | s :: r, s' :: r' => s' = s ∧ KeptP r r'
  | _, _ => False
theorem KeptP.len : ∀ {ρ ρ' : Env}, KeptP ρ ρ' → ρ'.length = ρ.length
  | [], [], _ => rfl
  | [], _ :: _, h => by unfold KeptP at h; exact h.elim
  | s :: r, [], h => by cases s <;> exact h.elim
  | s :: r, s' :: r', h => by
    have : KeptP r r' := by
      cases s with
      | non => exact h
      | _ => exact h.2
    simp [this.len]
theorem KeptP.get : ∀ {ρ ρ' : Env} {j : Nat} {s : Slot}, KeptP ρ ρ' → ρ[j]? = some s → s ≠ .non → ρ'[j]? = some s
  | [], _, _, _, _, e, _ => by simp at e
  | s :: r, [], _, _, h, _, _ => by cases s <;> exact h.elim
  | s :: r, s' :: r', 0, t, h, e, n => by
    simp at e; subst e
    cases s with
    | non => exact absurd rfl n
    | _ => rw [h.1]; rfl
  | s :: r, s' :: r', j + 1, t, h, e, n => by
    have : KeptP r r' := by
      cases s with
      | non => exact h
      | _ => exact h.2
    simpa using this.get (j := j) (by simpa using e) n
end Sg
set_option Elab.async false
set_option linter.all false
set_option maxRecDepth 100000
set_option maxHeartbeats 4000000
namespace Sg
open PySem L2
end Sg
set_option Elab.async false
set_option linter.all false
set_option maxRecDepth 100000
set_option maxHeartbeats 4000000
namespace Sg
open PySem L2
end Sg
set_option Elab.async false
set_option linter.all false
set_option maxRecDepth 100000
set_option maxHeartbeats 4000000
namespace Sg
open PySem L2
end Sg
set_option Elab.async false
set_option linter.all false
set_option maxRecDepth 100000
set_option maxHeartbeats 4000000
namespace Sg
open PySem L2
end Sg
set_option Elab.async false
set_option linter.all false
set_option maxRecDepth 100000
set_option maxHeartbeats 4000000
namespace Sg
open PySem L2 PySem.Spec PyProof.Rows
end Sg
set_option Elab.async false
set_option linter.all false
set_option maxRecDepth 100000
namespace Sg
open PySem L2 PySem.Spec PyProof.Rows
end Sg
set_option Elab.async false
set_option linter.all false
set_option maxRecDepth 100000
namespace Sg
open PySem L2 PySem.Spec PyProof.Rows
end Sg
namespace Sg
open PySem L2 PySem.Spec PyProof.Rows
end Sg
set_option Elab.async false
set_option linter.all false
set_option maxRecDepth 100000
set_option maxHeartbeats 4000000
namespace Sg
open PySem L2
end Sg
set_option Elab.async false
set_option linter.all false
set_option maxRecDepth 100000
set_option maxHeartbeats 4000000
namespace Sg
open PySem L2 PySem.Spec PyProof.Rows
end Sg
set_option Elab.async false
set_option linter.all false
set_option maxRecDepth 100000
set_option maxHeartbeats 4000000
namespace Sg
open PySem L2 PySem.Spec PyProof.Rows
end Sg
set_option Elab.async false
set_option linter.all false
set_option maxRecDepth 100000
set_option maxHeartbeats 4000000
namespace Sg
open PySem L2
end Sg
set_option Elab.async false
set_option linter.all false
set_option maxRecDepth 100000
set_option maxHeartbeats 4000000
namespace Sg
open PySem L2
end Sg
set_option Elab.async false
set_option linter.all false
set_option maxRecDepth 100000
set_option maxHeartbeats 4000000
namespace Sg
open PySem L2
end Sg
set_option Elab.async false
set_option linter.all false
set_option maxRecDepth 100000
set_option maxHeartbeats 1000000
namespace Sg
open PySem L2 PySem.Spec PyProof.Rows
variable {K : PySem.W.Frag}
def Slot.plain : Slot → Bool
  | .non => true
  | .val _ => true
  | .cel _ us => us.all fun u => (scV u).isSome
  | _ => false
def ok2 (T1 T2 : MT K) (j : Nat) (us : List U) (ρ : Env) : Prop := us.length < 16777216 ∧ T1.m (ρ.set j (.val (.lst us))) = some (.ok false (ρ.set j (.val (.lst us)))) ∧ T2.m (ρ.set j (.val (.lst us))) = some (.ok false (ρ.set j (.val (.lst us))))
end Sg
set_option Elab.async false
set_option linter.all false
set_option maxRecDepth 100000
set_option maxHeartbeats 4000000
namespace Sg
open PySem L2
variable {K : PySem.W.Frag}
def putFl (f : Str) (x : Fld) : List (Str × Fld) → List (Str × Fld)
  | [] => [(f, x)]
  | (g, y) :: r => if g = f then (g, x) :: r else (g, y) :: putFl f x r
theorem inn_cons (H : Hp) (k k' : Str) (fl : Fld) (x : V) (fs : List (Str × Fld)) (ws : List (Str × V)) : inn H ((k, fl) :: fs) ((k', x) :: ws) = inn1 H fl x ++ inn H fs ws := rfl
section
variable {F : Fc} {ρ : Env} {σ : St} {B H B' H' : Hp}
theorem FsOk.len : ∀ {fs : List (Str × Fld)} {ws : List (Str × V)}, FsOk K B H fs ws → ws.length = fs.length
  | [], _, h => by cases h; rfl
  | (k, f) :: fs, _, h => by
    obtain ⟨x, r, rfl, _, h2⟩ := h
    simp [FsOk.len h2]
theorem FsOk.look {f : Str} {fl : Fld} : ∀ {fs : List (Str × Fld)} {ws : List (Str × V)}, FsOk K B H fs ws → fs.lookup f = some fl → ∃ x, ws.lookup f = some x ∧ FlOk K B H fl x ∧ ∀ q ∈ inn1 H fl x, q ∈ inn H fs ws
  | [], _, h, e => by cases e
  | (k, y) :: fs, _, h, e => by
    obtain ⟨x, r, rfl, h1, h2⟩ := h
    rw [List.lookup_cons] at e ⊢
    rw [inn_cons]
    cases c : f == k with
    | true => rw [c] at e; cases e; exact ⟨x, rfl, h1, fun q hq => List.mem_append_left _ hq⟩
    | false =>
      rw [c] at e
      obtain ⟨z, z1, z2, z3⟩ := FsOk.look h2 e
      exact ⟨z, z1, z2, fun q hq => List.mem_append_right _ (z3 q hq)⟩
theorem FsOk.put {f : Str} {fl' : Fld} {x' : V} (hf : FlOk K B H fl' x') : ∀ {fs : List (Str × Fld)} {ws : List (Str × V)}, FsOk K B H fs ws → (inn H fs ws).Nodup → (inn1 H fl' x').Nodup → (∀ q ∈ inn1 H fl' x', q ∉ inn H fs ws) →
    FsOk K B H (putFl f fl' fs) (putF f x' ws) ∧ (inn H (putFl f fl' fs) (putF f x' ws)).Nodup ∧ ∀ q ∈ inn H (putFl f fl' fs) (putF f x' ws), q ∈ inn1 H fl' x' ∨ q ∈ inn H fs ws
  | [], _, h, nd, n1, hd => by
    cases h
    have e : inn H [(f, fl')] [(f, x')] = inn1 H fl' x' := by rw [inn_cons]; exact List.append_nil _
    exact ⟨⟨x', [], rfl, hf, rfl⟩, by show (inn H [(f, fl')] [(f, x')]).Nodup; rw [e]; exact n1, fun q hq => .inl (by have : q ∈ inn H [(f, fl')] [(f, x')] := hq; rw [e] at this; exact this)⟩
  | (k, y) :: fs, _, h, nd, n1, hd => by
    obtain ⟨x, r, rfl, h1, h2⟩ := h
    rw [inn_cons] at nd hd
    unfold putFl putF
    by_cases c : k = f
    · rw [if_pos c, if_pos c]
      refine ⟨⟨x', r, rfl, hf, h2⟩, ?_, fun q hq => ?_⟩
      · rw [inn_cons]
        exact List.nodup_append.mpr ⟨n1, (List.nodup_append.mp nd).2.1, fun a ha b hb e => hd a ha (List.mem_append_right _ (by rw [e]; exact hb))⟩
      · rw [inn_cons] at hq ⊢
        rcases List.mem_append.mp hq with z | z
        · exact .inl z
        · exact .inr (List.mem_append_right _ z)
    · rw [if_neg c, if_neg c]
      obtain ⟨z1, z2, z3⟩ := FsOk.put hf h2 (List.nodup_append.mp nd).2.1 n1 fun q hq hm => hd q hq (List.mem_append_right _ hm)
      refine ⟨⟨x, _, rfl, h1, z1⟩, ?_, fun q hq => ?_⟩
      · rw [inn_cons]
        refine List.nodup_append.mpr ⟨(List.nodup_append.mp nd).1, z2, fun a ha b hb e => ?_⟩
        rcases z3 b hb with w | w
        · exact hd b w (List.mem_append_left _ (by rw [← e]; exact ha))
        · exact (List.nodup_append.mp nd).2.2 a ha b w e
      · rw [inn_cons] at hq ⊢
        rcases List.mem_append.mp hq with z | z
        · exact .inr (List.mem_append_left _ z)
        · exact (z3 q z).imp id fun w => List.mem_append_right _ w
structure ObjAt (K : PySem.W.Frag) (F : Fc) (B H : Hp) (own : Bool) (c : Str) (fs : List (Str × Fld)) (o : Option V) (p dx : Addr) (ws : List (Str × V)) : Prop where
  e : o = some (.ref p)
  h : H p = some (.ins (He.ga K c) dx ws)
  f : FsOk K B H fs ws
  nd : (p :: inn H fs ws).Nodup
  al : ∀ q ∈ p :: inn H fs ws, B q = none ∧ (if own then F.H0 q = none else (q ∈ F.M ∧ q ∈ F.O) ∨ F.H0 q = none)
theorem Rel.obj (R : Rel K F ρ σ B H) {i : Nat} {own : Bool} {c : Str} {fs : List (Str × Fld)} (hi : ρ[i]? = some (.obj own c fs)) : ∃ p dx ws, ObjAt K F B H own c fs (σ.getD i none) p dx ws := by
  obtain ⟨p, dx, ws, e, h1, h2, h3, h4⟩ := R.sl i _ hi
  exact ⟨p, dx, ws, e, h1, h2, h3, h4⟩
theorem ObjAt.ow {own : Bool} {c : Str} {fs : List (Str × Fld)} {o : Option V} {p dx : Addr} {ws : List (Str × V)} (h : ObjAt K F B H own c fs o p dx ws) : (Slot.obj own c fs).ow H o = p :: inn H fs ws := by
  rw [h.e]; show p :: inn H fs (insW (H p)) = _; rw [h.h]; rfl
theorem ObjAt.own {own : Bool} {c : Str} {fs : List (Str × Fld)} {o : Option V} {p dx q : Addr} {ws : List (Str × V)} (h : ObjAt K F B H own c fs o p dx ws) (hq : q ∈ p :: inn H fs ws) : F.H0 q = none ∨ q ∈ F.M := by
  have := (h.al q hq).2
  cases own with
  | true => exact .inl this
  | false => exact (Or.symm this).imp id And.left
theorem Rel.putFld (R : Rel K F ρ σ B H) {i : Nat} {own : Bool} {c f : Str} {fs : List (Str × Fld)} (hi : ρ[i]? = some (.obj own c fs)) {p dx : Addr} {ws : List (Str × V)} (O : ObjAt K F B H own c fs (σ.getD i none) p dx ws)
    {fl : Fld} {x : V} (hf : FlOk K B H fl x) (n1 : (inn1 H fl x).Nodup) (ha : ∀ q ∈ inn1 H fl x, B q = none ∧ F.H0 q = none ∧ (∀ (j : Nat) s, ρ[j]? = some s → q ∉ s.ow H (σ.getD j none)) ∧ ∀ o, (q, o) ∉ F.X) :
    Rel K F (ρ.set i (.obj own c (putFl f fl fs))) σ B (upd H p (.ins (He.ga K c) dx (putF f x ws))) := by
  obtain ⟨m1, m2⟩ := List.nodup_cons.mp O.nd
  have hp : p ∈ (Slot.obj own c fs).ow H (σ.getD i none) := by rw [O.ow]; exact List.mem_cons_self
  have hd : ∀ q ∈ inn1 H fl x, q ∉ p :: inn H fs ws := fun q hq hm => (ha q hq).2.2.1 i _ hi (by rw [O.ow]; exact hm)
  obtain ⟨z1, z2, z3⟩ := O.f.put (f := f) hf m2 n1 fun q hq hm => hd q hq (List.mem_cons_of_mem _ hm)
  have np : ∀ q ∈ inn H (putFl f fl fs) (putF f x ws), q ≠ p := fun q hq e => by
    rcases z3 q hq with w | w
    · exact hd q w (by rw [e]; exact List.mem_cons_self)
    · exact m1 (by rw [← e]; exact w)
  obtain ⟨y1, y2⟩ := z1.move (H' := upd H p (.ins (He.ga K c) dx (putF f x ws))) Ex.refl fun q hq => upd_ne (np q hq)
  have O2 : ObjAt K F B (upd H p (.ins (He.ga K c) dx (putF f x ws))) own c (putFl f fl fs) (σ.getD i none) p dx (putF f x ws) := ⟨O.e, upd_same, y1, by rw [y2]; exact List.nodup_cons.mpr ⟨fun hm => np p hm rfl, z2⟩, by
    rw [y2]
    exact fun q hq => by
      rcases List.mem_cons.mp hq with w | w
      · rw [w]; exact O.al p List.mem_cons_self
      · rcases z3 q w with y | y
        · obtain ⟨a1, a2, _⟩ := ha q y
          refine ⟨a1, ?_⟩
          cases own with
          | true => exact a2
          | false => exact .inr a2
        · exact O.al q (List.mem_cons_of_mem _ y)⟩
  refine R.reslot hi hp ⟨p, dx, _, O2.e, O2.h, O2.f, O2.nd, O2.al⟩ (fun q hq => ?_) (fun l => by cases own <;> exact l)
  rw [O2.ow, y2] at hq
  rw [O.ow]
  rcases List.mem_cons.mp hq with w | w
  · exact .inl (by rw [w]; exact List.mem_cons_self)
  · rcases z3 q w with y | y
    · exact .inr ⟨(ha q y).2.2.1, (ha q y).2.2.2⟩
    · exact .inl (List.mem_cons_of_mem _ y)
end
end Sg
set_option Elab.async false
set_option linter.all false
set_option maxRecDepth 100000
set_option maxHeartbeats 4000000
namespace Sg
open PySem L2
variable {K : PySem.W.Frag}
def fldU : Fld → U
  | .v u => u
  | .l us => .lst us
  | .d kvs => .dic kvs
  | .ll uss => .lst (uss.map U.lst)
  | .dl kvs => .dic (kvs.map fun p => (p.1, U.lst p.2))
  | .dn kvs => .ndc kvs
def fsU (fs : List (Str × Fld)) : List (Str × U) := fs.map fun p => (p.1, fldU p.2)
theorem LsOk.look {B H : Hp} (x : Ex B H) : ∀ {uss : List (List U)} {ws : List V}, LsOk K B H uss ws → RepL K H (uss.map U.lst) ws
  | [], _, h => h
  | us :: uss, _, h => by
    obtain ⟨q, vs, r, rfl, h1, h2, h3⟩ := h
    exact ⟨.ref q, r, rfl, ⟨q, vs, rfl, h1, RepL.mono x _ _ h2⟩, LsOk.look x h3⟩
theorem DsOk.look {B H : Hp} (x : Ex B H) : ∀ {uss : List (Key × List U)} {ws : List (Key × V)}, DsOk K B H uss ws → RepD K H (uss.map fun p => (p.1, U.lst p.2)) ws
  | [], _, h => h
  | (k, us) :: uss, _, h => by
    obtain ⟨q, vs, r, rfl, h1, h2, h3⟩ := h
    exact ⟨.ref q, r, rfl, ⟨q, vs, rfl, h1, RepL.mono x _ _ h2⟩, DsOk.look x h3⟩
theorem FlOk.look {B H : Hp} (x : Ex B H) {fl : Fld} {v : V} (h : FlOk K B H fl v) : Rep K H (fldU fl) v := by
  cases fl with
  | v u => exact Rep.mono x _ _ h
  | l us => obtain ⟨q, ws, rfl, h1, h2⟩ := h; exact ⟨q, ws, rfl, h1, RepL.mono x _ _ h2⟩
  | d us => obtain ⟨q, ws, rfl, h1, h2⟩ := h; exact ⟨q, ws, rfl, .inl h1, RepD.mono x _ _ h2⟩
  | ll us => obtain ⟨q, ws, rfl, h1, h2⟩ := h; exact ⟨q, ws, rfl, h1, h2.look x⟩
  | dl us => obtain ⟨q, ws, rfl, h1, h2⟩ := h; exact ⟨q, ws, rfl, .inl h1, h2.look x⟩
  | dn us => obtain ⟨q, ws, rfl, h1, h2⟩ := h; exact ⟨q, ws, rfl, ((h1.upG fun _ _ z => x.t z).m fun _ _ z => z).rd, RepN.mono x _ _ h2⟩
theorem FsOk.rep {B H : Hp} (x : Ex B H) : ∀ {fs : List (Str × Fld)} {ws : List (Str × V)}, FsOk K B H fs ws → RepF K H (fsU fs) ws
  | [], _, h => h
  | (k, f) :: fs, _, h => by
    obtain ⟨v, r, rfl, h1, h2⟩ := h
    exact ⟨v, r, rfl, h1.look x, FsOk.rep x h2⟩
def sFldT (K : PySem.W.Frag) (f : Str) (cs : List Str) (ta tv : TE) : TS := fun D σ H => tv σ H fun y H1 => ta σ H1 fun x H2 => ∃ a c dx fs, x = .ref a ∧ H2 a = some (.ins (He.ga K c) dx fs) ∧ c ∈ cs ∧ fs.length < 1000 ∧ D.nx σ (upd H2 a (.ins (He.ga K c) dx (putF f y fs)))
open PyProof.Rows in
theorem ps_fldT {X : Cx} {o value : Expr} {f : Str} {cs : List Str} {pos pos' : Pos} {ta tv : TE} (hT : FldT X.K f cs) (ho : PE X o ta) (hv : PE X value tv) (hs : swapsWith value (some (.Attribute o f pos')) pos.line X.env = pure false) : PS X (.Assign [.Attribute o f pos'] value pos) (sFldT X.K f cs ta tv) := by
  refine ⟨fun pins s σ H D I h => ?_⟩
  refine plainObj_wpAny_Assign_Attribute (thn (hv.run pins s σ H _ I h) fun r s1 ⟨y, H1, I1, ry, q1⟩ => thn (ho.run pins s1 σ H1 _ I1 q1) fun u s2 ⟨x, H2, I2, rx, a, c, dx, fs, ex, ea, hc, lf, q2⟩ => ?_) hs
  subst ex
  obtain rfl : u = Value.ref a := rx
  exact setattr_ok I2 ea (hT c hc).1 (hT c hc).2 lf ry fun s3 I3 => ⟨σ, _, I3, q2⟩
def msOF (f : Str) (cs : List Str) (i : Nat) (e : ME K) (he : e.k = true := by exact id rfl) : MS K where
  t := fun W => sFldT K f cs (tVar i) (e.t W)
  m := fun ρ => bindES (e.m ρ) fun u ρ1 => match ρ1[i]? with
    | some (.obj own c fs) => if c ∈ cs ∧ fs.length < 1000 then some (.nx (ρ1.set i (.obj own c (putFl f (.v u) fs)))) else none
    | _ => none
  ok := fun F W ρ σ B H D o q R g => by
    rcases bindES_some q with ⟨u, ρ1, e1, q⟩ | ⟨x, ρ1, e1, rfl⟩
    · refine e.ok F W ρ σ B H _ _ e1 R fun v B1 H1 x1 p1 R1 r1 => ?_
      rw [he, if_pos rfl] at r1
      split at q
      · rename_i own c fs hu
        split at q
        · rename_i hc
          cases q
          obtain ⟨p, dx, ws, O⟩ := R1.obj hu
          exact ⟨_, getD_some O.e, p, c, dx, ws, rfl, O.h, hc.1, by rw [O.f.len]; exact hc.2, g σ B1 _ x1 (R1.putFld hu O (fl := .v u) r1 List.nodup_nil fun q hq => by cases hq)⟩
        · cases q
      · cases q
    · exact e.ok F W ρ σ B H _ _ e1 R fun cls d B1 H1 x1 R1 xr => g cls d σ B1 H1 x1 R1 xr
theorem LsOk.frz {B B' H : Hp} (xb : Ex B B') : ∀ {uss : List (List U)} {ws : List V}, (∀ q ∈ ws.flatMap adV, B' q = H q) → LsOk K B H uss ws → RepL K B' (uss.map U.lst) ws
  | [], _, _, h => h
  | us :: uss, _, hq, h => by
    obtain ⟨q, vs, r, rfl, h1, h2, h3⟩ := h
    exact ⟨.ref q, r, rfl, ⟨q, vs, rfl, by rw [hq q List.mem_cons_self]; exact h1, RepL.mono xb _ _ h2⟩, LsOk.frz xb (fun z hz => hq z (List.mem_cons_of_mem _ hz)) h3⟩
theorem DsOk.frz {B B' H : Hp} (xb : Ex B B') : ∀ {uss : List (Key × List U)} {ws : List (Key × V)}, (∀ q ∈ ws.flatMap (fun kv => adV kv.2), B' q = H q) → DsOk K B H uss ws → RepD K B' (uss.map fun p => (p.1, U.lst p.2)) ws
  | [], _, _, h => h
  | (k, us) :: uss, _, hq, h => by
    obtain ⟨q, vs, r, rfl, h1, h2, h3⟩ := h
    exact ⟨.ref q, r, rfl, ⟨q, vs, rfl, by rw [hq q List.mem_cons_self]; exact h1, RepL.mono xb _ _ h2⟩, DsOk.frz xb (fun z hz => hq z (List.mem_cons_of_mem _ hz)) h3⟩
theorem FlOk.frz {B B' H : Hp} (xb : Ex B B') {fl : Fld} {x : V} (hq : ∀ q ∈ inn1 H fl x, B' q = H q) (h : FlOk K B H fl x) : Rep K B' (fldU fl) x := by
  cases fl with
  | v u => exact Rep.mono xb _ _ h
  | l us => obtain ⟨q, ws, rfl, h1, h2⟩ := h; exact ⟨q, ws, rfl, by rw [hq q List.mem_cons_self]; exact h1, RepL.mono xb _ _ h2⟩
  | d us => obtain ⟨q, ws, rfl, h1, h2⟩ := h; exact ⟨q, ws, rfl, .inl (by rw [hq q List.mem_cons_self]; exact h1), RepD.mono xb _ _ h2⟩
  | ll us =>
    obtain ⟨q, ws, rfl, h1, h2⟩ := h
    rw [inn1_ll h1] at hq
    exact ⟨q, ws, rfl, by rw [hq q List.mem_cons_self]; exact h1, h2.frz xb fun z hz => hq z (List.mem_cons_of_mem _ hz)⟩
  | dl us =>
    obtain ⟨q, ws, rfl, h1, h2⟩ := h
    rw [inn1_dl h1] at hq
    exact ⟨q, ws, rfl, .inl (by rw [hq q List.mem_cons_self]; exact h1), h2.frz xb fun z hz => hq z (List.mem_cons_of_mem _ hz)⟩
  | dn us => obtain ⟨q, ws, rfl, h1, h2⟩ := h; exact ⟨q, ws, rfl, (((h1.upG fun _ _ z => xb.t z).at (hq q List.mem_cons_self)).m fun _ _ z => z).rd, RepN.mono xb _ _ h2⟩
theorem FsOk.frz {B B' H : Hp} (xb : Ex B B') : ∀ {fs : List (Str × Fld)} {ws : List (Str × V)}, (∀ q ∈ inn H fs ws, B' q = H q) → FsOk K B H fs ws → RepF K B' (fsU fs) ws
  | [], _, _, h => h
  | (k, f) :: fs, _, hq, h => by
    obtain ⟨v, r, rfl, h1, h2⟩ := h
    exact ⟨v, r, rfl, h1.frz xb fun q hm => hq q (List.mem_append_left _ hm), FsOk.frz xb (fun q hm => hq q (List.mem_append_right _ hm)) h2⟩
theorem Rel.freezeA {F : Fc} {ρ : Env} {σ : St} {B H : Hp} {i : Nat} {s : Slot} {u : U} {v : V} (R : Rel K F ρ σ B H) (hu : ρ[i]? = some s) (h0 : ∀ q ∈ s.ow H (σ.getD i none), F.H0 q = none) (hv : σ.getD i none = some v)
    (rp : ∀ B', Ex B B' → (∀ q ∈ s.ow H (σ.getD i none), B' q = H q) → Rep K B' u v) : ∃ B', Ex B B' ∧ Rep K B' u v ∧ Rel K F (ρ.set i (.val u)) σ B' H := by
  have hB : ∀ a, a ∈ s.ow H (σ.getD i none) → (fun a => if a ∈ s.ow H (σ.getD i none) then H a else B a) a = H a := fun a ha => if_pos ha
  have xb : Ex B (fun a => if a ∈ s.ow H (σ.getD i none) then H a else B a) := fun a o e => by
    show (if a ∈ s.ow H (σ.getD i none) then H a else B a) = some o
    by_cases c : a ∈ s.ow H (σ.getD i none)
    · rw [(R.owned hu c).2.1] at e; cases e
    · rw [if_neg c]; exact e
  have r := rp _ xb hB
  refine ⟨_, xb, r, ?_⟩
  have R1 := R.chg (B' := fun a => if a ∈ s.ow H (σ.getD i none) then H a else B a) (H' := H) hu xb (fun a o e => by
      by_cases c : a ∈ s.ow H (σ.getD i none)
      · have : (if a ∈ s.ow H (σ.getD i none) then H a else B a) = some o := e
        rw [if_pos c] at this; exact this
      · have : (if a ∈ s.ow H (σ.getD i none) then H a else B a) = some o := e
        rw [if_neg c] at this; exact R.ex a o this) (fun a o n h => ⟨h, fun z => by
      show (if a ∈ s.ow H (σ.getD i none) then H a else B a) = none
      rw [if_neg n]; exact z⟩) (fun a ha => (R.owned hu ha).1) (fun a o ha hm => by rw [h0 a ha] at hm; cases hm)
  have := R1.setG (i := i) (s' := .val u) (σ' := σ) rfl (fun _ _ => rfl) (fun _ => ⟨_, hv, r⟩) (fun _ _ _ _ _ _ _ h => nomatch h) fun _ _ _ h => nomatch h
  rw [List.set_set] at this
  exact this
end Sg
set_option Elab.async false
set_option linter.all false
set_option maxRecDepth 100000
set_option maxHeartbeats 4000000
namespace Sg
open PySem L2
variable {K : PySem.W.Frag}
inductive COG where
  | val (u : U) (cs : List Slot)
  | ex (e : Exn) (cs : List Slot)
def Slot.withFlag (b : Bool) : Slot → Slot
  | .cel _ us => .cel b us
  | .celD _ us => .celD b us
  | .obj _ c fs => .obj b c fs
  | .fld _ fl => .fld b fl
  | s => s
def Slot.kd : Slot → Nat
  | .obj _ _ _ => 1
  | .fld _ _ => 2
  | _ => 0
def unownG (s : Slot) : Slot := s.withFlag false
theorem ow_flag (b : Bool) (s : Slot) (H : Hp) (o : Option V) : (s.withFlag b).ow H o = s.ow H o := by cases s <;> rfl
def owA (H : Hp) (as : List Slot) (vs : List V) : List Addr := (List.range as.length).flatMap fun i => match as[i]? with
  | some s => s.ow H vs[i]?
  | none => []
theorem mem_owA {H : Hp} {as : List Slot} {vs : List V} {p : Addr} : p ∈ owA H as vs ↔ ∃ (i : Nat) (s : Slot), as[i]? = some s ∧ p ∈ s.ow H vs[i]? := by
  unfold owA
  rw [List.mem_flatMap]
  constructor
  · rintro ⟨i, hi, hp⟩
    cases c : as[i]? with
    | none => rw [c] at hp; cases hp
    | some s => rw [c] at hp; exact ⟨i, s, c, hp⟩
  · rintro ⟨i, s, e, hp⟩
    exact ⟨i, List.mem_range.mpr (List.getElem?_eq_some_iff.mp e).1, by rw [e]; exact hp⟩
def owO (H : Hp) (as : List Slot) (vs : List V) : List Addr := (List.range as.length).flatMap fun i => match as[i]? with
  | some s => if s.kd = 1 then s.ow H vs[i]? else []
  | none => []
theorem mem_owO {H : Hp} {as : List Slot} {vs : List V} {p : Addr} : p ∈ owO H as vs ↔ ∃ (i : Nat) (s : Slot), as[i]? = some s ∧ s.kd = 1 ∧ p ∈ s.ow H vs[i]? := by
  unfold owO
  rw [List.mem_flatMap]
  constructor
  · rintro ⟨i, hi, hp⟩
    cases c : as[i]? with
    | none => rw [c] at hp; cases hp
    | some s =>
      rw [c] at hp
      dsimp only at hp
      split at hp
      · rename_i h; exact ⟨i, s, c, h, hp⟩
      · cases hp
  · rintro ⟨i, s, e, h, hp⟩
    exact ⟨i, List.mem_range.mpr (List.getElem?_eq_some_iff.mp e).1, by rw [e]; dsimp only; rw [if_pos h]; exact hp⟩
abbrev fcG (B H : Hp) (as : List Slot) (vs : List V) (S : St) (X : List (Addr × HO)) : Fc := ⟨B, H, owA H as vs, X, S, owO H as vs⟩
structure ArgsG (K : PySem.W.Frag) (B H : Hp) (as : List Slot) (vs : List V) : Prop where
  len : vs.length = as.length
  ok : ∀ (i : Nat) s, as[i]? = some s → SlotOk K (fcG B H as vs [] []) B H (unownG s) vs[i]?
  ds : ∀ (i j : Nat) s t p, i ≠ j → as[i]? = some s → as[j]? = some t → p ∈ s.ow H vs[i]? → p ∈ t.ow H vs[j]? → False
  one : ∀ (i j : Nat) s t, as[i]? = some s → as[j]? = some t → s.kd = t.kd → s.kd ≠ 0 → i = j
structure AfterG (K : PySem.W.Frag) (B H : Hp) (as : List Slot) (vs : List V) (B' H' : Hp) (cs : List Slot) : Prop where
  len : cs.length = as.length
  ok : ∀ (i : Nat) s c, as[i]? = some s → cs[i]? = some c → (s.isC = false ∧ c = .non) ∨ (s.isC = true ∧ c.lent = true ∧ c.kd = s.kd ∧ SlotOk K (fcG B H as vs [] []) B' H' c vs[i]?)
  ds : ∀ (i j : Nat) s t p, i ≠ j → cs[i]? = some s → cs[j]? = some t → p ∈ s.ow H' vs[i]? → p ∈ t.ow H' vs[j]? → False
def FinG (K : PySem.W.Frag) (B H : Hp) (as : List Slot) (vs : List V) (Q : VK) (E : XK) : COG → Prop
  | .val u cs => ∀ v B' H', Go (owA H as vs) B H B' H' → AfterG K B H as vs B' H' cs → Rep K B' u v → Q v H'
  | .ex e cs => ∀ cls d B' H', Go (owA H as vs) B H B' H' → AfterG K B H as vs B' H' cs → XRelC K H e cls d H' → E cls d H'
def spG (K : PySem.W.Frag) (n : Nat) (mf : List Slot → Option COG) : Sp := fun vs H Q E => ∃ (B : Hp) (as : List Slot) (o : COG), Ex B H ∧ as.length = n ∧ ArgsG K B H as vs ∧ mf as = some o ∧ FinG K B H as vs Q E o
theorem spG_len {n : Nat} {mf : List Slot → Option COG} (vs : List V) (H : Hp) (Q : VK) (E : XK) (h : spG K n mf vs H Q E) : vs.length = n := by
  obtain ⟨B, as, o, _, e, a, _⟩ := h
  rw [a.len, e]
def retG : List Slot → Env → Option (List Slot)
  | [], _ => some []
  | _ :: _, [] => none
  | s :: as, t :: ρ => if s.isC = true then (if t.lent = true ∧ t.kd = s.kd then (retG as ρ).map (t :: ·) else none) else (retG as ρ).map (.non :: ·)
theorem retG_ok : ∀ {as : List Slot} {ρ : Env} {cs : List Slot}, retG as ρ = some cs → cs.length = as.length ∧ ∀ (i : Nat) s c, as[i]? = some s → cs[i]? = some c → (s.isC = false ∧ c = .non) ∨ (s.isC = true ∧ ρ[i]? = some c ∧ c.lent = true ∧ c.kd = s.kd)
  | [], ρ, cs, h => by cases h; exact ⟨rfl, fun i s c e => by simp at e⟩
  | s :: as, [], cs, h => by cases h
  | s :: as, t :: ρ, cs, h => by
    unfold retG at h
    split at h
    · rename_i hs
      split at h
      · rename_i ht
        obtain ⟨r, hr, rfl⟩ := Option.map_eq_some_iff.mp h
        obtain ⟨l, k⟩ := retG_ok hr
        refine ⟨by simp [l], fun i s' c e1 e2 => ?_⟩
        cases i with
        | zero => cases e1; cases e2; exact .inr ⟨hs, rfl, ht.1, ht.2⟩
        | succ i => simpa using k i s' c (by simpa using e1) (by simpa using e2)
      · cases h
    · rename_i hs
      obtain ⟨r, hr, rfl⟩ := Option.map_eq_some_iff.mp h
      obtain ⟨l, k⟩ := retG_ok hr
      refine ⟨by simp [l], fun i s' c e1 e2 => ?_⟩
      cases i with
      | zero => cases e1; cases e2; exact .inl ⟨by simpa using hs, rfl⟩
      | succ i => simpa using k i s' c (by simpa using e1) (by simpa using e2)
def mfG (N : Nat) (body : Env → Option SO) (as : List Slot) : Option COG :=
  match body (as.map unownG ++ List.replicate (N - as.length) .non) with
  | some (.nx ρ) => (retG as ρ).map fun cs => .val .non cs
  | some (.rt (.val u) ρ) => (retG as ρ).map fun cs => .val u cs
  | some (.ex e ρ) => (retG as ρ).map fun cs => .ex e cs
  | _ => none
theorem SlotOk.fc {F F' : Fc} {B H : Hp} {s : Slot} {o : Option V} (h : SlotOk K F B H s o) (hM : F'.M = F.M) (h0 : F'.H0 = F.H0) (hO : F'.O = F.O) : SlotOk K F' B H s o := by
  cases F; cases F'
  cases hM; cases h0; cases hO
  cases s <;> exact h
theorem start_get {N : List Str} {vs : List V} {i : Nat} (h : i < vs.length) : (L2.start N vs).getD i none = vs[i]? := by
  unfold L2.start
  rw [List.getD_eq_getElem?_getD, List.getElem?_append_left (by simpa using h), List.getElem?_map, List.getElem?_eq_getElem h]
  rfl
theorem start_relG {B H : Hp} {as : List Slot} {vs : List V} {N : List Str} (x : Ex B H) (a : ArgsG K B H as vs) (hn : as.length ≤ N.length) :
    Rel K (fcG B H as vs (L2.start N vs) []) (as.map unownG ++ List.replicate (N.length - as.length) .non) (L2.start N vs) B H := by
  have hl := a.len
  have get : ∀ (i : Nat) s, (as.map unownG ++ List.replicate (N.length - as.length) Slot.non)[i]? = some s → (i < as.length ∧ ∃ t, as[i]? = some t ∧ s = unownG t) ∨ s = .non := fun i s e => by
    by_cases c : i < as.length
    · rw [List.getElem?_append_left (by simpa using c), List.getElem?_map] at e
      obtain ⟨t, e1, e2⟩ := Option.map_eq_some_iff.mp e
      exact .inl ⟨c, t, e1, e2.symm⟩
    · rw [List.getElem?_append_right (by simpa using c)] at e
      exact .inr (List.eq_of_mem_replicate (List.mem_of_getElem? e))
  have gv : ∀ i, i < as.length → (L2.start N vs).getD i none = vs[i]? := fun i c => start_get (by omega)
  refine ⟨by simp [L2.start, hl], x, fun i s e => ?_, fun i j s t p ne e1 e2 h1 h2 => ?_, Ex.refl, fun _ _ _ h => h, fun _ o h => ⟨o, h⟩, fun _ _ h _ => h, fun _ _ h => by simp at h, fun _ _ h => by simp at h, by simp, fun _ _ _ _ => rfl⟩
  · rcases get i s e with ⟨c, t, e1, rfl⟩ | rfl
    · rw [gv i c]; exact (a.ok i t e1).fc rfl rfl rfl
    · trivial
  · rcases get i s e1 with ⟨c1, u, q1, rfl⟩ | rfl
    · rcases get j t e2 with ⟨c2, w, q2, rfl⟩ | rfl
      · rw [gv i c1] at h1; rw [gv j c2] at h2
        unfold unownG at h1 h2
        rw [ow_flag] at h1 h2
        exact a.ds i j u w p ne q1 q2 h1 h2
      · cases h2
    · cases h1
theorem end_G {B H B' H' : Hp} {as : List Slot} {vs : List V} {N : List Str} {ρ' : Env} {σ' : St} {X : List (Addr × HO)} {cs : List Slot} (a : ArgsG K B H as vs) (R : Rel K (fcG B H as vs (L2.start N vs) X) ρ' σ' B' H') (e : retG as ρ' = some cs) : AfterG K B H as vs B' H' cs := by
  obtain ⟨l, k⟩ := retG_ok e
  have loc : ∀ (i : Nat) s c, as[i]? = some s → ρ'[i]? = some c → c.lent = true → σ'.getD i none = vs[i]? := fun i s c e1 e2 hc => by
    rw [R.ln i c e2 hc]
    exact start_get (by rw [a.len]; exact (List.getElem?_eq_some_iff.mp e1).1)
  have nn : ∀ (i : Nat) c, cs[i]? = some c → ∃ s, as[i]? = some s := fun i c e => by
    have := (List.getElem?_eq_some_iff.mp e).1
    exact ⟨as[i]'(by omega), List.getElem?_eq_getElem _⟩
  refine ⟨l, fun i s c e1 e2 => ?_, fun i j s t p ne e1 e2 h1 h2 => ?_⟩
  · rcases k i s c e1 e2 with ⟨h1, h2⟩ | ⟨h1, h2, h3, h4⟩
    · exact .inl ⟨h1, h2⟩
    · refine .inr ⟨h1, h3, h4, ?_⟩
      have q := R.sl i c h2
      rw [loc i s c e1 h2 h3] at q
      exact q.fc rfl rfl rfl
  · obtain ⟨s0, es⟩ := nn i s e1
    obtain ⟨t0, et⟩ := nn j t e2
    rcases k i s0 s es e1 with ⟨_, rfl⟩ | ⟨_, y2, y3, _⟩
    · cases h1
    · rcases k j t0 t et e2 with ⟨_, rfl⟩ | ⟨_, z2, z3, _⟩
      · cases h2
      · rw [← loc i s0 s es y2 y3] at h1
        rw [← loc j t0 t et z2 z3] at h2
        exact R.ds i j s t p ne y2 z2 h1 h2
theorem body_finG {N : List Str} {b : MS K} {vs : List V} {H : Hp} {Q : VK} {E : XK} {B : Hp} {as : List Slot} {o : COG} (x : Ex B H) (hn : as.length ≤ N.length) (a : ArgsG K B H as vs)
    (e : mfG N.length b.m as = some o) (f : FinG K B H as vs Q E o) : b.t (fun cls d _ H' => E cls d H') { nx := fun _ H' => Q .non H', rt := Q } (L2.start N vs) H := by
  unfold mfG at e
  split at e
  · rename_i ρ eb
    obtain ⟨c, ec, rfl⟩ := Option.map_eq_some_iff.mp e
    exact b.ok _ _ _ _ B H _ _ eb (start_relG x a hn) fun σ' B' H' _ R => f .non B' H' (R.go rfl rfl) (end_G a R ec) rfl
  · rename_i u ρ eb
    obtain ⟨c, ec, rfl⟩ := Option.map_eq_some_iff.mp e
    exact b.ok _ _ _ _ B H _ _ eb (start_relG x a hn) fun v σ' B' H' _ R r => f v B' H' (R.go rfl rfl) (end_G a R ec) r
  · rename_i xx ρ eb
    obtain ⟨c, ec, rfl⟩ := Option.map_eq_some_iff.mp e
    exact b.ok _ _ _ _ B H _ _ eb (start_relG x a hn) fun cls d σ' B' H' _ R xr => f cls d B' H' (R.go rfl rfl) (end_G a R ec) (XRel.down xr)
  · cases e
section
variable {P : Program} {w : World} {mg : Str → Option Value} {base : Heap}
theorem fn_okGX {x qual : Str} {st : Stmt} {f : Addr} {fd : FuncData} {N ps : List Str} {k n : Nat} (F : Fun K x qual st f fd) (S : FnScope N ps (defScope st)) (b : MS K) (hn : ps.length = n) (hN : n ≤ N.length)
    (d : ∀ (cdv : Value) (A : Around) (outer : List PySem.Env) (s : Shared) (H : Hp) (E : XK), Room k (A.deeper (PyProof.Rows.envOfC qual (defScope st) s.heap.objs.size f cdv)) → ∃ t, PSs (cxOf (L2.CX P w) P w K mg base N qual (defScope st) f cdv A outer s H E) (defBody st) t ∧ t = b.t fun cls d _ H => E cls d H) :
    FnOk P w K mg base (L2.CX P w) (k + 1) f fd ps (spG K n (mfG N.length b.m)) := by
  refine F.okX S (fun vs H Q E h => by rw [hn]; exact spG_len vs H Q E h) fun cdv A outer s H vs Q E hr h => ⟨b.t fun cls d _ H => E cls d H, (by obtain ⟨t, h1, h2⟩ := d cdv A outer s H E hr; rw [← h2]; exact h1), ?_⟩
  obtain ⟨B, as, o, x, e, a, m, f⟩ := h
  exact body_finG x (by omega) a m f
end
end Sg
set_option Elab.async false
set_option linter.all false
set_option maxRecDepth 100000
set_option maxHeartbeats 4000000
namespace Sg
open PySem L2
variable {K : PySem.W.Frag}
abbrev MTabG := List (Str × (List Slot → Option COG))
structure CalMG (P : Program) (w : World) (K : PySem.W.Frag) (mg : Str → Option Value) (base : Heap) (k : Nat) (c m : Str) (n : Nat) (mf : List Slot → Option COG) : Prop where
  cls : Cls K (He.ga K c)
  ok : ∃ f, Meth K (He.ga K c) m f ∧ FnR P w K mg base (L2.CX P w) k f (spG K n mf)
section
variable {P : Program} {w : World} {mg : Str → Option Value} {base : Heap} {k n : Nat} {c m : Str} {mf : List Slot → Option COG} {tab : MTabG}
theorem FnR.mono {CX : CXT} {j : Nat} {f : Addr} {sp : Sp} (F : FnR P w K mg base CX j f sp) (l : j ≤ k) : FnR P w K mg base CX k f sp := fun A outer s H us vs Q E hr => F A outer s H us vs Q E (hr.mono l)
theorem CalMG.mono {j : Nat} (h : CalMG P w K mg base j c m n mf) (l : j ≤ k) : CalMG P w K mg base k c m n mf := by
  obtain ⟨a, f, b, d⟩ := h
  exact ⟨a, f, b, d.mono l⟩
end
theorem FsOk.none {B H : Hp} {m : Str} : ∀ {fs : List (Str × Fld)} {ws : List (Str × V)}, FsOk K B H fs ws → fs.lookup m = none → ws.lookup m = none
  | [], _, h, _ => by cases h; rfl
  | (k, u) :: us, _, h, e => by
    obtain ⟨v, r, rfl, _, h2⟩ := h
    rw [List.lookup_cons] at e ⊢
    cases c : m == k with
    | true => rw [c] at e; cases e
    | false => rw [c] at e; exact FsOk.none h2 e
inductive OOb where
  | ok (c : Str) (fs : List (Str × Fld)) (ρ : Env)
  | ex (e : Exn) (ρ : Env)
structure NewO (K : PySem.W.Frag) (F : Fc) (ρ : Env) (σ : St) (B H : Hp) (c : Str) (fs : List (Str × Fld)) (p dx : Addr) (ws : List (Str × V)) : Prop where
  h : H p = some (.ins (He.ga K c) dx ws)
  f : FsOk K B H fs ws
  nd : (p :: inn H fs ws).Nodup
  al : ∀ q ∈ p :: inn H fs ws, B q = none ∧ F.H0 q = none
  nc : ∀ (j : Nat) s q, ρ[j]? = some s → q ∈ s.ow H (σ.getD j none) → q ∉ p :: inn H fs ws
  nx : ∀ q o, q ∈ p :: inn H fs ws → (q, o) ∉ F.X
def FinO (K : PySem.W.Frag) (F : Fc) (W : WX) (σ : St) (B H : Hp) (Q : VK) : OOb → Prop
  | .ok c fs ρ' => ∀ p dx ws B' H', Ex B B' → Rel K F ρ' σ B' H' → NewO K F ρ' σ B' H' c fs p dx ws → Q (.ref p) H'
  | .ex e ρ' => ∀ cls d B' H', Ex B B' → Rel K F ρ' σ B' H' → XRel K F e cls d H' → W cls d σ H'
structure MOb (K : PySem.W.Frag) where
  t : WX → TE
  m : Env → Option OOb
  ok : ∀ (F : Fc) (W : WX) (ρ : Env) (σ : St) (B H : Hp) (Q : VK) (o : OOb), m ρ = some o → Rel K F ρ σ B H → FinO K F W σ B H Q o → t W σ H Q
theorem NewO.set {F : Fc} {ρ : Env} {σ : St} {B H : Hp} {c : Str} {fs : List (Str × Fld)} {p dx : Addr} {ws : List (Str × V)} (N : NewO K F ρ σ B H c fs p dx ws) (R : Rel K F ρ σ B H) (i : Nat) : Rel K F (ρ.set i (.obj true c fs)) (σ.set i (some (.ref p))) B H := by
  have how : (Slot.obj true c fs).ow H (some (.ref p)) = p :: inn H fs ws := by show p :: inn H fs (insW (H p)) = _; rw [N.h]; rfl
  refine R.setG (by simp) (fun j ne => getD_set_ne ne) (fun hi => ?_) (fun hi j s q ne e hq hq2 => ?_) (fun hi q o hq => ?_)
  · rw [getD_set hi, if_pos rfl]
    exact ⟨p, dx, ws, rfl, N.h, N.f, N.nd, N.al⟩
  · rw [getD_set hi, if_pos rfl, how] at hq2
    exact N.nc j s q e hq hq2
  · rw [getD_set hi, if_pos rfl, how] at hq
    exact N.nx q o hq
def tMakeO (K : PySem.W.Frag) (c : Str) (n : Nat) (mf : List Slot → Option COG) (E : St → XK) (t : TA) : TE := fun σ H Q => t σ H fun vs H1 => ∀ x dx, H1 x = none → H1 dx = none → dx ≠ x →
  spG K n mf (.ref x :: vs) (upd (upd H1 dx (.own x)) x (.ins (He.ga K c) dx [])) (fun v H2 => v = .non ∧ Q (.ref x) H2) (E σ)
def valsOf : List (U ⊕ Nat) → Option (List U)
  | [] => some []
  | .inl u :: r => (valsOf r).map fun us => u :: us
  | .inr _ :: _ => none
theorem valsOf_ok {B : Hp} {σ : St} : ∀ {is : List (U ⊕ Nat)} {vs : List V} {us : List U}, ItemsOk K B σ is vs → valsOf is = some us → RepL K B us vs
  | [], _, us, h, e => by cases h; cases e; exact rfl
  | .inl u :: r, _, us, h, e => by
    obtain ⟨v, vr, rfl, h1, h2⟩ := h
    obtain ⟨bs, eb, rfl⟩ := Option.map_eq_some_iff.mp e
    exact ⟨v, vr, rfl, h1, valsOf_ok h2 eb⟩
  | .inr j :: r, _, us, h, e => by cases e
def makeM (c : Str) (n : Nat) (mf : List Slot → Option COG) (us : List U) : Option (Sum (List (Str × Fld)) Exn) :=
  if us.length + 1 = n then (match mf (.obj true c [] :: us.map .val) with
    | some (.val .non (.obj false c' fs :: _)) => if c' = c then some (.inl fs) else none
    | some (.ex e _) => some (.inr e)
    | _ => none) else none
def mMkO (c : Str) (n : Nat) (mf : List Slot → Option COG) (a : MC K) (hk : a.k = true := by exact id rfl) : MOb K where
  t := fun W => tMakeO K c n mf (WE W) (a.t W)
  m := fun ρ => (a.m ρ).bind fun o => match o with
    | .ok is ρ1 => (valsOf is).bind fun us => (makeM c n mf us).map fun r => match r with
      | .inl fs => .ok c fs ρ1
      | .inr e => .ex e ρ1
    | .ex e ρ1 => some (.ex e ρ1)
  ok := fun F W ρ σ B H Q out e R f => by
    obtain ⟨o, e1, e⟩ := Option.bind_eq_some_iff.mp e
    cases o with
    | ex x ρ1 => cases e; exact a.ok F W ρ σ B H _ _ e1 R fun cls d B1 H1 x1 R1 xr => f cls d B1 H1 x1 R1 xr
    | ok is ρ1 =>
      refine a.ok F W ρ σ B H _ _ e1 R fun vs B1 H1 x1 p1 R1 r1 => ?_
      rw [hk, if_pos rfl] at r1
      obtain ⟨us, eu, e⟩ := Option.bind_eq_some_iff.mp e
      have ru := valsOf_ok r1 eu
      obtain ⟨r, er, rfl⟩ := Option.map_eq_some_iff.mp e
      intro x dx hx hd ne
      have g1 := Go.newC (o := .own x) R1.ex hd
      have R2 := R1.grow g1
      have hx0 : upd H1 dx (.own x) x = none := by rw [upd_ne (Ne.symm ne)]; exact hx
      have g2 := Go.newC (o := .ins (He.ga K c) dx []) R2.ex hx0
      have R3 := R2.grow g2
      generalize hH : upd (upd H1 dx (.own x)) x (.ins (He.ga K c) dx []) = H3 at *
      have hx3 : H3 x = some (.ins (He.ga K c) dx []) := by rw [← hH]; exact upd_same
      have lv := ru.length
      have getA : ∀ (i : Nat) s, (Slot.obj true c [] :: us.map Slot.val)[i]? = some s → (i = 0 ∧ s = .obj true c []) ∨ ∃ k u, i = k + 1 ∧ us[k]? = some u ∧ s = .val u := fun i s es => by
        cases i with
        | zero => cases es; exact .inl ⟨rfl, rfl⟩
        | succ k =>
          rw [List.getElem?_cons_succ, List.getElem?_map] at es
          obtain ⟨u, h1, h2⟩ := Option.map_eq_some_iff.mp es
          exact .inr ⟨k, u, rfl, h1, h2.symm⟩
      have ow0 : (Slot.obj true c []).ow H3 (some (.ref x)) = [x] := by show x :: inn H3 [] (insW (H3 x)) = _; rw [hx3]; rfl
      have memx : ∀ p, p ∈ owA H3 (Slot.obj true c [] :: us.map Slot.val) (V.ref x :: vs) → p = x := fun p hp => by
        obtain ⟨i, s, es, hp⟩ := mem_owA.mp hp
        rcases getA i s es with ⟨rfl, rfl⟩ | ⟨k, u, rfl, _, rfl⟩
        · rw [show (V.ref x :: vs)[0]? = some (.ref x) from rfl, ow0] at hp
          exact List.mem_singleton.mp hp
        · cases hp
      have inx : x ∈ owA H3 (Slot.obj true c [] :: us.map Slot.val) (V.ref x :: vs) := mem_owA.mpr ⟨0, _, rfl, by rw [show (V.ref x :: vs)[0]? = some (.ref x) from rfl, ow0]; exact List.mem_singleton_self x⟩
      have bx : B1 x = none := R1.ex.none hx
      have ag : ArgsG K B1 H3 (Slot.obj true c [] :: us.map Slot.val) (V.ref x :: vs) := by
        refine ⟨by simp [lv], fun i s es => ?_, fun i j s t p hn es1 es2 h1 h2 => ?_, fun i j s t es1 es2 hk h0 => ?_⟩
        · rcases getA i s es with ⟨rfl, rfl⟩ | ⟨k, u, rfl, hu, rfl⟩
          · exact ⟨x, dx, [], rfl, hx3, rfl, by simp [inn], fun q hq => by
              rw [List.mem_singleton.mp hq]
              exact ⟨bx, .inl ⟨inx, mem_owO.mpr ⟨0, _, rfl, rfl, by rw [show (V.ref x :: vs)[0]? = some (.ref x) from rfl, ow0]; exact List.mem_singleton_self x⟩⟩⟩⟩
          · obtain ⟨v, hv, rv⟩ := ru.get hu
            exact ⟨v, by rw [List.getElem?_cons_succ]; exact hv, rv⟩
        · rcases getA i s es1 with ⟨rfl, rfl⟩ | ⟨k, u, rfl, _, rfl⟩
          · rcases getA j t es2 with ⟨rfl, rfl⟩ | ⟨k, u, rfl, _, rfl⟩
            · exact hn rfl
            · cases h2
          · cases h1
        · rcases getA i s es1 with ⟨rfl, rfl⟩ | ⟨k, u, rfl, _, rfl⟩
          · rcases getA j t es2 with ⟨rfl, rfl⟩ | ⟨k, u, rfl, _, rfl⟩
            · rfl
            · exact absurd hk h0
          · exact absurd rfl h0
      have newF : ∀ q, (H3 q = none ∨ q = x) → F.H0 q = none ∧ (∀ (j : Nat) s, ρ1[j]? = some s → q ∉ s.ow H3 (σ.getD j none)) ∧ ∀ o, (q, o) ∉ F.X := fun q hq => by
        rcases hq with hq | rfl
        · exact ⟨R3.fresh0 hq, fun j s es => R3.notC hq j s es, fun o ho => by have := (R3.xx q o ho).1; rw [hq] at this; cases this⟩
        · exact ⟨R2.fresh0 hx0, fun j s es => by rw [R2.ow_eq g2 es]; exact R2.notC hx0 j s es, fun o ho => by have := (R2.xx q o ho).1; rw [hx0] at this; cases this⟩
      have Rgo : ∀ B' H', Go (owA H3 (Slot.obj true c [] :: us.map Slot.val) (V.ref x :: vs)) B1 H3 B' H' → Rel K F ρ1 σ B' H' ∧ ∀ (j : Nat) s, ρ1[j]? = some s → s.ow H' (σ.getD j none) = s.ow H3 (σ.getD j none) := fun B' H' g => by
        have nx : ∀ {j : Nat} {s : Slot} {q : Addr}, ρ1[j]? = some s → q ∈ s.ow H3 (σ.getD j none) → q ∉ owA H3 (Slot.obj true c [] :: us.map Slot.val) (V.ref x :: vs) := fun {j s q} es hq hm => by
          rw [memx q hm] at hq
          exact (newF x (.inr rfl)).2.1 j s es hq
        have mv : ∀ (j : Nat) s q, ρ1[j]? = some s → q ∈ s.ow H3 (σ.getD j none) → H' q = H3 q ∧ B' q = none := fun j s q es hq => by
          obtain ⟨⟨u, hu⟩, hb, _⟩ := R3.owned es hq
          exact ⟨by rw [hu]; exact g.hh q u (nx es hq) hu, g.nw q u hb hu⟩
        have n0 : ∀ {b : Addr} {o : HO}, F.H0 b = some o → b ∉ owA H3 (Slot.obj true c [] :: us.map Slot.val) (V.ref x :: vs) := fun {b o} h hm => by
          rw [memx b hm, (newF x (.inr rfl)).1] at h; cases h
        refine ⟨R3.move g.bb g.bh mv (fun b o n h => g.hh b o (n0 h) (R3.hh b o n h)) (fun b o h => ?_) (fun b o n h => ?_) (fun b o h => ?_), fun j s es => ((R3.sl j s es).move g.bb fun q hq => mv j s q es hq).2⟩
        · obtain ⟨o', h'⟩ := R3.th b o h
          exact g.th b o' h'
        · obtain ⟨o', h'⟩ := R3.th b o h
          exact g.nw b o' (R3.nw b o n h) h'
        · obtain ⟨z1, z2, z3⟩ := R3.xx b o h
          exact ⟨g.hh b o (fun hm => (newF x (.inr rfl)).2.2 o (by rw [← memx b hm]; exact h)) z1, g.nw b o z2 z1, z3⟩
      unfold makeM at er
      split at er
      · rename_i hn
        split at er
        · rename_i c' fs rest em
          split at er
          · rename_i hc
            subst hc
            cases er
            refine ⟨B1, _, _, R3.ex, by simp [hn], ag, em, fun v B' H' g A rv => ⟨rv, ?_⟩⟩
            obtain ⟨R', hsame⟩ := Rgo B' H' g
            have A0 := A.ok 0 (.obj true c' []) (.obj false c' fs) rfl rfl
            rcases A0 with ⟨z, _⟩ | ⟨_, _, _, p, dx', ws, ep, z1, z2, z3, z4⟩
            · cases z
            have ep' : some (V.ref x) = some (.ref p) := ep
            cases ep'
            have cond : ∀ q ∈ x :: inn H' fs ws, H3 q = none ∨ q = x := fun q hq => by
              rcases (z4 q hq).2 with y | y
              · exact .inr (memx q y.1)
              · exact .inl y
            refine f x dx' ws B' H' (x1.trans g.bb) R' ⟨z1, z2, z3, fun q hq => ⟨(z4 q hq).1, (newF q (cond q hq)).1⟩, fun j s q es hq hm => ?_, fun q o hq => (newF q (cond q hq)).2.2 o⟩
            rw [hsame j s es] at hq
            exact (newF q (cond q hm)).2.1 j s es hq
          · cases er
        · rename_i y rest em
          cases er
          exact ⟨B1, _, _, R3.ex, by simp [hn], ag, em, fun cls d B' H' g A xr => f cls d B' H' (x1.trans g.bb) (Rgo B' H' g).1 (XRel.up R3 xr)⟩
        · cases er
      · cases er
section
open PyProof.Rows
variable {X : Cx} {W : WX} {k n i j : Nat} {x y c : Str} {mf : List Slot → Option COG} {e b : Expr} {es : List Expr} {L : MC X.K} {M : MOb X.K} {p pos p2 : Pos}
structure CalO (P : Program) (w : World) (K : PySem.W.Frag) (mg : Str → Option Value) (base : Heap) (k : Nat) (c : Str) (n : Nat) (mf : List Slot → Option COG) : Prop where
  mg_ : mg c = some (.ref (He.ga K c))
  ok : ∃ f, Mk K (He.ga K c) f ∧ FnR P w K mg base (L2.CX P w) k f (spG K n mf)
theorem run_makeR {C f : Addr} {sp : Sp} {pins : List (Addr × Obj)} {σ : L2.St} {H : Hp} {s : Shared} {Q : VK} {E : XK} {us : List Value} {vs : List V} (M : Mk X.K C f) (F : FnR X.prog X.w X.K X.mg X.base (L2.CX X.prog X.w) k f sp) (hr : Room (k + 1) X.A) (hx : PassesAt (L2.CX X.prog X.w) X σ E)
    (I : Inv X pins σ H s) (rv : Vals vs us) (h : ∀ x dx, H x = none → H dx = none → dx ≠ x → sp (.ref x :: vs) (upd (upd H dx (.own x)) x (.ins C dx [])) (fun v H2 => v = .non ∧ Q (.ref x) H2) E) :
    wpAny (model X.prog X.w) X.A (call (.ref C) us) (EP X pins σ Q) X.xe s := by
  have hq := h (s.heap.objs.size + 1) s.heap.objs.size (I.hok.fresh (Nat.le_succ _)) (I.hok.fresh (Nat.le_refl _)) (Nat.ne_of_lt (Nat.lt_succ_self _))
  have I2 := Inv.made (C := C) I
  refine wpAny_call (make_map (f := f) I.kIn M.makes M.init (beq_iff_eq.mp M.fn) (codeAny_mono (F _ X.stack _ _ (Value.ref (s.heap.objs.size + 1) :: us) (V.ref (s.heap.objs.size + 1) :: vs) _ E (hr.make C us []) (I2.env0.make C us []) (.cons rfl rv) hq) fun r1 s' hq' => ?_))
  cases r1 with
  | error e => exact hx pins _ _ e s' I2 hq'
  | ok fl =>
    cases fl with
    | ret u =>
      obtain ⟨v, H', I3, rv, ev, q3⟩ := I2.after hq'
      subst ev
      exact ⟨rv, ⟨V.ref (s.heap.objs.size + 1), H', I3, rfl, q3⟩⟩
    | next => exact False.elim hq'
    | brk => exact False.elim hq'
    | cont => exact False.elim hq'
theorem dMkO {h} (c1 : CalO X.prog X.w X.K X.mg X.base k c n mf) (hr : Room (k + 1) X.A) (tk : Takes X W) (ha : PA X (e :: es) (L.t W)) (hg : Gl X c := by rfl) (hdb : (c == ("__debug__" : Str)) = false := by decide)
    (he : starEach (e :: es) X.env = (false, eval e X.env) :: starEach es X.env := by rfl) (hpl : (backTo pos (starEach es X.env)).any (·.1) = false := by rfl) : PE X (.Call (.Name c p) (e :: es) [] pos) ((mMkO c n mf L h).t W) := by
  refine ⟨fun pins s σ H Q I hq => ?_⟩
  obtain ⟨f, M, F⟩ := c1.ok
  refine wpAny_Call_Name_kw (ld_glob I hg c1.mg_ ?_ hdb)
  refine PySem.W.callWith_K (h₀ := X.base) I.ok.mod.kin M.kp (thn (ha.run pos pins s σ H _ I hq) fun us s1 ⟨vs, H1, I1, r, q⟩ => ⟨I1.kIn, ?_⟩) he hpl
  exact run_makeR M F hr (passAt tk σ) I1 r q
variable {tab : MTabG} {m f : Str} {cs : List Str} {apos : Pos} {pl : Sem Bool} {o v : Expr} {A V2 : ME X.K} {F : MF X.K} {OM : OpM X.K} {LA : MA X.K} {pos' : Pos}
theorem sof {h} (hT : FldT X.K f cs) (he : PE X v (A.t W)) (hN : X.N[i]? = some x := by rfl) (hv : Vis X.env.scope x := by first | exact Or.inl rfl | exact Or.inr (Or.inl rfl) | exact Or.inr (Or.inr rfl)) (hd : (x == ("__debug__" : Str)) = false := by decide)
    (hcd : (x == ("__classdict__" : Str)) = false := by decide) (hs : swapsWith v (some (.Attribute (.Name x p) f pos')) pos.line X.env = pure false := by rfl) : PS X (.Assign [.Attribute (.Name x p) f pos'] v pos) ((msOF f cs i A h).t W) := ps_fldT hT (pe_var hN hv hd hcd) he hs
end
end Sg
set_option Elab.async false
set_option linter.all false
set_option maxRecDepth 100000
set_option maxHeartbeats 4000000
namespace Sg
open PySem L2
variable {K : PySem.W.Frag}
section
variable {B H : Hp}
theorem LsOk.len : ∀ {uss : List (List U)} {ws : List V}, LsOk K B H uss ws → ws.length = uss.length
  | [], _, h => by cases h; rfl
  | us :: uss, _, h => by
    obtain ⟨q, vs, r, rfl, _, _, h3⟩ := h
    simp [LsOk.len h3]
theorem LsOk.get : ∀ {uss : List (List U)} {ws : List V} {k : Nat} {us : List U}, LsOk K B H uss ws → uss[k]? = some us → ∃ q vs, ws[k]? = some (.ref q) ∧ H q = some (.lst vs) ∧ RepL K B us vs ∧ q ∈ ws.flatMap adV
  | [], _, _, _, _, e => by simp at e
  | us :: uss, _, 0, _, h, e => by
    obtain ⟨q, vs, r, rfl, h1, h2, h3⟩ := h
    cases e
    exact ⟨q, vs, rfl, h1, h2, List.mem_cons_self⟩
  | us :: uss, _, k + 1, _, h, e => by
    obtain ⟨q, vs, r, rfl, h1, h2, h3⟩ := h
    obtain ⟨z, zs, y1, y2, y3, y4⟩ := LsOk.get (k := k) h3 (by simpa using e)
    exact ⟨z, zs, by simpa using y1, y2, y3, List.mem_cons_of_mem _ y4⟩
end
def mLetF (i : Nat) : ME K where
  t := fun _ => tVar i
  m := fun ρ => match ρ[i]? with
    | some (.fld true fl) => some (.ok (fldU fl) (ρ.set i (.val (fldU fl))))
    | _ => none
  p := false
  k := true
  ok := fun F W ρ σ B H Q o e R f => by
    split at e
    · rename_i fl hu
      cases e
      obtain ⟨x, e0, h1, h2, h3⟩ := R.sl i _ hu
      obtain ⟨B', xb, rp, R'⟩ := R.freezeA (u := fldU fl) (v := x) hu (by rw [e0]; exact fun q hq => (h3 q hq).2) e0 fun B' xb hB => by
        rw [e0] at hB
        exact h1.frz xb hB
      exact ⟨_, getD_some e0, f _ B' H xb (fun z => nomatch z) R' rp⟩
    · cases e
section
open PyProof.Rows
variable {X : Cx} {W : WX} {k n i : Nat} {x f : Str} {cs : List Str} {e b v : Expr} {es : List Expr} {A V2 : ME X.K} {F : MF X.K} {p pos p2 p3 pos' apos cpos : Pos} {LA : MA X.K} {OM : OpM X.K} {name : Str} {id : String}
theorem dletF (hN : X.N[i]? = some x := by rfl) (hv : Vis X.env.scope x := by first | exact Or.inl rfl | exact Or.inr (Or.inl rfl) | exact Or.inr (Or.inr rfl)) (hd : (x == ("__debug__" : Str)) = false := by decide)
    (hcd : (x == ("__classdict__" : Str)) = false := by decide) : PE X (.Name x pos) ((mLetF (K := X.K) i).t W) := pe_var hN hv hd hcd
end
end Sg
set_option Elab.async false
set_option linter.all false
set_option maxRecDepth 100000
set_option maxHeartbeats 4000000
namespace Sg
open PySem L2
variable {K : PySem.W.Frag}
theorem msOF_m (f : Str) (cs : List Str) (i : Nat) (e : ME K) (he : e.k = true) (ρ : Env) : (@msOF K f cs i e he).m ρ = (bindES (e.m ρ) fun u ρ1 => match ρ1[i]? with
    | some (.obj own c fs) => if c ∈ cs ∧ fs.length < 1000 then some (.nx (ρ1.set i (.obj own c (putFl f (.v u) fs)))) else none
    | _ => none) := rfl
theorem mMkO_m (c : Str) (n : Nat) (mf : List Slot → Option COG) (a : MC K) (hk : a.k = true) (ρ : Env) : (@mMkO K c n mf a hk).m ρ = ((a.m ρ).bind fun o => match o with
    | .ok is ρ1 => (valsOf is).bind fun us => (makeM c n mf us).map fun r => match r with
      | .inl fs => .ok c fs ρ1
      | .inr e => .ex e ρ1
    | .ex e ρ1 => some (.ex e ρ1)) := rfl
theorem mLetF_m (i : Nat) (ρ : Env) : (@mLetF K i).m ρ = (match ρ[i]? with
    | some (.fld true fl) => some (.ok (fldU fl) (ρ.set i (.val (fldU fl))))
    | _ => none) := rfl
def finG (as : List Slot) (x : Option SO) : Option COG := match x with
  | some (.nx ρ) => (retG as ρ).map fun cs => .val .non cs
  | some (.rt (.val u) ρ) => (retG as ρ).map fun cs => .val u cs
  | some (.ex e ρ) => (retG as ρ).map fun cs => .ex e cs
  | _ => none
theorem mfG_e (N : Nat) (b : MS K) (as : List Slot) : mfG N b.m as = finG as (b.m (as.map unownG ++ List.replicate (N - as.length) .non)) := rfl
theorem finG_nx (as : List Slot) (ρ : Env) : finG as (some (.nx ρ)) = (retG as ρ).map fun cs => .val .non cs := rfl
theorem finG_val (as : List Slot) (u : U) (ρ : Env) : finG as (some (.rt (.val u) ρ)) = (retG as ρ).map fun cs => .val u cs := rfl
theorem finG_ex (as : List Slot) (e : Exn) (ρ : Env) : finG as (some (.ex e ρ)) = (retG as ρ).map fun cs => .ex e cs := rfl
theorem retG_nil (ρ : Env) : retG [] ρ = some [] := rfl
theorem retG_cons (s t : Slot) (as : List Slot) (ρ : Env) : retG (s :: as) (t :: ρ) = if s.isC = true then (if t.lent = true ∧ t.kd = s.kd then (retG as ρ).map (t :: ·) else none) else (retG as ρ).map (.non :: ·) := rfl
theorem nodup_0 : ([] : List Nat).Nodup = True := by simp
theorem nodup_1 (j : Nat) : [j].Nodup = True := by simp
end Sg
set_option Elab.async false
set_option linter.all false
set_option maxRecDepth 100000
set_option maxHeartbeats 1000000
namespace Sg
open PySem L2 PySem.Spec PyProof.Rows
end Sg
set_option Elab.async false
set_option linter.all false
set_option maxRecDepth 100000
set_option maxHeartbeats 4000000
namespace Sg
open PySem L2 PySem.Calls PySem.Spec PyProof.Rows
end Sg
set_option Elab.async false
set_option linter.all false
set_option maxRecDepth 100000
namespace RSB
open PySem PySem.Spec PyProof.Rows L2
end RSB
set_option Elab.async false
set_option linter.all false
set_option maxRecDepth 100000
namespace Sg
open PySem L2 PySem.Spec PyProof.Rows
end Sg
set_option Elab.async false
set_option linter.all false
set_option maxRecDepth 100000
set_option maxHeartbeats 4000000
namespace Sg
open PySem L2
section
open PyProof.Rows
end
end Sg
set_option Elab.async false
set_option linter.all false
set_option maxRecDepth 100000
set_option maxHeartbeats 4000000
namespace Sg
open PySem L2
section
open PyProof.Rows
end
end Sg
set_option Elab.async false
set_option linter.all false
set_option maxRecDepth 100000
set_option maxHeartbeats 4000000
namespace Sg
open PySem L2
variable {K : PySem.W.Frag}
abbrev adW (ws : List (Key × V)) : List Addr := ws.flatMap fun kv => adV kv.2
def valL : List (Key × List U) → Key → Option (List U)
  | [], _ => none
  | p :: r, k => if p.1 = k then some p.2 else valL r k
def dropL (kvs : List (Key × List U)) (k : Key) : List (Key × List U) := kvs.filter fun kv => decide (kv.1 ≠ k)
section
variable {B H : Hp}
theorem DsOk.len : ∀ {uss : List (Key × List U)} {ws : List (Key × V)}, DsOk K B H uss ws → ws.length = uss.length
  | [], _, h => by cases h; rfl
  | (k, us) :: uss, _, h => by
    obtain ⟨q, vs, r, rfl, _, _, h3⟩ := h
    simp [DsOk.len h3]
theorem DsOk.val (k : Key) : ∀ {uss : List (Key × List U)} {ws : List (Key × V)}, DsOk K B H uss ws → (valL uss k = none → valV ws k = none) ∧ ∀ us, valL uss k = some us → ∃ q vs, valV ws k = some (.ref q) ∧ H q = some (.lst vs) ∧ RepL K B us vs ∧ q ∈ adW ws
  | [], _, h => by cases h; exact ⟨fun _ => rfl, fun u e => by cases e⟩
  | (j, u) :: r, _, h => by
    obtain ⟨q, vs, vr, rfl, h1, h2, h3⟩ := h
    obtain ⟨z1, z2⟩ := DsOk.val k h3
    unfold valL
    by_cases c : j = k
    · rw [if_pos c]
      refine ⟨fun z => (by cases z), fun w e => ?_⟩
      cases e
      exact ⟨q, vs, valV_pos c, h1, h2, List.mem_cons_self⟩
    · rw [if_neg c, valV_neg (p := (j, V.ref q)) c]
      refine ⟨z1, fun w e => ?_⟩
      obtain ⟨q2, vs2, y1, y2, y3, y4⟩ := z2 w e
      exact ⟨q2, vs2, y1, y2, y3, List.mem_cons_of_mem _ y4⟩
theorem DsOk.drop (k : Key) : ∀ {uss : List (Key × List U)} {ws : List (Key × V)}, DsOk K B H uss ws → DsOk K B H (dropL uss k) (dropK ws k)
  | [], _, h => by cases h; rfl
  | (j, u) :: r, _, h => by
    obtain ⟨q, vs, vr, rfl, h1, h2, h3⟩ := h
    have ih := DsOk.drop k h3
    unfold dropL dropK at ih ⊢
    by_cases c : j = k
    · rw [List.filter_cons_of_neg (by simp [c]), List.filter_cons_of_neg (by simp [c])]; exact ih
    · rw [List.filter_cons_of_pos (by simp [c]), List.filter_cons_of_pos (by simp [c])]
      exact ⟨q, vs, _, rfl, h1, h2, ih⟩
end
end Sg
set_option Elab.async false
set_option linter.all false
set_option maxRecDepth 100000
set_option maxHeartbeats 4000000
namespace Sg
open PySem L2
end Sg
set_option Elab.async false
set_option linter.all false
set_option maxRecDepth 100000
set_option maxHeartbeats 4000000
namespace Sg
open PySem L2
variable {K : PySem.W.Frag}
theorem Rel.knowL {F : Fc} {ρ : Env} {σ : St} {H : Hp} : ∀ (L : List Addr) {B : Hp}, Rel K F ρ σ B H → (∀ q ∈ L, (∃ o, H q = some o) ∧ B q = none ∧ F.H0 q = none ∧ (∀ (j : Nat) s, ρ[j]? = some s → q ∉ s.ow H (σ.getD j none)) ∧ ∀ o, (q, o) ∉ F.X) →
    ∃ B', Ex B B' ∧ (∀ q ∈ L, B' q = H q) ∧ Rel K F ρ σ B' H
  | [], B, R, _ => ⟨B, Ex.refl, by simp, R⟩
  | q :: L, B, R, h => by
    obtain ⟨⟨o, ho⟩, h2, h3, h4, h5⟩ := h q List.mem_cons_self
    by_cases c : q ∈ L
    · obtain ⟨B', x, y, R'⟩ := Rel.knowL L R fun z hz => h z (List.mem_cons_of_mem _ hz)
      exact ⟨B', x, fun z hz => by rcases List.mem_cons.mp hz with w | w; rw [w]; exact y q c; exact y z w, R'⟩
    · have R1 := R.know ho h2 h3 h4 h5
      obtain ⟨B', x, y, R'⟩ := Rel.knowL L R1 fun z hz => by
        obtain ⟨a, b, c', d, e⟩ := h z (List.mem_cons_of_mem _ hz)
        exact ⟨a, by rw [upd_ne fun w => c (by rw [← w]; exact hz)]; exact b, c', d, e⟩
      refine ⟨B', (Ex.new h2).trans x, fun z hz => ?_, R'⟩
      rcases List.mem_cons.mp hz with w | w
      · rw [w, ho]; exact x _ _ upd_same
      · exact y z w
def mMkV (e : MOb K) : ME K where
  t := e.t
  m := fun ρ => (e.m ρ).map fun o => match o with
    | .ok c fs ρ1 => .ok (.ins c (fsU fs)) ρ1
    | .ex x ρ1 => .ex x ρ1
  p := false
  k := true
  ok := fun F W ρ σ B H Q out q R f => by
    obtain ⟨o, e1, rfl⟩ := Option.map_eq_some_iff.mp q
    cases o with
    | ok c fs ρ1 =>
      refine e.ok F W ρ σ B H _ _ e1 R fun p dx ws B1 H1 x1 R1 N => ?_
      obtain ⟨B2, xb, hB, R2⟩ := Rel.knowL (p :: inn H1 fs ws) R1 fun z hz => ⟨by
        rcases List.mem_cons.mp hz with w | w
        · rw [w]; exact ⟨_, N.h⟩
        · exact N.f.alive z w, (N.al z hz).1, (N.al z hz).2, fun j s es hm => N.nc j s z es hm hz, fun o => N.nx z o hz⟩
      exact f (.ref p) B2 H1 (x1.trans xb) (fun z => nomatch z) R2 ⟨p, dx, ws, rfl, (hB p List.mem_cons_self).trans N.h, N.f.frz xb fun z hz => hB z (List.mem_cons_of_mem _ hz)⟩
    | ex x ρ1 => exact e.ok F W ρ σ B H _ _ e1 R fun cls d B1 H1 x1 R1 xr => f cls d B1 H1 x1 R1 xr
theorem mMkV_m (e : MOb K) (ρ : Env) : (mMkV e).m ρ = (e.m ρ).map fun o => match o with
    | .ok c fs ρ1 => .ok (.ins c (fsU fs)) ρ1
    | .ex x ρ1 => .ex x ρ1 := rfl
section
open PyProof.Rows
variable {X : Cx} {W : WX} {k n i : Nat} {x f : Str} {cs : List Str} {e b c v : Expr} {A C V2 : ME X.K} {p pos p2 p3 pos' apos cpos pd pl : Pos}
theorem dmkV {E : MOb X.K} (h : PE X e (E.t W)) : PE X e ((mMkV E).t W) := h
end
end Sg
set_option Elab.async false
set_option linter.all false
set_option maxRecDepth 100000
set_option maxHeartbeats 4000000
namespace Sg
open PySem L2
variable {K : PySem.W.Frag}
section
open PyProof.Rows
variable {X : Cx} {W : WX}
theorem sw_trueD {kx vx : Expr} {gs : List Comprehension} {scope : Scope} {pos py : Pos} {y : Str} {l : Nat} {env : PySem.Env} (hk : env.scope.kind = .function) (hy : env.scope.names.lookup y = some .local) (hl : (py.line == pos.line) = true)
    (ha : (scope.names.any fun (n, k) => n == y && (k == .local || k == .cell)) = false) : swapsWith (.DictComp kx vx gs scope pos) (some (.Name y py)) l env = pure true := by
  have ky : env.kindOf y = some .local := hy
  have hb : env.blockKind = .function := by unfold Env.blockKind; rw [hk]; rfl
  unfold swapsWith
  simp only [hb, ky, ha, Expr.pos, hl]
  rfl
end
end Sg
set_option Elab.async false
set_option linter.all false
set_option maxRecDepth 100000
set_option maxHeartbeats 4000000
namespace Sg
open PySem L2
end Sg
set_option Elab.async false
set_option linter.all false
set_option maxRecDepth 100000
set_option maxHeartbeats 4000000
namespace Sg
open PySem L2
section
open PyProof.Rows
end
end Sg
set_option Elab.async false
set_option linter.all false
set_option maxRecDepth 100000
set_option maxHeartbeats 4000000
namespace Sg
open PySem L2
section
open PyProof.Rows
end
end Sg
set_option Elab.async false
set_option linter.all false
set_option maxRecDepth 100000
set_option maxHeartbeats 4000000
namespace Sg
open PySem L2
section
open PyProof.Rows
end
section
open PyProof.Rows
end
end Sg
set_option Elab.async false
set_option linter.all false
set_option maxRecDepth 100000
set_option maxHeartbeats 4000000
namespace Sg
open PySem L2 PySem.Spec PyProof.Rows
def NDx (K : PySem.W.Frag) (H : Hp) (a : Addr) (es : Array DictEntry) (ep : Nat) (kvs : List (KT × V)) : Prop :=
  kvs.length ≤ sizeLine ∧ (a == sysModules) = false ∧ ∃ xs, Rd H a (NdO a es ep) ∧ es.toList = xs.map entN ∧ NT K H kvs xs ∧ (xs.map (·.1)).Nodup
theorem NDx.rd {K : PySem.W.Frag} {H : Hp} {a : Addr} {es : Array DictEntry} {ep : Nat} {kvs : List (KT × V)} (m : NDx K H a es ep kvs) : ND K H a kvs := by
  obtain ⟨z, y, xs, e, r⟩ := m
  exact ⟨z, y, xs, es, ep, e, r⟩
theorem ND.x {K : PySem.W.Frag} {H : Hp} {a : Addr} {kvs : List (KT × V)} (m : ND K H a kvs) : ∃ es ep, NDx K H a es ep kvs := by
  obtain ⟨z, y, xs, es, ep, e, r⟩ := m
  exact ⟨es, ep, z, y, xs, e, r⟩
theorem NDx.up {K : PySem.W.Frag} {H H' : Hp} {a : Addr} {es : Array DictEntry} {ep : Nat} {kvs : List (KT × V)} (m : NDx K H a es ep kvs) (e : ∀ u, Rd H a u → Rd H' a u) (t : ∀ b xs, SqT K H b xs → SqT K H' b xs) : NDx K H' a es ep kvs := by
  obtain ⟨z, y, xs, e0, e1, nt, r⟩ := m
  exact ⟨z, y, xs, e _ e0, e1, nt.up t, r⟩
theorem nt_get {K : PySem.W.Frag} {H : Hp} {kvs : List (KT × V)} {xs : List (NestedKey × Addr × Value)} (r : NT K H kvs xs) {i : Nat} {k : KT} {v : V} (e : kvs[i]? = some (k, v)) : ∃ b, xs[i]? = some b ∧ k.key = b.1 ∧ KeyV K H k (.ref b.2.1) ∧ RelV v b.2.2 := by
  obtain ⟨b, hb, e1, e2, e3⟩ := paired_get r e
  exact ⟨b, hb, e1, e2.1, e3⟩
section
variable {X : Cx} {pins : List (Addr × Obj)} {σ : L2.St} {H : Hp} {s : Shared} {d : Addr} {es : Array DictEntry} {ep : Nat} {kvs : List (KT × V)}
theorem rawN (I : Inv X pins σ H s) (h : NDx X.K H d es ep kvs) :
    (d == sysModules) = false ∧ s.heap.DictRaw d es ep ∧ es.size = kvs.length ∧
      ∀ (i : Nat) (k : KT) (v : V), kvs[i]? = some (k, v) → ∃ (hi : i < es.size) (q : Addr), es[i].key = .ref q ∧ KeyV X.K H k (.ref q) ∧ RelV v es[i].val := by
  obtain ⟨z, hs, xs, e, e1, nt, nd⟩ := h
  obtain ⟨o', ho, hx, hdt⟩ := ndO_raw (show ObjOk X.prog X.w H s.heap d (NdO d es ep) from e.ok I.hok)
  have l1 : es.size = xs.length := by rw [← Array.length_toList, e1, List.length_map]
  have l2 : kvs.length = xs.length := Paired.length nt
  refine ⟨hs, ⟨o', ho, hx, hdt⟩, by omega, fun i k v e => ?_⟩
  obtain ⟨b, hb, e2, e3, e4⟩ := nt_get nt e
  have q : es[i]? = (xs[i]?).map entN := by rw [← Array.getElem?_toList, e1, List.getElem?_map]
  rw [hb] at q
  obtain ⟨hi, q⟩ := Array.getElem?_eq_some_iff.mp (show es[i]? = some (entN b) from q)
  exact ⟨hi, b.2.1, by rw [q]; rfl, e3, by rw [q]; exact e4⟩
end
def ekN (es : Array DictEntry) (i : Nat) (q : Addr) : Prop := ∃ en, es[i]? = some en ∧ en.key = .ref q
theorem NDx.ek {K : PySem.W.Frag} {H : Hp} {a : Addr} {es : Array DictEntry} {ep : Nat} {kvs : List (KT × V)} (m : NDx K H a es ep kvs) {i : Nat} {k : KT} {v : V} {q : Addr} (e : kvs[i]? = some (k, v)) (h : ekN es i q) : KeyV K H k (.ref q) := by
  obtain ⟨z, y, xs, e0, e1, nt, r⟩ := m
  obtain ⟨b, hb, e2, e3, e4⟩ := nt_get nt e
  obtain ⟨en, he, hk⟩ := h
  have q1 : es[i]? = (xs[i]?).map entN := by rw [← Array.getElem?_toList, e1, List.getElem?_map]
  rw [hb, he] at q1
  cases q1
  cases hk
  exact e3
def ItiN (K : PySem.W.Frag) (d : Addr) (es : Array DictEntry) (ep : Nat) (kvs : List (KT × V)) : It :=
  ⟨fun i H => NDx K H d es ep kvs ∧ i < kvs.length, fun i H x H' => ∃ (T : Addr) (k : KT) (v : V) (q : Addr), kvs[i]? = some (k, v) ∧ ekN es i q ∧ x = .ref T ∧ H T = none ∧ H' = upd H T (.tup [.ref q, v]), fun i H => NDx K H d es ep kvs ∧ kvs.length ≤ i⟩
theorem turn_itemsN {P : Program} {w : World} {K : PySem.W.Frag} {d : Addr} {es : Array DictEntry} {ep : Nat} {kvs : List (KT × V)} {elts : List Expr} {kk : Nat} {tpos : Pos} (it : Addr) :
    Turn P w K (.Tuple elts kk tpos) (ItiN K d es ep kvs) [it] it (fun i h => ∃ ok ov, IsItemIter h it d i es.size ep ok ov) where
  mem := by simp
  obj := fun i h st b hb => by
    have e : b = it := by simpa using hb
    subst e
    obtain ⟨ok, ov, e⟩ := st
    exact ⟨_, e, fun v z => nomatch z⟩
  keep := fun i h h' st k => let ⟨ok, ov, e⟩ := st; ⟨ok, ov, k it (by simp) _ e⟩
  item := by
    intro X hP hw hK hc i pins s σ H E I hf st hg
    subst hP hw hK
    obtain ⟨hd, hi⟩ := hg
    obtain ⟨hs, raw, hsz, ent⟩ := rawN I hd
    obtain ⟨⟨k, v⟩, hkv⟩ : ∃ p, kvs[i]? = some p := ⟨kvs[i], List.getElem?_eq_getElem hi⟩
    obtain ⟨hlt0, q, hkey, hq, hv⟩ := ent i k v hkv
    obtain ⟨ok, ov, he⟩ := st
    have hlt : it < s.heap.objs.size := Heap.lt_size he
    refine wpAny_pyNext_items_item_raw he raw hlt0 fun h' ho hT hz hk => ?_
    refine ⟨_, rfl, wpAny_letOwnedTupleGo_items (s := { s with heap := h' }) ho fun h'' he' sb => ?_⟩
    have hT2 : h''.get? s.heap.objs.size = some { cls := .type "tuple", data := .seq #[es[i].key, es[i].val] } := (sb.2 _ (Nat.ne_of_gt hlt)).trans hT
    have new : ObjOk X.prog X.w (upd H s.heap.objs.size (.tup [.ref q, v])) h'' s.heap.objs.size (.tup [.ref q, v]) :=
      ⟨by show 2 ≤ sizeLine; decide, [es[i].key, es[i].val], .cons hkey (.cons hv .nil), ⟨_, hT2, rfl, _, rfl⟩⟩
    have I1 : Inv X pins σ (upd H s.heap.objs.size (.tup [.ref q, v])) { s with heap := h'' } :=
      I.turnedNew (t' := s.toks) (ch := [it]) (fun b ob hb e => (sb.2 b (by simpa using hb)).trans (hk b ob (by simpa using hb) e)) hf (Nat.le_refl _) new
    refine ⟨.ref s.heap.objs.size, _, I1, rfl, ⟨_, k, v, q, hkv, ⟨_, Array.getElem?_eq_getElem hlt0, hkey⟩, rfl, I.hok.fresh (Nat.le_refl _), rfl⟩, ⟨es[i].key, es[i].val, he'⟩, fun b hb => ?_⟩
    have e : b = it := by simpa using hb
    rw [e, upd_ne (Nat.ne_of_lt hlt)]
    exact (hf it (by simp)).1
  done := by
    intro X hP hw hK hc i pins s σ H E I hf st hg
    subst hP hw hK
    obtain ⟨hd, hi⟩ := hg
    obtain ⟨f0, f1, f2, f3, f4, f5⟩ := hf it (by simp)
    obtain ⟨hs, raw, hsz, ent⟩ := rawN I hd
    obtain ⟨ok, ov, he⟩ := st
    exact wpAny_pyNext_items_end_raw (I.ok.hd hc) he raw (by omega) fun h' eb => ⟨rfl, I.turned (t' := s.toks) (fun b ob hb e => eb b ob hb e) f0 f1 f3 f4 f5⟩
  self := fun A i s Q E st h => let ⟨_, _, e⟩ := st; PySem.W.kcp_self e h
def iItemsN (K : PySem.W.Frag) (td : TE) : TI := fun σ H R => td σ H fun x H1 => ∃ d es ep kvs, x = .ref d ∧ NDx K H1 d es ep kvs ∧ R (ItiN K d es ep kvs) H1
section
variable {X : Cx} {tg e : Expr} {td : TE} {apos cpos : Pos}
theorem pi_itemsN {elts : List Expr} {kk : Nat} {tpos : Pos} (he : PE X e td) (hbase : attributeBase e "items" X.env (eval e X.env) = eval e X.env := by rfl) (hline : (apos.endLine == cpos.line) = true := by rfl) :
    PI X (.Tuple elts kk tpos) (.Call (.Attribute e "items" apos) [] [] cpos) (iItemsN X.K td) := by
  refine ⟨fun pins s σ H R I h => ?_⟩
  refine wpAny_Call_method (T := "dict") (id := "dict.items") hbase rfl hline F.plainAttrs_dict F.slot_dict_items F.type_dict_items (thn (he.run pins s σ H _ I h) fun u s1 ⟨x, H1, I1, rx, d, es, ep, kvs, ex, hd, q⟩ => ?_)
  subst ex
  obtain rfl : u = Value.ref d := rx
  obtain ⟨hs, raw, hsz, ent⟩ := rawN I1 hd
  refine ⟨raw.typeIs, (fun a ea => (by cases ea; obtain ⟨o, ho, hc, _⟩ := raw; exact ⟨o, ho, hc.2.1⟩)), ?_⟩
  have I2 : Inv X pins σ H1 { s1 with heap := s1.heap.push { cls := .type "dict_items", data := .fields #[.ref d] } } := I1.kept (t' := s1.toks) fun b ob q => Heap.get?_push_of_some _ q
  have fin : wpAny (model X.prog X.w) X.A (pyIter (.ref s1.heap.objs.size)) (PIE X pins σ (.Tuple elts kk tpos) R) X.xe { s1 with heap := s1.heap.push { cls := .type "dict_items", data := .fields #[.ref d] } } :=
    wpAny_pyIter_items_raw (d := d) ⟨_, Heap.get?_push_size _ rfl, rfl, rfl⟩ (raw.at fun _ e => Heap.get?_push_of_some _ e) (pi_one (tk := s1.toks) I2 _ (turn_itemsN _) ⟨.none, .none, Heap.get?_push_size _ rfl⟩ q)
  show wpAny _ _ (callWith cpos (.builtin "dict.items") [.ref d] [] []) _ X.xe s1
  exact method_meetsIn F.slot_dict_items F.entry_dict_items rfl (PySem.evalArgs_none ⟨rfl, raw.typeIs, F.args_dict_items_1 _, _, meets_dict_items_raw d hs, ⟨_, _, raw⟩, fin⟩)
end
end Sg
set_option Elab.async false
set_option linter.all false
set_option maxRecDepth 100000
set_option maxHeartbeats 4000000
namespace Sg
open PySem L2 PySem.Spec PyProof.Rows
structure Sto (X : Cx) where
  o0 : Addr → HO
  sr : Hp → Addr → V → V → (Hp → Prop) → Prop
  new : ∀ (h : Heap) (H : Hp), (sysModules < h.objs.size) → ObjOk X.prog X.w H (h.push { cls := .type "dict", data := .dict #[] }) h.objs.size (o0 h.objs.size)
  put : ∀ (Y : Cx), Y.prog = X.prog → Y.w = X.w → Y.A = X.A → Y.K = X.K → ∀ {pins : List (Addr × Obj)} {σ : L2.St} {H : Hp} {s : Shared} {D : Addr} {y z : V} {u r : Value} {N : Hp → Prop} {Q : Unit → Shared → Prop} {E : Value → Shared → Prop}, Inv Y pins σ H s → sr H D y z N → RelV y u → RelV z r →
    (∀ H' s', Inv Y pins σ H' s' → N H' → Q () s') → wpAny (model Y.prog Y.w) Y.A (dictSet D u r) Q E s
section
variable {X : Cx}
def tDcS (o0 : Addr → HO) (sr : Hp → Addr → V → V → (Hp → Prop) → Prop) (wi : TI) (g : TG) (tt : TT) (tk tv : TE) (vs : List Nat) : TE := fun σ H Q => wi σ H fun J H1 => ∀ D, (D == sysModules) = false → H1 D = none → ∃ V : Nat → Nat → Hp → Prop, (∃ m, V 0 m (upd H1 D (o0 D))) ∧ ∀ i m H, V i m H →
  (J.stop i H ∧ Q (.ref D) H) ∨ (J.go i H ∧ ∃ Nx : Hp → Prop, (∀ H', Nx H' → ∃ m', m' < m ∧ V (i + 1) m' H') ∧ ∀ x H', J.yld i H x H' → g x (wipe σ vs) H' fun σ2 H2 => wipe σ2 vs = wipe σ vs ∧ tt σ2 H2 fun b H3 =>
    if b = true then tk σ2 H3 fun y H4 => tv σ2 H4 fun z H5 => sr H5 D y z Nx else Nx H3)
theorem setDcS_end {pins : List (Addr × Obj)} {σ : L2.St} {D : Ends} {i : Nat} {y : Str} {py : Pos} {L C : Addr} {s' : Shared} {m} {H' : Hp} (I' : Inv X pins σ H' s') (hN : X.N.Nodup) (hy : X.N[i]? = some y) (hyl : X.env.scope.names.lookup y = some .local)
    (q : gName i (.ref L) σ H' D.nx) (hn : s'.heap.Ns C m) (f : FpOk X pins H' C) : compPost (model X.prog X.w) X.A X.xe (some (assign (.Name y py) X.env)) (fun _ s' => SP X pins D .next s') (.ref L) C (.ok .next) s' := by
  show wpAny _ _ (assign (.Name y py) X.env (.ref L)) _ _ _
  refine wpAny_assign_Name (store_ok2 (v := V.ref L) I' hN hy (.inl hyl) rfl (fun s2 I2 ⟨a, sb, ha⟩ => ?_) (.inr hyl))
  obtain ⟨f0, f1, f2, f3, f4, f5⟩ := f
  have haC : C ≠ a := ha.elim (fun z => by rw [z]; exact f1) fun z e => f4 y a z e.symm
  refine ⟨m, hn.sameBut sb haC, fun h3 sb3 => ?_⟩
  exact ⟨_, H', I2.turned (t' := s2.toks) (fun b o hb e => (sb3.2 b hb).trans e) f0 f1 f3 f4 f5, q⟩
section
variable {pins : List (Addr × Obj)} {s : Shared} {σ : L2.St} {H : Hp} {Q : VK} {kx vx tg iter tg1 iter1 : Expr} {ifs ifs1 : List Expr} {scope : Scope} {own : List (Str × Nat)} {vs1 : List Nat} {pos pos' : Pos} {wi wi1 : TI} {g g1 : TG} {tt tt1 : TT} {tk tv : TE} {use : Option (Value → Sem Unit)} {Qf : Value → Shared → Prop}
theorem dcS_core (S : Sto X) (hc : X.calm = true) (hN : X.N.Nodup) (I : Inv X pins σ H s) (hi : PI X tg iter wi) (ok : BlkOk X.N X.env.scope scope own)
    (hg : ∀ (s : Shared) (H : Hp) (C : Addr) (cl : List (Str × Addr)) (fp : List Addr), PG (X.blk s H scope (compEnvC scope cl C X.env) fp) tg g) (ht : ∀ (s : Shared) (H : Hp) (C : Addr) (cl : List (Str × Addr)) (fp : List Addr), PTs (X.blk s H scope (compEnvC scope cl C X.env) fp) ifs tt)
    (hk : ∀ (s : Shared) (H : Hp) (C : Addr) (cl : List (Str × Addr)) (fp : List Addr), PE (X.blk s H scope (compEnvC scope cl C X.env) fp) kx tk)
    (he : ∀ (s : Shared) (H : Hp) (C : Addr) (cl : List (Str × Addr)) (fp : List Addr), PE (X.blk s H scope (compEnvC scope cl C X.env) fp) vx tv) (hs : ∀ x, foldedSetIterable iter X.env x = pure x)
    (h : tDcS S.o0 S.sr wi g tt tk tv (own.map (·.2)) σ H Q)
    (hRR : ∀ D C s' m H', Inv X pins σ H' s' → Q (.ref D) H' → s'.heap.Ns C m → FpOk X pins H' C → compPost (model X.prog X.w) X.A X.xe use Qf (.ref D) C (.ok .next) s') :
    wpAny (model X.prog X.w) X.A (comprehension (.DictComp kx vx [⟨tg, iter, ifs, 0⟩] scope pos) scope X.env pos' newDict false (eval iter X.env) use) Qf X.xe s := by
  refine wpAny_comprehension_free (use := use) rfl hs (closure_ok fun y hy e => (ok.free y hy e).elim (fun k => I.ok.has _ (.inl k)) fun k => I.ok.has _ (.inr k)) ok.kind (fun y hy e => by rw [ok.uniq y hy, e])
    (thn (hi.run pins s σ H _ I h) fun xv s1 hx => thn hx fun itv s2 h2 => ?_)
  obtain ⟨it, fp, tn, J, H2, e, I2, T, st2, f2, q⟩ := h2
  subst e
  refine wpAny_newObj_type (newEnv_comp ?_)
  have dm : (s2.heap.objs.size == sysModules) = false := beq_eq_false_iff_ne.mpr (Ne.symm (Nat.ne_of_lt I2.big))
  generalize hD : s2.heap.objs.size = D at dm
  obtain ⟨V, ⟨m0, w0⟩, turn⟩ := q D dm (I2.hok.fresh (Nat.le_of_eq hD))
  generalize hs3 : ({ s2 with heap := s2.heap.push { cls := .type "dict", data := .dict #[] } } : Shared) = s3
  have I3 : Inv X pins σ (upd H2 D (S.o0 D)) s3 := by
    rw [← hs3]
    refine I2.laid (t' := s2.toks) (fun b o e => Heap.get?_push_of_some _ e) (Nat.le_of_eq hD) ?_
    rw [← hD]
    exact S.new s2.heap _ I2.big
  have h3 : s3.heap = s2.heap.push { cls := .type "dict", data := .dict #[] } := by rw [← hs3]
  have f3 : ∀ b ∈ fp, FpOk X pins (upd H2 D (S.o0 D)) b ∧ b < s3.heap.objs.size := fun b hb => by
    obtain ⟨o, eo, _⟩ := T.obj _ _ st2 b hb
    have lt := Heap.lt_size eo
    refine ⟨⟨?_, (f2 b hb).2⟩, by rw [h3, Heap.size_push]; exact Nat.lt_succ_of_lt lt⟩
    rw [upd_ne (by rw [← hD]; exact Nat.ne_of_lt lt)]
    exact (f2 b hb).1
  have st3 : tn 0 s3.heap := T.keep _ _ _ st2 fun b _ o e => by rw [h3]; exact Heap.get?_push_of_some _ e
  have I4 := block_start I3 ok hN f3
  have pg := hg s3 (upd H2 D (S.o0 D)) s3.heap.objs.size (cellsFrom (s3.heap.objs.size + 1) scope.names (cloFrom X.env.cells scope.names [])) fp
  have pt := ht s3 (upd H2 D (S.o0 D)) s3.heap.objs.size (cellsFrom (s3.heap.objs.size + 1) scope.names (cloFrom X.env.cells scope.names [])) fp
  have pk := hk s3 (upd H2 D (S.o0 D)) s3.heap.objs.size (cellsFrom (s3.heap.objs.size + 1) scope.names (cloFrom X.env.cells scope.names [])) fp
  have pe := he s3 (upd H2 D (S.o0 D)) s3.heap.objs.size (cellsFrom (s3.heap.objs.size + 1) scope.names (cloFrom X.env.cells scope.names [])) fp
  show codeAny _ _ (.compStart (.DictComp kx vx [⟨tg, iter, ifs, 0⟩] scope pos) 0 (.ref it) (.ref D) (compEnvC scope (cellsFrom (s3.heap.objs.size + 1) scope.names (cloFrom X.env.cells scope.names [])) s3.heap.objs.size X.env)) (compPost (model X.prog X.w) X.A X.xe use Qf (.ref D) s3.heap.objs.size) { s3 with heap := pushCells (s3.heap.push { cls := .type "dict", data := .dict #[] }) scope.names }
  have nfp : ∀ b ∈ fp, (upd H2 D (S.o0 D)) b = none := fun b hb => (f3 b hb).1.1
  generalize hce : compEnvC scope (cellsFrom (s3.heap.objs.size + 1) scope.names (cloFrom X.env.cells scope.names [])) s3.heap.objs.size X.env = ce at I4 pg pt pk pe ⊢
  have cL : ce.locals = s3.heap.objs.size := by subst hce; rfl
  generalize hH3 : upd H2 D (S.o0 D) = H3 at I3 I4 pg pt pk pe w0 nfp f3
  generalize hs4 : ({ s3 with heap := pushCells (s3.heap.push { cls := .type "dict", data := .dict #[] }) scope.names } : Shared) = s4 at I4 ⊢
  have st4 : tn 0 s4.heap := T.keep _ _ _ st3 fun b _ o e => by rw [← hs4]; exact pushCells_keeps _ _ _ _ (Heap.get?_push_of_some _ e)
  have stat : ∀ {σ' : L2.St} {H' : Hp} {s' : Shared}, Inv (X.blk s3 H3 scope ce fp) [] σ' H' s' → (∀ b ∈ fp, H' b = none) → ∀ b ∈ fp, FpOk (X.blk s3 H3 scope ce fp) [] H' b := fun {σ' H' s'} I' hn b hb =>
    ⟨hn b hb, (I'.ok.exf b hb).1, I'.ok.exfs b hb, .inl hb, fun x c e => (I'.ok.exf b hb).2 x c e, fun p hp => absurd (show p ∈ ([] : List (Addr × Obj)) ++ [] from hp) (by simp)⟩
  have loop : codeAny (model X.prog X.w) X.A (.compLoop (.DictComp kx vx [⟨tg, iter, ifs, 0⟩] scope pos) 0 (.ref it) (.ref D) ce) (compPost (model X.prog X.w) X.A X.xe use Qf (.ref D) s3.heap.objs.size) s4 := by
    refine compLoop_anyD (fun n s' => ∃ i H', Inv (X.blk s3 H3 scope ce fp) [] (wipe σ (own.map (·.2))) H' s' ∧ tn i s'.heap ∧ (∀ b ∈ fp, H' b = none) ∧ V i n H') ?_ m0 ⟨0, H3, I4, st4, nfp, w0⟩
    rintro n s5 ⟨i, H5, I5, st5, n5, w5⟩
    rcases turn i n H5 w5 with ⟨stop, qq⟩ | ⟨go, Nx, hNx, step⟩
    · refine thnF (T.done (X.blk s3 H3 scope ce fp) rfl rfl rfl hc i [] s5 _ H5 (fun _ _ => False) I5 (stat I5 n5) st5 stop) fun r s6 ⟨hr, I6⟩ => ?_
      subst hr
      have I7 : Inv X pins σ H5 s6 := I3.call' (ch := fp) I6.os I6.base I6.hok I6.bare fun b hb => (let ⟨_, z1, _, z3, z4, z5⟩ := (f3 b hb).1; ⟨z3, z1, z4, z5⟩)
      have nC : H5 s3.heap.objs.size = none := by rw [← cL]; exact I6.free
      obtain ⟨m, hn, _⟩ := I6.loc
      have hn : s6.heap.Ns ce.locals m := hn
      rw [cL] at hn
      exact hRR D s3.heap.objs.size s6 m H5 I7 qq hn (I3.fpOk (Nat.le_refl _) nC)
    · refine thnF (T.item (X.blk s3 H3 scope ce fp) rfl rfl rfl hc i [] s5 _ H5 (fun _ _ => False) I5 (stat I5 n5) st5 go) fun r s6 ⟨u, hr, h6⟩ => ?_
      subst hr
      refine thnF h6 fun _ s7 ⟨x, H7, I7, r7, y7, st7, n7⟩ => ?_
      have I7' := I7.pinned (stat I7 n7) (T.obj _ _ st7)
      refine thnF (pg.run _ s7 _ H7 x u _ I7' r7 (step x H7 y7)) fun _ s8 ⟨σ8, H8, I8, hw8, q8⟩ => thnF (pt.run _ s8 σ8 H8 _ I8 q8) fun b s9 ⟨H9, I9, q9⟩ => ?_
      have fin : ∀ {s' : Shared} {H' : Hp}, Inv (X.blk s3 H3 scope ce fp) ([] ++ pinsAt fp s7.heap) σ8 H' s' → Nx H' → ∃ m, m < n ∧ ∃ i H', Inv (X.blk s3 H3 scope ce fp) [] (wipe σ (own.map (·.2))) H' s' ∧ tn i s'.heap ∧ (∀ b ∈ fp, H' b = none) ∧ V i m H' := fun {s' H'} I' nx => by
        obtain ⟨m', hm, w'⟩ := hNx H' nx
        have pin' : ∀ b ∈ fp, ∀ o, s7.heap.get? b = some o → s'.heap.get? b = some o ∧ H' b = none := fun b hb o e =>
          let z := I'.pin (b, o) (List.mem_append_right _ (List.mem_append_right _ (mem_pinsAt hb e)))
          ⟨z.1, z.2.1⟩
        refine ⟨m', hm, i + 1, H', (I'.unpinned (pins := [])).weak (by rw [← hw8, wipe_length]) (fun j v e => by rw [← hw8] at e; exact (wipe_some e).1), T.keep _ _ _ st7 fun b hb o e => (pin' b hb o e).1, fun b hb => ?_, w'⟩
        obtain ⟨o, e, _⟩ := T.obj _ _ st7 b hb
        exact (pin' b hb o e).2
      cases b with
      | false => exact fin I9 (by simpa using q9)
      | true =>
        simp only [if_true] at q9 ⊢
        refine thnF (pk.run _ s9 σ8 H9 _ I9 q9) fun z s10 ⟨yk, H10, I10, r10, q10⟩ => thnF (pe.run _ s10 σ8 H10 _ I10 q10) fun z2 s11 ⟨yv, H11, I11, r11, sr⟩ => ?_
        exact S.put (X.blk s3 H3 scope ce fp) rfl rfl rfl rfl I11 sr r10 r11 fun H12 s12 I12 nx => fin I12 nx
  exact codeAny_compStart_dict loop (T.self X.A 0 _ _ _ st4 loop)
theorem ps_setDcS (S : Sto X) {i : Nat} {y : Str} {py spos : Pos} (hc : X.calm = true) (hN : X.N.Nodup) (hy : X.N[i]? = some y) (hyl : X.env.scope.names.lookup y = some .local)
    (hsw : swapsWith (.DictComp kx vx [⟨tg, iter, ifs, 0⟩] scope pos) (some (.Name y py)) spos.line X.env = pure true) (hi : PI X tg iter wi) (ok : BlkOk X.N X.env.scope scope own)
    (hg : ∀ (s : Shared) (H : Hp) (C : Addr) (cl : List (Str × Addr)) (fp : List Addr), PG (X.blk s H scope (compEnvC scope cl C X.env) fp) tg g) (ht : ∀ (s : Shared) (H : Hp) (C : Addr) (cl : List (Str × Addr)) (fp : List Addr), PTs (X.blk s H scope (compEnvC scope cl C X.env) fp) ifs tt)
    (hk : ∀ (s : Shared) (H : Hp) (C : Addr) (cl : List (Str × Addr)) (fp : List Addr), PE (X.blk s H scope (compEnvC scope cl C X.env) fp) kx tk)
    (he : ∀ (s : Shared) (H : Hp) (C : Addr) (cl : List (Str × Addr)) (fp : List Addr), PE (X.blk s H scope (compEnvC scope cl C X.env) fp) vx tv) (hs : ∀ x, foldedSetIterable iter X.env x = pure x := by intro _; rfl) :
    PS X (.Assign [.Name y py] (.DictComp kx vx [⟨tg, iter, ifs, 0⟩] scope pos) spos) (tAsg (tDcS S.o0 S.sr wi g tt tk tv (own.map (·.2))) (gName i)) := by
  refine ⟨fun pins s σ H D I h => ?_⟩
  rw [exec_Assign_Name_used _ _ _ _ hsw]
  refine wpAny_bind (wpAny_standAt (wpAny_bind ?_))
  show wpAny _ X.A (do let _ ← comprehension (.DictComp kx vx [⟨tg, iter, ifs, 0⟩] scope pos) scope X.env (firstIterPos [⟨tg, iter, ifs, 0⟩] pos) newDict false (eval iter X.env) (some (assign (.Name y py) X.env))) _ _ s
  have h : tDcS S.o0 S.sr wi g tt tk tv (own.map (·.2)) σ H (fun x H1 => gName i x σ H1 D.nx) := h
  refine wpAny_bind (thn (dcS_core S (Qf := fun _ s' => SP X pins D .next s') hc hN I hi ok hg ht hk he hs h fun L C s' m H' I' q hn f => ?_) fun _ s' hq => wpAny_pure (wpAny_pure hq))
  exact setDcS_end I' hN hy hyl q hn f
end
def NPut2 (K : PySem.W.Frag) (H : Hp) (a : Addr) (y v : V) (R : Hp → Prop) : Prop := ∃ G kvs k b, (∀ a xs, SqT K G a xs → SqT K H a xs) ∧ ND2 K G H a kvs ∧ y = .ref b ∧ KeyV K G k (.ref b) ∧ k.key.depth ≤ 8 ∧ kvs.length < sizeLine ∧
  ∀ es ep, ND2 K G (upd H a (NdO a es ep)) a (putKT kvs k v) → R (upd H a (NdO a es ep))
theorem nd_dictSet2 {X : Cx} {pins : List (Addr × Obj)} {σ : L2.St} {G H : Hp} {s : Shared} {a b : Addr} {v : V} {k : KT} {kvs : List (KT × V)} {r : Value} {A : Around} {E : Value → Shared → Prop} {Q : Unit → Shared → Prop} (hG : ∀ a xs, SqT X.K G a xs → SqT X.K H a xs) (hu : A.units + 8 < cLine) (I : Inv X pins σ H s) (m : ND2 X.K G H a kvs) (kb : KeyV X.K G k (.ref b)) (kd : k.key.depth ≤ 8) (hl : kvs.length < sizeLine) (rv : RelV v r)
    (h : ∀ (es : Array DictEntry) (ep : Nat) (s' : Shared), ND2 X.K G (upd H a (NdO a es ep)) a (putKT kvs k v) → Inv X pins σ (upd H a (NdO a es ep)) s' → Q () s') :
    wpAny (model X.prog X.w) A (dictSet a (.ref b) r) Q E s := by
  obtain ⟨_, hs0, xs, es0, ep0, e, e1, nt, nd⟩ := m
  obtain ⟨o, ho, hx, hd⟩ := ndO_raw (show ObjOk X.prog X.w H s.heap a (NdO a es0 ep0) from I.hok a _ e)
  have ntH := nt.up hG
  have dd : s.heap.DictOfH (nestedKind X.prog X.w) a xs := ⟨o, es0, ep0, ho, hx, hd, e1.trans nt.ent, fun x hx => (let ⟨t, e, ht, hd⟩ := ntH.mem x hx; ⟨by rw [← e]; exact key_is I ht rfl, hd⟩), nd⟩
  have hz : xs.length ≤ sizeLine := by rw [← Paired.length nt]; exact Nat.le_of_lt hl
  have hl' : (putKT kvs k v).length ≤ sizeLine := by have := length_putKT kvs k v; omega
  refine wpAny_dictSet_heap (knd := nestedKind X.prog X.w) (hsz := hz) hu ⟨key_is I (kb.up hG) rfl, kd⟩ dd fun h' dd' hs => ?_
  obtain ⟨q, es, ep, hq, h2, h3, h4, _, h5⟩ := dd'
  have nt2 := nt.put k kb kd rv
  exact h es ep _ ⟨hl', hs0, _, es, ep, upd_same, h4.trans nt2.ent.symm, nt2, h5⟩ (d_write I (by rw [e]; exact True.intro) hs ⟨q, hq⟩ (ndO_ok ⟨q, hq, h2, h3⟩))
noncomputable def stoN (X : Cx) (hu : X.A.units + 8 < cLine) : Sto X where
  o0 := fun a => NdO a #[] 0
  sr := NPut2 X.K
  new := fun h H b => ndO_ok ⟨_, Heap.get?_push_size _ rfl, ⟨rfl, rfl, rfl⟩, rfl⟩
  put := fun Y _ _ hA hK {pins σ H s D y z u r N Q E} I h ry rz q => by
    rw [← hK] at h
    obtain ⟨G, kvs, k, b, h0, h1, rfl, h2, h3, h4, h5⟩ := h
    cases (show u = Value.ref b from ry)
    exact nd_dictSet2 h0 (by rw [hA]; exact hu) I h1 h2 h3 h4 rz fun es ep s' m' I' => q _ s' I' (h5 es ep m')
end
end Sg
set_option Elab.async false
set_option linter.all false
set_option maxRecDepth 100000
set_option maxHeartbeats 4000000
namespace Sg
open PySem L2 PySem.Spec PyProof.Rows
section
variable {X : Cx}
def tNGet2 (K : PySem.W.Frag) (td ty tx : TE) : TE := fun σ H Q => td σ H fun x H1 => ∃ a, x = .ref a ∧ (∃ kvs, ND K H1 a kvs) ∧ ty σ H1 fun y H2 => tx σ H2 fun z H3 => ∃ o, NGet K H3 a y o ∧ Q (o.getD z) H3
theorem nd_type {pins : List (Addr × Obj)} {σ : L2.St} {H : Hp} {s : Shared} {a : Addr} {kvs : List (KT × V)} (I : Inv X pins σ H s) (m : ND X.K H a kvs) : s.TypeIs (.ref a) "dict" ∧ ∀ b, Value.ref a = .ref b → ∃ ob, s.heap.get? b = some ob ∧ ob.dict = none := by
  obtain ⟨_, _, xs, es, ep, e, _⟩ := m
  obtain ⟨o, ho, hc, hd⟩ := ndO_raw (show ObjOk X.prog X.w H s.heap a (NdO a es ep) from e.ok I.hok)
  exact ⟨⟨o, ho, hc.1⟩, fun b eb => by cases eb; exact ⟨o, ho, hc.2.1⟩⟩
theorem pe_ndget2 {o e f : Expr} {apos cpos : Pos} {td ty tx : TE} (hu : X.A.in1.units + 8 < cLine) (ho : PE X o td) (he : PE X e ty) (hf : PE X f tx) (m : M2 X o "get" apos e f cpos) : PE X (.Call (.Attribute o "get" apos) [e, f] [] cpos) (tNGet2 X.K td ty tx) := by
  refine ⟨fun pins s σ H Q I h => ?_⟩
  refine wpAny_Call_method m.base m.few m.line PySem.F.plainAttrs_dict PySem.F.slot_dict_get PySem.F.type_dict_get (thn (ho.run pins s σ H _ I h) fun u s1 ⟨x, H1, I1, rx, a, ex, ⟨kvs0, d⟩, q1⟩ => ?_)
  subst ex
  obtain rfl : u = Value.ref a := rx
  obtain ⟨t1, t2⟩ := nd_type I1 d
  refine ⟨t1, t2, ?_⟩
  rw [m.trees]
  refine Calls.callWith_builtin rfl (Calls.evalArgs_plain (Calls.spliced_cons (thn (he.run pins s1 σ H1 _ I1 q1) fun iv s2 ⟨y, H2, I2, ry, q2⟩ =>
    Calls.spliced_cons (thn (hf.run pins s2 σ H2 _ I2 q2) fun fv s3 ⟨z, H3, I3, rz, ov, g, q3⟩ => Calls.spliced_nil ?_))))
  obtain ⟨kvs, k, b, md, rfl, kb, kd, rfl⟩ := g
  cases (show iv = Value.ref b from ry)
  obtain ⟨xs, nt, dd⟩ := nd_of I3 md
  refine call_meetsIn PySem.F.slot_dict_get dd.typeIs PySem.F.entry_dict_get (PySem.F.args_dict_get_3 _ _ _) (meetsH_dict_get_default (nestedKind X.prog X.w) a b md.2.1 fv) ⟨hu, k.key, xs, ⟨key_is I3 kb rfl, kd⟩, dd, ?_⟩
  exact ⟨_, H3, I3.tok _, (nt.val k.key).getD rz, q3⟩
theorem vals_atN : ∀ {vs : List V} {us : List Value}, vs.length = us.length → (∀ (j : Nat) (v : Value), us[j]? = some v → ∃ x, vs[j]? = some x ∧ RelV x v) → Vals vs us
  | [], [], _, _ => .nil
  | x :: vs, u :: us, hl, h => by
    obtain ⟨y, e, r⟩ := h 0 u rfl
    cases (Option.some.inj e : x = y)
    exact .cons r (vals_atN (by simpa using hl) fun j v ej => h (j + 1) v ej)
  | [], _ :: _, hl, _ => by cases hl
  | _ :: _, [], hl, _ => by cases hl
def tNVals (K : PySem.W.Frag) (td : TE) : TE := fun σ H Q => td σ H fun x H1 => ∃ d kvs, x = .ref d ∧ ND K H1 d kvs ∧ ∀ p, H1 p = none → Q (.ref p) (upd H1 p (.lst (kvs.map fun kv => kv.2)))
theorem pe_nvals {e : Expr} {te : TE} {p apos cpos pos : Pos} (hc : X.calm = true) (he : PE X e te) (hg : Gl X "list") (hm : X.mg "list" = none) (hv : bootBuiltins "list" = some (.type "list")) (hbase : attributeBase e "values" X.env (eval e X.env) = eval e X.env := by rfl) (hline : (apos.endLine == cpos.line) = true := by rfl)
    (hs : starEach [.Call (.Attribute e "values" apos) [] [] cpos] X.env = (false, eval (.Call (.Attribute e "values" apos) [] [] cpos) X.env) :: starEach [] X.env := by rfl) :
    PE X (.Call (.Name "list" p) [.Call (.Attribute e "values" apos) [] [] cpos] [] pos) (tNVals X.K te) := by
  refine ⟨fun pins s σ H Q I hq => ?_⟩
  refine wpAny_Call_Name_kw (ld_blt I hg hm hv ?_)
  refine PyProof.Rows.callWith_type1 ?_ hs rfl
  rw [hs]
  show wpAny _ _ (spliced ((false, eval (.Call (.Attribute e "values" apos) [] [] cpos) X.env) :: backTo pos (starEach [] X.env))) _ _ s
  refine Calls.spliced_cons ?_
  refine wpAny_Call_method (T := "dict") (id := "dict.values") hbase rfl hline F.plainAttrs_dict F.slot_dict_values F.type_dict_values (thn (he.run pins s σ H _ I hq) fun u s1 ⟨x, H1, I1, rx, d, kvs, ex, hd, q⟩ => ?_)
  subst ex
  obtain rfl : u = Value.ref d := rx
  obtain ⟨es, ep, hx⟩ := hd.x
  obtain ⟨hs0, raw, hsz, ent⟩ := rawN I1 hx
  have I2 : Inv X pins σ H1 { s1 with heap := s1.heap.push { cls := .type "dict_values", data := .fields #[.ref d] } } := I1.kept (t' := s1.toks) fun b ob q => Heap.get?_push_of_some _ q
  obtain ⟨t1, t2⟩ := nd_type I1 hd
  refine ⟨t1, t2, ?_⟩
  show wpAny _ _ (callWith cpos (.builtin "dict.values") [.ref d] [] []) _ X.xe s1
  refine method_meetsIn F.slot_dict_values F.entry_dict_values rfl (PySem.evalArgs_none ⟨rfl, raw.typeIs, F.args_dict_values_1 _, _, meets_dict_values_raw d hs0, ⟨_, _, raw⟩, ?_⟩)
  refine Calls.spliced_nil ?_
  have zl : kvs.length ≤ sizeLine := hd.1
  refine PySem.W.kdl_call (PySem.KdlSrc.rawValues (r := s1.heap.objs.size) (d := d) (es := es) (ep := ep)) (I1.ok.hd hc) ⟨⟨_, Heap.get?_push_size _ rfl, rfl, rfl⟩, raw.at fun _ e => Heap.get?_push_of_some _ e⟩ (by omega) fun h' tk acc c hk hD hacc => ?_
  have hv2 : Vals (kvs.map fun kv => kv.2) acc.toList := by
    refine vals_atN (by have h1 : acc.toList.length = acc.size := Array.length_toList; have h2 := hacc.1; rw [h1, h2, hsz, List.length_map]) fun j v ej => ?_
    obtain ⟨hj, ev⟩ := hacc.2 j v (by rw [← Array.getElem?_toList]; exact ej)
    obtain ⟨⟨k, x⟩, hkv⟩ : ∃ p, kvs[j]? = some p := ⟨kvs[j]'(by omega), List.getElem?_eq_getElem (by omega)⟩
    obtain ⟨_, _, _, _, r⟩ := ent j k x hkv
    exact ⟨x, by rw [List.getElem?_map, hkv]; rfl, by rw [ev]; exact r⟩
  refine ⟨.ref _, upd H1 _ (.lst (kvs.map fun kv => kv.2)), I2.laid (t' := tk) hk (Nat.le_refl _) ⟨by rw [List.length_map]; exact zl, acc.toList, c, hv2, by rw [Array.toArray_toList]; exact hD⟩, rfl, q _ ?_⟩
  exact I2.hok.fresh (Nat.le_refl _)
end
end Sg
set_option Elab.async false
set_option linter.all false
set_option maxRecDepth 100000
set_option maxHeartbeats 4000000
namespace Sg
open PySem L2
variable {K : PySem.W.Frag}
def putN (kvs : List (KT × U)) (k : KT) (u : U) : List (KT × U) := if (kvs.any fun kv => decide (kv.1.key = k.key)) = true then kvs.map (fun kv => if kv.1.key = k.key then (kv.1, u) else kv) else kvs ++ [(k, u)]
theorem RepN.any {B : Hp} (k : NestedKey) : ∀ {kvs : List (KT × U)} {ws : List (KT × V)}, RepN K B kvs ws → (ws.any fun kv => decide (kv.1.key = k)) = (kvs.any fun kv => decide (kv.1.key = k))
  | [], _, h => by cases h; rfl
  | (j, u) :: r, _, h => by
    obtain ⟨v, vr, rfl, h1, h2⟩ := h
    rw [List.any_cons, List.any_cons, RepN.any k h2]
theorem RepN.repl {B : Hp} (k : NestedKey) {u : U} {v : V} (q : Rep K B u v) : ∀ {kvs : List (KT × U)} {ws : List (KT × V)}, RepN K B kvs ws → RepN K B (kvs.map fun kv => if kv.1.key = k then (kv.1, u) else kv) (ws.map fun kv => if kv.1.key = k then (kv.1, v) else kv)
  | [], _, h => by cases h; rfl
  | (j, x) :: r, _, h => by
    obtain ⟨y, vr, rfl, h1, h2⟩ := h
    rw [List.map_cons, List.map_cons]
    by_cases c : j.key = k
    · rw [if_pos c, if_pos c]; exact ⟨v, _, rfl, q, RepN.repl k q h2⟩
    · rw [if_neg c, if_neg c]; exact ⟨y, _, rfl, h1, RepN.repl k q h2⟩
theorem RepN.snoc {B : Hp} (k : KT) {u : U} {v : V} (q : Rep K B u v) : ∀ {kvs : List (KT × U)} {ws : List (KT × V)}, RepN K B kvs ws → RepN K B (kvs ++ [(k, u)]) (ws ++ [(k, v)])
  | [], _, h => by cases h; exact ⟨v, [], rfl, q, rfl⟩
  | (j, x) :: r, _, h => by
    obtain ⟨y, vr, rfl, h1, h2⟩ := h
    exact ⟨y, _, rfl, h1, RepN.snoc k q h2⟩
theorem RepN.put {B : Hp} (k : KT) {u : U} {v : V} (q : Rep K B u v) {kvs : List (KT × U)} {ws : List (KT × V)} (h : RepN K B kvs ws) : RepN K B (putN kvs k u) (putKT ws k v) := by
  unfold putN putKT
  rw [RepN.any k.key h]
  split
  · exact RepN.repl k.key q h
  · exact RepN.snoc k q h
def valN : List (KT × U) → NestedKey → Option U
  | [], _ => none
  | p :: r, k => if p.1.key = k then some p.2 else valN r k
theorem valN_ok {B : Hp} {k : NestedKey} : ∀ {kvs : List (KT × U)} {ws : List (KT × V)}, RepN K B kvs ws → (valN kvs k = none → valKT ws k = none) ∧ ∀ u, valN kvs k = some u → ∃ v, valKT ws k = some v ∧ Rep K B u v
  | [], _, h => by cases h; exact ⟨fun _ => rfl, fun u e => by cases e⟩
  | (j, u) :: r, _, h => by
    obtain ⟨v, vr, rfl, h1, h2⟩ := h
    obtain ⟨z1, z2⟩ := valN_ok (k := k) h2
    unfold valN
    by_cases c : j.key = k
    · rw [if_pos c]
      refine ⟨fun z => (by cases z), fun w e => ?_⟩
      cases e
      exact ⟨v, valKT_pos c, h1⟩
    · rw [if_neg c, valKT_neg (p := (j, v)) c]
      exact ⟨z1, z2⟩
mutual
def keyN : U → Option KT
  | .non => some .non
  | .bl b => some (.bl b)
  | .int i => some (.int i)
  | .tup us => (keyNs us).map .tup
  | _ => none
def keyNs : List U → Option (List KT)
  | [] => some []
  | u :: us => (keyN u).bind fun k => (keyNs us).map fun ks => k :: ks
end
mutual
theorem keyN_ok : ∀ (u : U) (k : KT), keyN u = some k → KeyU u k
  | .non, _, e => by unfold keyN at e; cases e; exact .non
  | .bl b, _, e => by unfold keyN at e; cases e; exact .bl b
  | .int i, _, e => by unfold keyN at e; cases e; exact .int i
  | .str _, _, e => by unfold keyN at e; cases e
  | .ref _, _, e => by unfold keyN at e; cases e
  | .lst _, _, e => by unfold keyN at e; cases e
  | .frl _, _, e => by unfold keyN at e; cases e
  | .tup us, _, e => by
    unfold keyN at e
    obtain ⟨ks, e1, rfl⟩ := Option.map_eq_some_iff.mp e
    exact .tup (keyNs_ok us ks e1)
  | .dic _, _, e => by unfold keyN at e; cases e
  | .ins _ _, _, e => by unfold keyN at e; cases e
  | .exc _, _, e => by unfold keyN at e; cases e
  | .exf _ _ _, _, e => by unfold keyN at e; cases e
  | .ndc _, _, e => by unfold keyN at e; cases e
theorem keyNs_ok : ∀ (us : List U) (ks : List KT), keyNs us = some ks → KeysU us ks
  | [], _, e => by unfold keyNs at e; cases e; exact .nil
  | u :: us, _, e => by
    unfold keyNs at e
    obtain ⟨k, e1, e2⟩ := Option.bind_eq_some_iff.mp e
    obtain ⟨ks, e3, rfl⟩ := Option.map_eq_some_iff.mp e2
    exact .cons (keyN_ok u k e1) (keyNs_ok us ks e3)
end
def isTupU : U → Bool
  | .tup _ => true
  | _ => false
theorem tup_ref {B : Hp} {u : U} {v : V} (h : isTupU u = true) (r : Rep K B u v) : ∃ a, v = .ref a := by
  cases u with
  | tup us => obtain ⟨a, vs, rfl, _⟩ := r; exact ⟨a, rfl⟩
  | _ => cases h
def sNPut2 (K : PySem.W.Frag) (td ty tv : TE) : TS := fun D σ H => tv σ H fun v H1 => td σ H1 fun x H2 => ty σ H2 fun y H3 => ∃ a, x = .ref a ∧ NPut2 K H3 a y v fun H4 => D.nx σ H4
theorem ps_ndput2 {X : Cx} {o i value : Expr} {pos pos' : Pos} {td ty tv : TE} (hu : X.A.in1.units + 8 < cLine) (ho : PE X o td) (hi : PE X i ty) (hv : PE X value tv) (hs : swapsWith value (some (.Subscript o i pos')) pos.line X.env = pure false) :
    PS X (.Assign [.Subscript o i pos'] value pos) (sNPut2 X.K td ty tv) := by
  refine ⟨fun pins s σ H D I h => ?_⟩
  refine wpAny_Assign_Subscript (thn (hv.run pins s σ H _ I h) fun r s1 ⟨v, H1, I1, rv, q1⟩ => thn (ho.run pins s1 σ H1 _ I1 q1) fun u s2 ⟨x, H2, I2, rx, q2⟩ => thn (hi.run pins s2 σ H2 _ I2 q2) fun iv s3 ⟨y, H3, I3, ry, a, ex, g⟩ => ?_) hs
  subst ex
  obtain rfl : u = Value.ref a := rx
  obtain ⟨G, kvs, k, b, hG, m, rfl, kb, kd, hl, f⟩ := g
  cases (show iv = Value.ref b from ry)
  exact nd_setItem2 hG hu I3 m kb kd hl rv fun es ep s' m' I' => ⟨σ, _, I', f es ep m'⟩
def msNPut (j : Nat) (k v : ME K) (hv : v.k = true := by exact id rfl) (hk : k.k = true := by exact id rfl) : MS K where
  t := fun W => sNPut2 K (tVar j) (k.t W) (v.t W)
  m := fun ρ => bindES (v.m ρ) fun u ρ1 => match ρ1[j]? with
    | some (.fld _ (.dn _)) => bindES (k.m ρ1) fun y ρ2 => match keyN y, ρ2[j]? with
      | some key, some (.fld own (.dn us)) => if isTupU y = true ∧ key.key.depth ≤ 8 ∧ us.length < 16777216 then some (.nx (ρ2.set j (.fld own (.dn (putN us key u))))) else none
      | _, _ => none
    | _ => none
  ok := fun F W ρ σ B H D o q R f => by
    rcases bindES_some q with ⟨u, ρ1, e1, q⟩ | ⟨x, ρ1, e1, rfl⟩
    · refine v.ok F W ρ σ B H _ _ e1 R fun v1 B1 H1 x1 p1 R1 r1 => ?_
      rw [hv, if_pos rfl] at r1
      split at q
      · rename_i ow us0 hj1
        obtain ⟨_, ep, ⟨p, _, rfl, _, _⟩, _⟩ := R1.sl j _ hj1
        refine ⟨.ref p, getD_some ep, ?_⟩
        rcases bindES_some q with ⟨y, ρ2, e2, q⟩ | ⟨x, ρ2, e2, rfl⟩
        · refine k.ok F W ρ1 σ B1 H1 _ _ e2 R1 fun v2 B2 H2 x2 p2 R2 r2 => ?_
          rw [hk, if_pos rfl] at r2
          split at q
          · rename_i key own us hky hj
            split at q
            · rename_i hl
              cases q
              obtain ⟨x', ep', ⟨p', ws, rfl, h1, h3⟩, nd, al⟩ := R2.sl j _ hj
              rw [ep] at ep'; cases ep'
              obtain ⟨b, rfl⟩ := tup_ref hl.1 r2
              have ek := (keyN_ok y key hky).v r2
              have h4 := RepN.put key (Rep.mono x2 _ _ r1) h3
              have hn : ∀ {us : List (KT × U)} {ws : List (KT × V)}, RepN K B2 us ws → ws.length = us.length := fun {us} => by
                induction us with
                | nil => intro ws h; cases h; rfl
                | cons c r ih => intro ws h; obtain ⟨v, vr, rfl, _, h2⟩ := h; rw [List.length_cons, List.length_cons, ih h2]
              refine ⟨p, rfl, B2, ws, key, b, fun _ _ z => R2.ex.t z, h1, rfl, ek, hl.2.1, by rw [hn h3, PySem.sizeLine_eq]; exact hl.2.2, fun es epo m' => ?_⟩
              refine f σ B2 _ (x1.trans x2) (R2.reslot (i := j) (s' := .fld own (.dn (putN us key u))) (o' := NdO p es epo) hj (by rw [ep]; exact List.mem_singleton_self p) ?_ (fun z hz => .inl (by rw [ep] at hz ⊢; exact hz)) (fun l => by cases own <;> exact l))
              rw [ep]
              exact ⟨.ref p, rfl, ⟨p, _, rfl, m', h4⟩, nd, al⟩
            · cases q
          · cases q
        · exact k.ok F W ρ1 σ B1 H1 _ _ e2 R1 fun cls d B2 H2 x2 R2 xr => f cls d σ B2 H2 (x1.trans x2) R2 xr
      · cases q
    · exact v.ok F W ρ σ B H _ _ e1 R fun cls d B1 H1 x1 R1 xr => f cls d σ B1 H1 x1 R1 xr
end Sg
set_option Elab.async false
set_option linter.all false
set_option maxRecDepth 100000
set_option maxHeartbeats 4000000
namespace Sg
open PySem L2
variable {K : PySem.W.Frag}
def msAsgNN (i : Nat) : MS K where
  t := fun _ => tAsg tNDNew (gName i)
  m := fun ρ => some (.nx (ρ.set i (.fld true (.dn []))))
  ok := fun F W ρ σ B H D o q R f => by
    cases q
    intro p hs hp
    have gg := Go.newC (o := NdO p #[] 0) R.ex hp
    have R1 := R.grow gg
    have hB : B p = none := R.ex.none hp
    have hF : F.H0 p = none := R.fresh0 hp
    refine f _ B _ Ex.refl (R1.setG (i := i) (s' := .fld true (.dn [])) (σ' := σ.set i (some (.ref p))) (by simp) (fun j ne => getD_set_ne ne) (fun hi => ?_) (fun hi j s z ne es hz hz2 => ?_) fun hi z o hz ho => ?_)
    · rw [getD_set hi, if_pos rfl]
      refine ⟨.ref p, rfl, ⟨p, [], rfl, ⟨Nat.zero_le _, hs, [], #[], 0, upd_same, rfl, .nil, List.nodup_nil⟩, rfl⟩, (List.nodup_cons.mpr ⟨by simp, List.nodup_nil⟩ : [p].Nodup), fun z hz => ?_⟩
      rw [List.mem_singleton.mp (show z ∈ [p] from hz)]
      exact ⟨hB, hF⟩
    · rw [getD_set hi, if_pos rfl] at hz2
      rw [List.mem_singleton.mp (show z ∈ [p] from hz2)] at hz
      rw [R.ow_eq gg es] at hz
      exact R.notC hp j s es hz
    · rw [getD_set hi, if_pos rfl] at hz
      rw [List.mem_singleton.mp (show z ∈ [p] from hz)] at ho
      have := (R.xx p o ho).1
      rw [hp] at this; cases this
theorem repN_len {B : Hp} : ∀ {us : List (KT × U)} {ws : List (KT × V)}, RepN K B us ws → ws.length = us.length
  | [], _, h => by cases h; rfl
  | c :: r, _, h => by obtain ⟨v, vr, rfl, _, h2⟩ := h; rw [List.length_cons, List.length_cons, repN_len h2]
theorem ND2.nd {B H : Hp} {a : Addr} {kvs : List (KT × V)} (xb : Ex B H) (m : ND2 K B H a kvs) : ND K H a kvs := (m.m fun _ _ z => xb.t z).rd
end Sg
set_option Elab.async false
set_option linter.all false
set_option maxRecDepth 100000
set_option maxHeartbeats 4000000
namespace Sg
open PySem L2
theorem hu9 {A : Around} {k : Nat} (hr : Room k A) : A.in1.units + 8 < cLine := by
  have := hr.un
  show A.units + 1 + 8 < cLine
  omega
section
variable {X : Cx} {W : WX} {i k : Nat} {x : Str} {a b e tg : Expr} {A B : ME X.K} {p p2 pos pos' pd : Pos}
theorem sdnewN (hN : X.N.Nodup) (hi : X.N[i]? = some x := by rfl) (hx : Loc X.env.scope x := by first | exact Or.inl rfl | exact Or.inr rfl) (hs : swapsWith (.Dict [] [] pd) (some (.Name x p2)) pos.line X.env = pure false := by rfl)
    (hf : X.fn x = true ∨ X.env.scope.names.lookup x = some .local := by first | exact .inl rfl | exact .inr rfl) : PS X (.Assign [.Name x p2] (.Dict [] [] pd) pos) ((msAsgNN (K := X.K) i).t W) := ps_set hN hi hx pe_ndnew hs hf
theorem sdnput {h h2} (hr : Room k X.A) (hv0 : PE X a (A.t W)) (hb : PE X b (B.t W)) (hN : X.N[i]? = some x := by rfl) (hv : Vis X.env.scope x := by first | exact Or.inl rfl | exact Or.inr (Or.inl rfl) | exact Or.inr (Or.inr rfl)) (hd : (x == ("__debug__" : Str)) = false := by decide)
    (hcd : (x == ("__classdict__" : Str)) = false := by decide) (hs : swapsWith a (some (.Subscript (.Name x p) b pos')) pos.line X.env = pure false := by rfl) : PS X (.Assign [.Subscript (.Name x p) b pos'] a pos) ((msNPut i B A h h2).t W) := ps_ndput2 (hu9 hr) (pe_var hN hv hd hcd) hb hv0 hs
end
section
variable {K : PySem.W.Frag}
theorem msAsgNN_m (i : Nat) (ρ : Env) : (msAsgNN (K := K) i).m ρ = some (.nx (ρ.set i (.fld true (.dn [])))) := rfl
theorem msNPut_m (j : Nat) (k v : ME K) (hv) (hk) (ρ : Env) : (@msNPut K j k v hv hk).m ρ = (bindES (v.m ρ) fun u ρ1 => match ρ1[j]? with
    | some (.fld _ (.dn _)) => bindES (k.m ρ1) fun y ρ2 => match keyN y, ρ2[j]? with
      | some key, some (.fld own (.dn us)) => if isTupU y = true ∧ key.key.depth ≤ 8 ∧ us.length < 16777216 then some (.nx (ρ2.set j (.fld own (.dn (putN us key u))))) else none
      | _, _ => none
    | _ => none) := rfl
end
end Sg
set_option Elab.async false
set_option linter.all false
set_option maxRecDepth 100000
set_option maxHeartbeats 4000000
namespace Sg
open PySem L2
end Sg
set_option Elab.async false
set_option linter.all false
set_option maxRecDepth 100000
set_option maxHeartbeats 4000000
namespace Sg
open PySem L2
end Sg
set_option Elab.async false
set_option linter.all false
set_option maxRecDepth 100000
set_option maxHeartbeats 4000000
namespace Sg
open PySem L2
variable {K : PySem.W.Frag}
theorem RepN.get {B : Hp} : ∀ {kvs : List (KT × U)} {ws : List (KT × V)}, RepN K B kvs ws → ∀ (i : Nat), (kvs[i]? = none ∧ ws[i]? = none) ∨ ∃ k u v, kvs[i]? = some (k, u) ∧ ws[i]? = some (k, v) ∧ Rep K B u v
  | [], _, h, i => by cases h; exact .inl ⟨by simp, by simp⟩
  | (k, u) :: r, _, h, i => by
    obtain ⟨v, vr, rfl, h1, h2⟩ := h
    cases i with
    | zero => exact .inr ⟨k, u, v, rfl, rfl, h1⟩
    | succ i => simpa using RepN.get h2 i
theorem NDx.upX {B H : Hp} {d : Addr} {es : Array DictEntry} {ep : Nat} {ws : List (KT × V)} (m : NDx K B d es ep ws) (x : Ex B H) : NDx K H d es ep ws := m.up (fun _ q => x.rd q) fun _ _ q => x.t q
theorem ItokN_items {B : Hp} {kvs : List (KT × U)} {ws : List (KT × V)} {d : Addr} {es : Array DictEntry} {ep : Nat} (h : NDx K B d es ep ws) (r : RepN K B kvs ws) : ItOk K B (kvs.map fun p => U.tup [ktU p.1, p.2]) (ItiN K d es ep ws) := fun i B1 H1 x1 x2 => by
  have h1 : NDx K H1 d es ep ws := (h.upX x1).upX x2
  refine ⟨fun hi => ⟨h1, by rw [repN_len r]; simpa using hi⟩, fun u hu => ?_⟩
  rw [List.getElem?_map] at hu
  obtain ⟨p, hp, rfl⟩ := Option.map_eq_some_iff.mp hu
  rcases r.get i with ⟨z, _⟩ | ⟨k, u, v, e1, e2, e3⟩
  · rw [z] at hp; cases hp
  · rw [e1] at hp; cases hp
    refine ⟨⟨h1, (List.getElem?_eq_some_iff.mp e2).1⟩, fun x H2 hy => ?_⟩
    obtain ⟨T, k2, v2, q, e4, ek, rfl, hT, rfl⟩ := hy
    rw [e2] at e4; cases e4
    have g := Go.newB (o := .tup [.ref q, v]) x2 hT
    exact ⟨_, g, T, [.ref q, v], rfl, .inl (.inl upd_same), .ref q, _, rfl, Rep.mono g.bb _ _ ((h.upX x1).ek e2 ek).repU, v, _, rfl, Rep.mono (x1.trans g.bb) _ _ e3, rfl⟩
def miItemsN (a : ME K) (hk : a.k = true := by exact id rfl) : MI K where
  t := fun W => iItemsN K (a.t W)
  m := fun ρ => match a.m ρ with
    | some (.ok (.ndc kvs) ρ1) => some (.ok (kvs.map fun p => U.tup [ktU p.1, p.2]) ρ1)
    | some (.ex e ρ1) => some (.ex e ρ1)
    | _ => none
  ok := fun F W ρ σ B H Rr out e R f => by
    split at e
    · rename_i kvs ρ1 e1
      cases e
      refine a.ok F W ρ σ B H _ _ e1 R fun v1 B1 H1 x1 p1 R1 r1 => ?_
      rw [hk, if_pos rfl] at r1
      obtain ⟨d, ws, rfl, h1, h2⟩ := r1
      obtain ⟨es, ep, hx⟩ := h1.x
      exact ⟨d, es, ep, ws, rfl, hx.upX R1.ex, f _ B1 H1 x1 R1 (ItokN_items hx h2)⟩
    · rename_i x ρ1 e1
      cases e
      exact a.ok F W ρ σ B H _ _ e1 R f
    · cases e
def dcMN (g : U → Env → Option Env) (tt : Env → Option TOu) (ek ev : Env → Option EO) (vs : List Nat) : List U → List (KT × U) → Env → Option EO
  | [], acc, ρ => some (.ok (.ndc acc) ρ)
  | u :: us, acc, ρ => match g u ρ with
    | none => none
    | some ρ1 => match tt ρ1 with
      | some (.ok false ρ2) => dcMN g tt ek ev vs us acc (kills ρ2 vs)
      | some (.ok true ρ2) => match ek ρ2 with
        | some (.ok y ρ3) => match keyN y, ev ρ3 with
          | some key, some (.ok w ρ4) => if isTupU y = true ∧ key.key.depth ≤ 8 ∧ acc.length < 16777216 then dcMN g tt ek ev vs us (putN acc key w) (kills ρ4 vs) else none
          | _, _ => none
        | _ => none
      | _ => none
theorem nd2_know {B H : Hp} {D : Addr} {o : HO} {ws : List (KT × V)} (m : ND2 K B H D ws) (h1 : H D = some o) (h2 : B D = none) : ND K (upd B D o) D ws :=
  (((m.upG fun _ _ z => (Ex.new h2).t z).at (H' := upd B D o) (by rw [upd_same, h1])).m fun _ _ z => z).rd
def mDcN (it : MI K) (g : MG K) (tt : MTs K) (ek ev : ME K) (vs : List Nat) (hg : (g.is.all fun i => vs.contains i) = true := by exact id rfl) (hk : ev.k = true := by exact id rfl) (hkk : ek.k = true := by exact id rfl) : ME K where
  t := fun W => tDcS (fun a => NdO a #[] 0) (NPut2 K) (it.t W) g.t (tt.t WNo) (ek.t WNo) (ev.t WNo) vs
  m := fun ρ => match it.m ρ with
    | some (.ok us ρ1) => dcMN g.m tt.m ek.m ev.m vs us [] (kills ρ1 vs)
    | some (.ex e ρ1) => some (.ex e ρ1)
    | none => none
  p := false
  k := true
  ok := fun F W ρ σ B H Q out q R f => by
    have sub : ∀ j, j ∉ vs → j ∉ g.is := fun j c hm => c (by
      have := List.all_eq_true.mp hg j hm
      simpa using this)
    split at q
    · rename_i us ρ1 e1
      refine it.ok F W ρ σ B H _ _ e1 R fun J B1 H1 x1 R1 ji => ?_
      intro D hm hD
      refine ⟨fun i m H' => m = us.length - i ∧ i ≤ us.length ∧ ∃ ρ' B' acc ws o, Ex B1 B' ∧ Rel K (F.push D o) (kills ρ' vs) (wipe σ vs) B' H' ∧ ND2 K B' H' D ws ∧ RepN K B' acc ws ∧ dcMN g.m tt.m ek.m ev.m vs (us.drop i) acc (kills ρ' vs) = some out,
        ⟨us.length, rfl, Nat.zero_le _, ρ1, B1, [], [], NdO D #[] 0, Ex.refl, (R1.wiped vs).addX hD, ⟨Nat.zero_le _, hm, [], #[], 0, upd_same, rfl, .nil, List.nodup_nil⟩, rfl, q⟩, ?_⟩
      rintro i m H' ⟨rfl, hi, ρ', B', acc, ws, o, xb, R', nd, ra, e'⟩
      obtain ⟨j1, j2⟩ := ji i B' H' xb R'.ex
      by_cases hlt : i < us.length
      · obtain ⟨jg, jy⟩ := j2 us[i] (List.getElem?_eq_getElem hlt)
        refine .inr ⟨jg, fun H2 => ∃ ρ2 B2 acc2 ws2 o2, Ex B1 B2 ∧ Rel K (F.push D o2) (kills ρ2 vs) (wipe σ vs) B2 H2 ∧ ND2 K B2 H2 D ws2 ∧ RepN K B2 acc2 ws2 ∧ dcMN g.m tt.m ek.m ev.m vs (us.drop (i + 1)) acc2 (kills ρ2 vs) = some out, fun H2 h => ⟨us.length - (i + 1), by omega, rfl, hlt, h⟩, fun x H2 y => ?_⟩
        obtain ⟨B2, gg, rx⟩ := jy x H2 y
        rw [List.drop_eq_getElem_cons hlt] at e'
        unfold dcMN at e'
        split at e'
        · cases e'
        · rename_i ρ3 eg
          have n2 : ∀ {B'' H'' : Hp} {σ'' ρ''}, Ex B' B'' → Rel K (F.push D o) ρ'' σ'' B'' H'' → ND2 K B'' H'' D ws := fun xx Rr => (nd.upG fun _ _ z => xx.t z).at (by rw [Rr.getX.1, R'.getX.1])
          refine g.ok _ _ ρ3 (wipe σ vs) B2 H2 _ x _ eg (R'.grow gg) rx fun σ3 R3 hl hs => ?_
          have hw : wipe σ3 vs = wipe σ vs := by
            rw [wipe_eq (σ := wipe σ vs) hl fun j c => hs j (sub j c), wipe_wipe]
          refine ⟨hw, ?_⟩
          split at e'
          · rename_i ρ4 et
            refine tt.ok _ WNo ρ3 σ3 B2 H2 _ _ et R3 fun B4 H4 x4 _ R4 => ?_
            have R5 := R4.wiped vs
            rw [hw] at R5
            exact ⟨ρ4, B4, acc, ws, o, (xb.trans gg.bb).trans x4, R5, n2 (gg.bb.trans x4) R5, RepN.mono (gg.bb.trans x4) _ _ ra, e'⟩
          · rename_i ρ4 et
            refine tt.ok _ WNo ρ3 σ3 B2 H2 _ _ et R3 fun B4 H4 x4 _ R4 => ?_
            rw [if_pos rfl]
            split at e'
            · rename_i y ρ5 ey
              split at e'
              · rename_i key w ρ6 hkey ee
                split at e'
                · rename_i hlen
                  refine ek.ok _ WNo ρ4 σ3 B4 H4 _ _ ey R4 fun v4 B5 H5 x5 _ R5 r5 => ?_
                  rw [hkk, if_pos rfl] at r5
                  refine ev.ok _ WNo ρ5 σ3 B5 H5 _ _ ee R5 fun v6 B6 H6 x6 _ R6 r6 => ?_
                  rw [hk, if_pos rfl] at r6
                  obtain ⟨b, rfl⟩ := tup_ref hlen.1 r5
                  have xx : Ex B' B6 := ((gg.bb.trans x4).trans x5).trans x6
                  have ra6 := RepN.mono xx _ _ ra
                  refine ⟨B6, ws, key, b, fun _ _ z => R6.ex.t z, n2 xx R6, rfl, (keyN_ok y key hkey).v (Rep.mono x6 _ _ r5), hlen.2.1, by rw [repN_len ra6, PySem.sizeLine_eq]; exact hlen.2.2, fun es ep m' => ?_⟩
                  have R7 := (R6.updX (o' := NdO D es ep)).wiped vs
                  rw [hw] at R7
                  exact ⟨ρ6, B6, putN acc key w, _, _, xb.trans xx, R7, m', RepN.put key r6 ra6, e'⟩
                · cases e'
              · cases e'
            · cases e'
          · cases e'
      · have ei : i = us.length := by omega
        subst ei
        rw [List.drop_length] at e'
        cases e'
        refine .inl ⟨j1 (Nat.le_refl _), ?_⟩
        obtain ⟨h1, h2, h3⟩ := R'.getX
        have R7 := R'.popX.unwipe
        have nc := notW R' List.mem_cons_self
        have R9 := R7.know h1 h2 h3 nc R'.notX
        exact f (.ref D) _ H' ((x1.trans xb).trans (Ex.new h2)) (fun z => nomatch z) R9 ⟨D, ws, rfl, nd2_know nd h1 h2, RepN.mono (Ex.new h2) _ _ ra⟩
    · rename_i x ρ1 e1
      cases q
      exact it.ok F W ρ σ B H _ _ e1 R fun cls d B1 H1 x1 R1 xr => f cls d B1 H1 x1 R1 xr
    · cases q
end Sg
set_option Elab.async false
set_option linter.all false
set_option maxRecDepth 100000
set_option maxHeartbeats 4000000
namespace Sg
open PySem L2
variable {K : PySem.W.Frag}
theorem valN_getD {B : Hp} {k : NestedKey} {kvs : List (KT × U)} {ws : List (KT × V)} {x : U} {z : V} (h : RepN K B kvs ws) (r : Rep K B x z) : Rep K B ((valN kvs k).getD x) ((valKT ws k).getD z) := by
  obtain ⟨z1, z2⟩ := valN_ok (k := k) h
  cases c : valN kvs k with
  | none => rw [z1 c]; exact r
  | some w => obtain ⟨v, y1, y2⟩ := z2 w c; rw [y1]; exact y2
def mGetNC (j : Nat) (k x : ME K) (hk : k.k = true := by exact id rfl) (hx : x.k = true := by exact id rfl) : ME K where
  t := fun W => tNGet2 K (tVar j) (k.t W) (x.t W)
  m := fun ρ => match ρ[j]? with
    | some (.fld _ (.dn _)) => bindE (k.m ρ) fun y ρ2 => bindE (x.m ρ2) fun z ρ3 => match ρ3[j]? with
      | some (.fld _ (.dn kvs)) => if isTupU y = true then (keyN y).bind fun key => if key.key.depth ≤ 8 then some (.ok ((valN kvs key.key).getD z) ρ3) else none else none
      | _ => none
    | _ => none
  p := false
  k := true
  ok := fun F W ρ σ B H Q out e R f => by
    split at e
    · rename_i ow us0 hj
      obtain ⟨_, ep, ⟨p, w0, rfl, hp, _⟩, _⟩ := R.sl j _ hj
      refine ⟨.ref p, getD_some ep, p, rfl, ⟨w0, hp.nd R.ex⟩, ?_⟩
      rcases bindE_some e with ⟨y, ρ2, e2, e⟩ | ⟨xn, ρ2, e2, rfl⟩
      · refine k.ok F W ρ σ B H _ _ e2 R fun v2 B2 H2 x2 p2 R2 r2 => ?_
        rw [hk, if_pos rfl] at r2
        rcases bindE_some e with ⟨z, ρ3, e3, e⟩ | ⟨xn, ρ3, e3, rfl⟩
        · refine x.ok F W ρ2 σ B2 H2 _ _ e3 R2 fun v3 B3 H3 x3 p3 R3 r3 => ?_
          rw [hx, if_pos rfl] at r3
          split at e
          · rename_i ow3 kvs hj3
            split at e
            · rename_i ht
              obtain ⟨key, ek, e⟩ := Option.bind_eq_some_iff.mp e
              split at e
              · rename_i hd
                cases e
                obtain ⟨x', ep', ⟨p', ws, rfl, h1, h3⟩, _⟩ := R3.sl j _ hj3
                rw [ep] at ep'; cases ep'
                obtain ⟨b, rfl⟩ := tup_ref ht r2
                exact ⟨_, ⟨ws, key, b, h1.nd R3.ex, rfl, (keyN_ok y key ek).v (Rep.mono R3.ex _ _ (Rep.mono x3 _ _ r2)), hd, rfl⟩, f _ B3 H3 (x2.trans x3) (fun z => nomatch z) R3 (valN_getD h3 r3)⟩
              · cases e
            · cases e
          · cases e
        · exact x.ok F W ρ2 σ B2 H2 _ _ e3 R2 fun cls d B3 H3 x3 R3 xr => f cls d B3 H3 (x2.trans x3) R3 xr
      · exact k.ok F W ρ σ B H _ _ e2 R fun cls d B2 H2 x2 R2 xr => f cls d B2 H2 x2 R2 xr
    · cases e
theorem repN_vals {B : Hp} : ∀ {kvs : List (KT × U)} {ws : List (KT × V)}, RepN K B kvs ws → RepL K B (kvs.map fun p => p.2) (ws.map fun p => p.2)
  | [], _, h => by cases h; rfl
  | (k, u) :: r, _, h => by
    obtain ⟨v, vr, rfl, h1, h2⟩ := h
    exact ⟨v, _, rfl, h1, repN_vals h2⟩
def mListVN (a : ME K) (ha : a.k = true := by exact id rfl) : MF K where
  t := fun W => tNVals K (a.t W)
  m := fun ρ => match a.m ρ with
    | some (.ok (.ndc kvs) ρ1) => some (.ok (kvs.map fun p => p.2) ρ1)
    | some (.ex e ρ1) => some (.ex e ρ1)
    | _ => none
  p := a.p
  ok := fun F W ρ σ B H Q out e R f => by
    split at e
    · rename_i kvs ρ1 e1
      cases e
      refine a.ok F W ρ σ B H _ _ e1 R fun v1 B1 H1 x1 p1 R1 r1 => ?_
      rw [ha, if_pos rfl] at r1
      obtain ⟨d, ws, rfl, h1, h2⟩ := r1
      exact ⟨d, ws, rfl, h1.up (fun _ q => R1.ex.rd q) (fun _ _ q => R1.ex.t q), fun p hp => newF f x1 p1 R1 (repN_vals h2) hp⟩
    · rename_i x ρ1 e1
      cases e
      exact a.ok F W ρ σ B H _ _ e1 R f
    · cases e
end Sg
set_option Elab.async false
set_option linter.all false
set_option maxRecDepth 100000
set_option maxHeartbeats 4000000
namespace Sg
open PySem L2
section
open PyProof.Rows
variable {X : Cx} {W : WX} {i k : Nat} {x : Str} {a b c e : Expr} {A B C : ME X.K} {G G1 : MG X.K} {I I1 : MI X.K} {tg tg1 kx vx iter iter1 : Expr} {ifs ifs1 : List Expr} {scope : Scope} {own : List (Str × Nat)} {Ts Ts1 : MTs X.K} {vs vs1 : List Nat} {p p2 p3 pos apos cpos : Pos}
theorem hu0 {A : Around} {k : Nat} (hr : Room k A) : A.units + 8 < cLine := by
  have := hr.un
  omega
theorem iitemsN {elts : List Expr} {kk : Nat} {tpos : Pos} {h} (ha : PE X e (A.t W)) (hbase : attributeBase e "items" X.env (eval e X.env) = eval e X.env := by rfl) (hline : (apos.endLine == cpos.line) = true := by rfl) : PI X (.Tuple elts kk tpos) (.Call (.Attribute e "items" apos) [] [] cpos) ((miItemsN A h).t W) := pi_itemsN ha hbase hline
theorem sdcN {hg0 hk0 hkk0 h} (hr : Room k X.A) (hN : X.N.Nodup) (ok : blkC X.N X.env.scope scope own = true) (hvs : own.map (·.2) = vs) (hsw : swapsWith (.DictComp kx vx [⟨tg, iter, ifs, 0⟩] scope p3) (some (.Name x p2)) pos.line X.env = pure true) (hi : PI X tg iter (I.t W))
    (hg : ∀ (s : Shared) (H : Hp) (C : Addr) (cl : List (Str × Addr)) (fp : List Addr), PG (X.blk s H scope (compEnvC scope cl C X.env) fp) tg G.t) (ht : ∀ (s : Shared) (H : Hp) (C : Addr) (cl : List (Str × Addr)) (fp : List Addr), PTs (X.blk s H scope (compEnvC scope cl C X.env) fp) ifs (Ts.t WNo))
    (hk : ∀ (s : Shared) (H : Hp) (C : Addr) (cl : List (Str × Addr)) (fp : List Addr), PE (X.blk s H scope (compEnvC scope cl C X.env) fp) kx (A.t WNo))
    (he : ∀ (s : Shared) (H : Hp) (C : Addr) (cl : List (Str × Addr)) (fp : List Addr), PE (X.blk s H scope (compEnvC scope cl C X.env) fp) vx (B.t WNo)) (hy : X.N[i]? = some x := by rfl) (hyl : X.env.scope.names.lookup x = some .local := by rfl) (hs : ∀ x, foldedSetIterable iter X.env x = pure x := by intro _; rfl) (hc : X.calm = true := by rfl) :
    PS X (.Assign [.Name x p2] (.DictComp kx vx [⟨tg, iter, ifs, 0⟩] scope p3) pos) ((msAsg (mDcN I G Ts A B vs hg0 hk0 hkk0) (mgName i) h).t W) := by
  subst hvs
  exact ps_setDcS (stoN X (hu0 hr)) hc hN hy hyl hsw hi (blkOk_by ok) hg ht hk he hs
theorem dgetNC {h1 h2} (hr : Room k X.A) (he : PE X b (B.t W)) (hf : PE X c (C.t W)) (hN : X.N[i]? = some x := by rfl) (hv : Vis X.env.scope x := by first | exact Or.inl rfl | exact Or.inr (Or.inl rfl) | exact Or.inr (Or.inr rfl)) (hd : (x == ("__debug__" : Str)) = false := by decide)
    (hcd : (x == ("__classdict__" : Str)) = false := by decide) (m : M2 X (.Name x p) "get" apos b c pos := by exact ⟨rfl, rfl, rfl, rfl⟩) : PE X (.Call (.Attribute (.Name x p) "get" apos) [b, c] [] pos) ((mGetNC i B C h1 h2).t W) := pe_ndget2 (hu9 hr) (pe_var hN hv hd hcd) he hf m
theorem dlistVN {h} (hm : X.mg "list" = none) (ha : PE X e (A.t W)) (hc : X.calm = true := by rfl) (hg : Gl X "list" := by rfl) (hbase : attributeBase e "values" X.env (eval e X.env) = eval e X.env := by rfl) (hline : (apos.endLine == cpos.line) = true := by rfl)
    (hs : starEach [.Call (.Attribute e "values" apos) [] [] cpos] X.env = (false, eval (.Call (.Attribute e "values" apos) [] [] cpos) X.env) :: starEach [] X.env := by rfl) :
    PE X (.Call (.Name "list" p) [.Call (.Attribute e "values" apos) [] [] cpos] [] pos) ((mListVN A h).t W) := pe_nvals hc ha hg hm (by decide +kernel) hbase hline hs
end
section
variable {K : PySem.W.Frag}
theorem miItemsN_m (a : ME K) (h) (ρ : Env) : (@miItemsN K a h).m ρ = (match a.m ρ with
    | some (.ok (.ndc kvs) ρ1) => some (.ok (kvs.map fun p => U.tup [ktU p.1, p.2]) ρ1)
    | some (.ex e ρ1) => some (.ex e ρ1)
    | _ => none) := rfl
theorem mDcN_m (it : MI K) (g : MG K) (tt : MTs K) (ek ev : ME K) (vs : List Nat) (hg hk hkk) (ρ : Env) : (@mDcN K it g tt ek ev vs hg hk hkk).m ρ = (match it.m ρ with
    | some (.ok us ρ1) => dcMN g.m tt.m ek.m ev.m vs us [] (kills ρ1 vs)
    | some (.ex e ρ1) => some (.ex e ρ1)
    | none => none) := rfl
theorem mGetNC_m (j : Nat) (k x : ME K) (h1 h2) (ρ : Env) : (@mGetNC K j k x h1 h2).m ρ = (match ρ[j]? with
    | some (.fld _ (.dn _)) => bindE (k.m ρ) fun y ρ2 => bindE (x.m ρ2) fun z ρ3 => match ρ3[j]? with
      | some (.fld _ (.dn kvs)) => if isTupU y = true then (keyN y).bind fun key => if key.key.depth ≤ 8 then some (.ok ((valN kvs key.key).getD z) ρ3) else none else none
      | _ => none
    | _ => none) := rfl
theorem mListVN_m (a : ME K) (h) (ρ : Env) : (@mListVN K a h).m ρ = (match a.m ρ with
    | some (.ok (.ndc kvs) ρ1) => some (.ok (kvs.map fun p => p.2) ρ1)
    | some (.ex e ρ1) => some (.ex e ρ1)
    | _ => none) := rfl
theorem putN_len (kvs : List (KT × U)) (k : KT) (u : U) : (putN kvs k u).length ≤ kvs.length + 1 := by
  unfold putN; split <;> simp
theorem dcMN_fold {α : Type} {g : U → Env → Option Env} {tt : Env → Option TOu} {ek ev : Env → Option EO} {vs : List Nat} {ρ : Env} (r : α → U) (fk : α → KT) (fv : α → U) : ∀ (xs : List α) (acc : List (KT × U)), acc.length + xs.length ≤ 16777216 →
    (∀ x ∈ xs, ∃ ρ1 ρ2 ρ3 ρ4 y, g (r x) ρ = some ρ1 ∧ tt ρ1 = some (.ok true ρ2) ∧ ek ρ2 = some (.ok y ρ3) ∧ keyN y = some (fk x) ∧ isTupU y = true ∧ (fk x).key.depth ≤ 8 ∧ ev ρ3 = some (.ok (fv x) ρ4) ∧ kills ρ4 vs = ρ) →
    dcMN g tt ek ev vs (xs.map r) acc ρ = some (.ok (.ndc (xs.foldl (fun a x => putN a (fk x) (fv x)) acc)) ρ)
  | [], acc, _, _ => rfl
  | x :: xs, acc, hl, h => by
    obtain ⟨ρ1, ρ2, ρ3, ρ4, y, h1, h2, h3, h4, h5, h6, h7, h8⟩ := h x List.mem_cons_self
    rw [List.map_cons]
    unfold dcMN
    rw [h1]
    simp only [h2, h3, h4, h7]
    rw [List.length_cons] at hl
    have hp := putN_len acc (fk x) (fv x)
    rw [if_pos ⟨h5, h6, by omega⟩, h8]
    exact dcMN_fold r fk fv xs _ (by omega) fun z hz => h z (List.mem_cons_of_mem _ hz)
end
end Sg
set_option Elab.async false
set_option linter.all false
set_option maxRecDepth 100000
set_option maxHeartbeats 4000000
namespace Sg
open PySem L2
section
open PyProof.Rows
end
section
open PyProof.Rows
end
end Sg
set_option Elab.async false
set_option linter.all false
set_option maxRecDepth 100000
set_option maxHeartbeats 4000000
namespace Sg
open PySem L2 PySem.Spec PyProof.Rows
end Sg
set_option Elab.async false
set_option linter.all false
set_option maxRecDepth 100000
set_option maxHeartbeats 4000000
namespace Sg
open PySem L2 PySem.Spec PyProof.Rows
variable {K : PySem.W.Frag}
section
variable {F : Fc} {B H : Hp} {p : Addr}
def NXd (H : Hp) (q : Addr) : Prop := ∀ fs, H q ≠ some (.xd fs)
theorem nxd_of {q : Addr} {o : HO} (h : H q = some o) (n : ∀ fs, o ≠ .xd fs) : NXd H q := fun fs e => by
  rw [h] at e
  exact n fs (Option.some.inj e)
theorem LsOk.nx : ∀ {uss : List (List U)} {ws : List V}, LsOk K B H uss ws → ∀ q ∈ ws.flatMap adV, NXd H q
  | [], _, h, q, hq => by cases h; cases hq
  | us :: uss, _, h, q, hq => by
    obtain ⟨z, vs, r, rfl, h1, h2, h3⟩ := h
    rcases List.mem_cons.mp (show q ∈ z :: r.flatMap adV from hq) with e | e
    · rw [e]; exact nxd_of h1 fun _ c => nomatch c
    · exact LsOk.nx h3 q e
theorem DsOk.nx : ∀ {uss : List (Key × List U)} {ws : List (Key × V)}, DsOk K B H uss ws → ∀ q ∈ ws.flatMap (fun kv => adV kv.2), NXd H q
  | [], _, h, q, hq => by cases h; cases hq
  | (k, us) :: uss, _, h, q, hq => by
    obtain ⟨z, vs, r, rfl, h1, h2, h3⟩ := h
    rcases List.mem_cons.mp (show q ∈ z :: r.flatMap (fun kv => adV kv.2) from hq) with e | e
    · rw [e]; exact nxd_of h1 fun _ c => nomatch c
    · exact DsOk.nx h3 q e
theorem FlOk.nx {fl : Fld} {x : V} (h : FlOk K B H fl x) : ∀ q ∈ inn1 H fl x, NXd H q := fun q hq => by
  cases fl with
  | v u => cases hq
  | l us => obtain ⟨z, ws, rfl, h1, h2⟩ := h; rw [List.mem_singleton.mp (show q ∈ [z] from hq)]; exact nxd_of h1 fun _ c => nomatch c
  | d us => obtain ⟨z, ws, rfl, h1, h2⟩ := h; rw [List.mem_singleton.mp (show q ∈ [z] from hq)]; exact nxd_of h1 fun _ c => nomatch c
  | ll uss =>
    obtain ⟨z, ws, rfl, h1, h2⟩ := h
    rw [inn1_ll h1] at hq
    rcases List.mem_cons.mp hq with e | e
    · rw [e]; exact nxd_of h1 fun _ c => nomatch c
    · exact h2.nx q e
  | dl uss =>
    obtain ⟨z, ws, rfl, h1, h2⟩ := h
    rw [inn1_dl h1] at hq
    rcases List.mem_cons.mp hq with e | e
    · rw [e]; exact nxd_of h1 fun _ c => nomatch c
    · exact h2.nx q e
  | dn us => obtain ⟨z, ws, rfl, h1, h2⟩ := h; rw [List.mem_singleton.mp (show q ∈ [z] from hq)]; obtain ⟨es, ep, e⟩ := h1.some; exact nxd_of e fun _ c => nomatch c
theorem FsOk.nx : ∀ {fs : List (Str × Fld)} {ws : List (Str × V)}, FsOk K B H fs ws → ∀ q ∈ inn H fs ws, NXd H q
  | [], _, h, q, hq => by cases h; cases hq
  | (k, f) :: fs, _, h, q, hq => by
    obtain ⟨x, r, rfl, h1, h2⟩ := h
    rcases List.mem_append.mp (show q ∈ inn1 H f x ++ inn H fs r from hq) with e | e
    · exact h1.nx q e
    · exact FsOk.nx h2 q e
theorem SlotOk.nx {s : Slot} {ov : Option V} (h : SlotOk K F B H s ov) (hp : p ∈ s.ow H ov) : NXd H p := by
  cases s with
  | cel own us =>
    obtain ⟨p', ws, e, h1, _⟩ := h
    rw [of_ow_cel hp] at e; cases e
    exact nxd_of h1 fun _ c => nomatch c
  | celD own us =>
    obtain ⟨p', ws, e, h1, _⟩ := h
    rw [of_ow_celD hp] at e; cases e
    exact nxd_of h1 fun _ c => nomatch c
  | obj own c fs =>
    obtain ⟨a, dx, ws, rfl, h1, h2, _⟩ := h
    have hp' : p ∈ a :: inn H fs ws := by
      have : p ∈ a :: inn H fs (insW (H a)) := hp
      rw [h1] at this; exact this
    rcases List.mem_cons.mp hp' with e | e
    · rw [e]; exact nxd_of h1 fun _ c => nomatch c
    · exact h2.nx p e
  | fld own fl =>
    obtain ⟨x, rfl, h2, _⟩ := h
    exact h2.nx p hp
  | non => cases hp
  | val u => cases hp
  | lck u => cases hp
  | nam a u => cases hp
end
end Sg
set_option Elab.async false
set_option linter.all false
set_option maxRecDepth 100000
set_option maxHeartbeats 2000000
namespace Sg
open PySem L2 PySem.Spec PyProof.Rows
end Sg
set_option Elab.async false
set_option linter.all false
set_option maxRecDepth 100000
set_option maxHeartbeats 4000000
namespace Sg
open PySem L2 PySem.Spec PyProof.Rows
end Sg
set_option Elab.async false
set_option linter.all false
set_option maxRecDepth 100000
set_option maxHeartbeats 1000000
namespace Sg
open PySem L2 PySem.Spec PyProof.Rows
end Sg
set_option Elab.async false
set_option linter.all false
set_option maxRecDepth 100000
set_option maxHeartbeats 1000000
namespace Sg
open PySem L2 PySem.Spec PyProof.Rows
end Sg
set_option Elab.async false
set_option linter.all false
set_option maxRecDepth 100000
set_option maxHeartbeats 4000000
namespace PySem.W
open PySem PySem.Spec PySem.Calls PyProof.Rows
end PySem.W
namespace Sg
open PySem L2 PySem.Spec PyProof.Rows
end Sg
set_option Elab.async false
set_option linter.all false
set_option maxRecDepth 100000
set_option maxHeartbeats 2000000
namespace Sg
open PySem L2 PySem.Spec PyProof.Rows
end Sg
set_option Elab.async false
set_option linter.all false
set_option maxRecDepth 100000
set_option maxHeartbeats 2000000
namespace Sg
open PySem L2 PySem.Spec PyProof.Rows
end Sg
set_option Elab.async false
set_option linter.all false
set_option maxRecDepth 100000
set_option maxHeartbeats 1000000
namespace Sg
open PySem L2 PySem.Spec PyProof.Rows
end Sg
set_option Elab.async false
set_option linter.all false
set_option maxRecDepth 100000
set_option maxHeartbeats 400000
namespace Sg
open PySem L2 PySem.Spec PyProof.Rows
end Sg
set_option Elab.async false
set_option linter.all false
set_option maxRecDepth 100000
set_option maxHeartbeats 1000000
namespace Sg
open PySem L2 PySem.Spec PyProof.Rows
variable {K : PySem.W.Frag}
def strsU : List U → Option (List Str)
  | [] => some []
  | .str s :: r => (strsU r).map (s :: ·)
  | _ :: _ => none
theorem strsU_ok {B : Hp} : ∀ {us : List U} {ss : List Str} {vs : List V}, strsU us = some ss → RepL K B us vs → vs = ss.map V.str
  | [], ss, vs, e, r => by cases e; cases r; rfl
  | .str s :: us, ss, vs, e, r => by
    obtain ⟨r1, e1, rfl⟩ := Option.map_eq_some_iff.mp e
    obtain ⟨v, vr, rfl, h1, h2⟩ := r
    have ev : v = V.str s := h1
    rw [ev, strsU_ok e1 h2]
    rfl
end Sg
set_option Elab.async false
set_option linter.all false
set_option maxRecDepth 100000
set_option maxHeartbeats 4000000
namespace Sg
open PySem L2 PySem.Spec PyProof.Rows
variable {K : PySem.W.Frag}
theorem idx_strs (s : Str) : ∀ ss : List Str, s ∈ ss → ∃ z, (ss.map V.str)[ss.idxOf s]? = some z ∧ eqV z (.str s) = true ∧ ∀ (m : Nat) (z' : V), m < ss.idxOf s → (ss.map V.str)[m]? = some z' → eqV z' (.str s) = false
  | t :: ss, h => by
    by_cases c : t = s
    · subst c
      have e : (t :: ss).idxOf t = 0 := by simp [List.idxOf_cons]
      rw [e]
      exact ⟨.str t, rfl, by show (t == t) = true; simp, fun m z' hm => absurd hm (Nat.not_lt_zero m)⟩
    · have e : (t :: ss).idxOf s = ss.idxOf s + 1 := by
        rw [List.idxOf_cons]
        have : (t == s) = false := by simpa using c
        rw [this]; rfl
      have hm : s ∈ ss := by
        rcases List.mem_cons.mp h with z | z
        · exact absurd z.symm c
        · exact z
      obtain ⟨z, h1, h2, h3⟩ := idx_strs s ss hm
      rw [e]
      refine ⟨z, h1, h2, fun m z' hm hz => ?_⟩
      cases m with
      | zero =>
        have : z' = .str t := (Option.some.inj hz).symm
        rw [this]
        show (t == s) = false
        simpa using c
      | succ m => exact h3 m z' (by omega) hz
def mIdxL (a b : ME K) (ha : a.k = true := by exact id rfl) (hb : b.k = true := by exact id rfl) : ME K where
  t := fun W => tBM K "list" (rIndex K) (a.t W) (tCons (b.t W) tNil)
  m := fun ρ => bindE (a.m ρ) fun u ρ1 => match u with
    | .lst us => bindE (b.m ρ1) fun y ρ2 => match y with
      | .str s => (strsU us).bind fun ss => if s ∈ ss then some (.ok (.int (ss.idxOf s : Nat)) ρ2) else none
      | _ => none
    | _ => none
  p := false
  k := true
  ok := fun F W ρ σ B H Q out e R f => by
    rcases bindE_some e with ⟨u, ρ1, e1, e⟩ | ⟨x, ρ1, e1, rfl⟩
    · refine a.ok F W ρ σ B H _ _ e1 R fun v1 B1 H1 x1 p1 R1 r1 => ?_
      rw [ha] at r1
      split at e
      · rename_i us
        obtain ⟨q, vs, rfl, h3, h4⟩ := lstU_ok (rep_up R1 r1) (show lstU (.lst us) = some us from rfl)
        refine ⟨.inl ⟨rfl, vs, h3⟩, ?_⟩
        rcases bindE_some e with ⟨y, ρ2, e2, e⟩ | ⟨xn, ρ2, e2, rfl⟩
        · refine b.ok F W ρ1 σ B1 H1 _ _ e2 R1 fun v2 B2 H2 x2 p2 R2 r2 => ?_
          rw [hb] at r2
          split at e
          · rename_i s
            obtain ⟨ss, e3, e⟩ := Option.bind_eq_some_iff.mp e
            split at e
            · rename_i hs
              cases e
              have ev : v2 = V.str s := rep_up R2 r2
              subst ev
              obtain ⟨q', vs', eq, h5, h6⟩ := lstU_ok (Rep.mono R2.ex _ _ (Rep.mono x2 _ _ r1)) (show lstU (.lst us) = some us from rfl)
              cases eq
              have ew := strsU_ok e3 h6
              subst ew
              obtain ⟨z, i1, i2, i3⟩ := idx_strs s ss hs
              exact ⟨q, ss.map V.str, .str s, ss.idxOf s, z, rfl, rfl, h5, rfl, by rw [List.all_map]; exact List.all_eq_true.mpr fun _ _ => rfl, i1, i2, i3, f _ B2 H2 (x1.trans x2) (fun z => nomatch z) R2 rfl⟩
            · cases e
          · cases e
        · exact b.ok F W ρ1 σ B1 H1 _ _ e2 R1 fun cls d B2 H2 x2 R2 xr => f cls d B2 H2 (x1.trans x2) R2 xr
      · cases e
    · exact a.ok F W ρ σ B H _ _ e1 R fun cls d B1 H1 x1 R1 xr => f cls d B1 H1 x1 R1 xr
section
open PyProof.Rows
variable {X : Cx} {W : WX} {cpos apos : Pos} {o e : Expr} {A B : ME X.K}
theorem didxL {h1 h2} (ho : PE X o (A.t W)) (he : PE X e (B.t W))
    (hbase : attributeBase o "index" X.env (eval o X.env) = eval o X.env := by rfl)
    (hfew : ((backTo cpos (starEach [e] X.env)).all (fun x => !x.1) && (backToKw cpos (keywordEach [] X.env)).all (fun x => x.1.isSome)
      && decide (([e] : List Expr).length + ([] : List Keyword).length + (if ([] : List Keyword).isEmpty then 0 else 1) < 30)) = true := by rfl)
    (hline : (apos.endLine == cpos.line) = true := by rfl) (hs : starEach [e] X.env = (false, eval e X.env) :: starEach [] X.env := by rfl) (hplain : (backTo cpos (starEach [] X.env)).any (·.1) = false := by rfl) :
    PE X (.Call (.Attribute o "index" apos) [e] [] cpos) ((mIdxL A B h1 h2).t W) := pe_bm PySem.F.plainAttrs_list PySem.F.slot_list_index PySem.F.type_list_index mt_index ho (pa_cons he pa_nil hs) hbase hfew hline hs hplain
end
end Sg
set_option Elab.async false
set_option linter.all false
set_option maxRecDepth 100000
set_option maxHeartbeats 400000
namespace Sg
open PySem L2
def topS (i : Nat) : Stmt := PySem.Challenge.pw_signsheets_k27_whole_words_that_agree.main.body.getD i (.Pass ⟨0, 0, 0, 0⟩)
abbrev s__law_dip : Stmt := topS 41
abbrev N__law_dip : List Str := ["_law_well_here", "_law_size", "_law_mixed", "_law_digit"]
theorem sc__law_dip : FnScope N__law_dip ["_law_well_here", "_law_size"] (defScope s__law_dip) := ⟨rfl, rfl, rfl, by decide +kernel, rfl, by decide +kernel, by decide +kernel⟩
noncomputable def M__law_dip (K : PySem.W.Frag) : MS K :=
  (msSeq (msIf (mTest (mOp oGt (mIx oIx (mLook 0) (mC (.int 0) (.int 0))) (mC (.int 0) (.int 0))))
  (msSeq (msAsg (mOp oMod (mIx oIx (mLook 0) (mC (.int 0) (.int 0))) (mVar 1)) (mgName 3))
  (msSeq (msSet 0 (mC (.int 0) (.int 0)) (mOp oDiv (mIx oIx (mLook 0) (mC (.int 0) (.int 0))) (mVar 1)))
  (msRet (mVar 3))))
  msNil)
  (msSeq (msSet 0 (mC (.int 2) (.int 2)) (mOp oAdd (mIx oIx (mLook 0) (mC (.int 2) (.int 2))) (mC (.int 1) (.int 1))))
  (msSeq (msAsg (mOp oMod (mOp oPowX (mOp oAdd (mIx oIx (mLook 0) (mC (.int 1) (.int 1))) (mOp oMul (mC (.int 15485863) (.int 15485863)) (mIx oIx (mLook 0) (mC (.int 2) (.int 2))))) (mC (.int 3) (.int 3))) (mOp oAdd (mOp oPow (mC (.int 10) (.int 10)) (mC (.int 40) (.int 40))) (mC (.int 121) (.int 121)))) (mgName 2))
  (msSeq (msAsg (mOp oMod (mOp oPowX (mOp oAdd (mVar 2) (mOp oMul (mC (.int 32452843) (.int 32452843)) (mIx oIx (mLook 0) (mC (.int 2) (.int 2))))) (mC (.int 5) (.int 5))) (mOp oAdd (mOp oPow (mC (.int 10) (.int 10)) (mC (.int 38) (.int 38))) (mC (.int 133) (.int 133)))) (mgName 2))
  (msRet (mOp oMod (mOp oDiv (mVar 2) (mC (.int 524309) (.int 524309))) (mVar 1)))))))
noncomputable def mf__law_dip (K : PySem.W.Frag) : List Slot → Option CO := mfOf0 4 (M__law_dip K).m
abbrev s__law_all_rows : Stmt := topS 44
abbrev N__law_all_rows : List Str := ["_law_values_here", "_law_size", "_law_found", "_law_turn", "_law_longer", "_law_row", "_law_value"]
theorem sc__law_all_rows : FnScope N__law_all_rows ["_law_values_here", "_law_size"] (defScope s__law_all_rows) := ⟨rfl, rfl, rfl, by decide +kernel, rfl, by decide +kernel, by decide +kernel⟩
noncomputable def G__law_all_rows_0 (K : PySem.W.Frag) : MG K :=
  (mgName 6)
noncomputable def T__law_all_rows_1 (K : PySem.W.Frag) : MTs K :=
  mtYes
noncomputable def E__law_all_rows_2 (K : PySem.W.Frag) : ME K :=
  (mFr (mCat (mVar 5) (mFr (mLst (mCons (mVar 6) mNil)))))
noncomputable def G__law_all_rows_3 (K : PySem.W.Frag) : MG K :=
  (mgName 5)
noncomputable def B__law_all_rows_4 (K : PySem.W.Frag) : MS K :=
  (msDrop (mMeth 4 oExtend (mCons (mFr (mLc (miList (mVar 0)) (G__law_all_rows_0 K) (T__law_all_rows_1 K) (E__law_all_rows_2 K) [6])) mNil)))
noncomputable def G__law_all_rows_5 (K : PySem.W.Frag) : MG K :=
  (mgName 3)
noncomputable def B__law_all_rows_6 (K : PySem.W.Frag) : MS K :=
  (msSeq (msAsgF (mLst mNil) 4)
  (msSeq (msFor (miList (mVar 2)) (G__law_all_rows_3 K)
  (B__law_all_rows_4 K)
  [5, 6])
  (msAsg (mLet 4) (mgName 2))))
noncomputable def M__law_all_rows (K : PySem.W.Frag) : MS K :=
  (msSeq (msAsg (mFr (mLst (mCons (mFr (mLst mNil)) mNil))) (mgName 2))
  (msSeq (msFor (miRng1 (mVar 1)) (G__law_all_rows_5 K)
  (B__law_all_rows_6 K)
  [3, 4, 5, 6])
  (msRet (mVar 2))))
noncomputable def mf__law_all_rows (K : PySem.W.Frag) : List Slot → Option CO := mfOf0 7 (M__law_all_rows K).m
abbrev s__law_runs : Stmt := topS 45
abbrev N__law_runs : List Str := ["_law_row", "_law_found", "_law_sign"]
theorem sc__law_runs : FnScope N__law_runs ["_law_row"] (defScope s__law_runs) := ⟨rfl, rfl, rfl, by decide +kernel, rfl, by decide +kernel, by decide +kernel⟩
noncomputable def G__law_runs_0 (K : PySem.W.Frag) : MG K :=
  (mgName 2)
noncomputable def B__law_runs_1 (K : PySem.W.Frag) : MS K :=
  (msIf (mAnd (mTest (mOp oNe (mLook 1) (mFr (mLst mNil)))) (mTest (mOp oEq (mIx oIx (mIx oIx (mLook 1) (mUn oNeg (mC (.int 1) (.int 1)))) (mC (.int 0) (.int 0))) (mVar 2))))
  (msSet 1 (mUn oNeg (mC (.int 1) (.int 1))) (mTup (mCons (mVar 2) (mCons (mOp oAdd (mIx oIx (mIx oIx (mLook 1) (mUn oNeg (mC (.int 1) (.int 1)))) (mC (.int 1) (.int 1))) (mC (.int 1) (.int 1))) mNil))))
  (msDrop (mMeth 1 oAppend (mCons (mTup (mCons (mVar 2) (mCons (mC (.int 1) (.int 1)) mNil))) mNil))))
noncomputable def M__law_runs (K : PySem.W.Frag) : MS K :=
  (msSeq (msAsgF (mLst mNil) 1)
  (msSeq (msFor (miList (mVar 0)) (G__law_runs_0 K)
  (B__law_runs_1 K)
  [2])
  (msRet (mLet 1))))
noncomputable def mf__law_runs (K : PySem.W.Frag) : List Slot → Option CO := mfOf0 3 (M__law_runs K).m
abbrev s_rule_of : Stmt := topS 23
abbrev N_rule_of : List Str := ["name"]
theorem sc_rule_of : FnScope N_rule_of ["name"] (defScope s_rule_of) := ⟨rfl, rfl, rfl, by decide +kernel, rfl, by decide +kernel, by decide +kernel⟩
noncomputable def M_rule_of (K : PySem.W.Frag) : MS K :=
  (msSeq (msIf (mTest (mOp oEq (mVar 0) (mC (.str "plain") (.str "plain"))))
  (msRet (mNew "Plain"))
  msNil)
  (msSeq (msIf (mTest (mOp oEq (mVar 0) (mC (.str "single") (.str "single"))))
  (msRet (mNew "Single"))
  msNil)
  (msSeq (msIf (mTest (mOp oEq (mVar 0) (mC (.str "next") (.str "next"))))
  (msRet (mNew "Next"))
  msNil)
  (msRet (mIf (mTest (mOp oEq (mVar 0) (mC (.str "block") (.str "block")))) (mNew "Block") (mNew "Later"))))))
noncomputable def mf_rule_of (K : PySem.W.Frag) : List Slot → Option CO := mfOf0 1 (M_rule_of K).m
abbrev s_Rule_named : Stmt := inClass (topS 17) 2
abbrev N_Rule_named : List Str := ["cls", "name"]
theorem sc_Rule_named : FnScope N_Rule_named ["cls", "name"] (defScope s_Rule_named) := ⟨rfl, rfl, rfl, by decide +kernel, rfl, by decide +kernel, by decide +kernel⟩
noncomputable def M_Rule_named (K : PySem.W.Frag) : MS K :=
  (msSeq (msIf (mTest (mOp (oIn true) (mVar 1) (mConC "Rule" (.tup ((["plain", "single", "next", "block", "later"] : List Str).map U.str)) (mVar 0))))
  (msRaise "InvalidValues")
  msNil)
  (msRet (mCall 1 (mf_rule_of K) (mcVal (mVar 1) mcNil))))
noncomputable def mf_Rule_named (K : PySem.W.Frag) : List Slot → Option CO := mfOf 2 (M_Rule_named K).m
abbrev s_System_row : Stmt := inClass (topS 28) 3
abbrev N_System_row : List Str := ["self"]
theorem sc_System_row : FnScope N_System_row ["self"] (defScope s_System_row) := ⟨rfl, rfl, rfl, by decide +kernel, rfl, by decide +kernel, by decide +kernel⟩
noncomputable def M_System_row (K : PySem.W.Frag) : MS K :=
  (msRet (mFr (mBiF oList (mCons (mFld "held_values" ["System"] (mVar 0)) mNil))))
noncomputable def mf_System_row (K : PySem.W.Frag) : List Slot → Option CO := mfOf0 1 (M_System_row K).m
noncomputable def ptab_row (K : PySem.W.Frag) : MTab := [("System", mf_System_row K)]
abbrev s_System_rule : Stmt := inClass (topS 28) 4
abbrev N_System_rule : List Str := ["self"]
theorem sc_System_rule : FnScope N_System_rule ["self"] (defScope s_System_rule) := ⟨rfl, rfl, rfl, by decide +kernel, rfl, by decide +kernel, by decide +kernel⟩
noncomputable def M_System_rule (K : PySem.W.Frag) : MS K :=
  (msRet (mFld "held_rule" ["System"] (mVar 0)))
noncomputable def mf_System_rule (K : PySem.W.Frag) : List Slot → Option CO := mfOf0 1 (M_System_rule K).m
noncomputable def ptab_rule (K : PySem.W.Frag) : MTab := [("System", mf_System_rule K)]
abbrev s_is_integer : Stmt := topS 13
abbrev N_is_integer : List Str := ["thing", "least"]
theorem sc_is_integer : FnScope N_is_integer ["thing", "least"] (defScope s_is_integer) := ⟨rfl, rfl, rfl, by decide +kernel, rfl, by decide +kernel, by decide +kernel⟩
noncomputable def M_is_integer (K : PySem.W.Frag) : MS K :=
  (msRet (mAndV (mIsi "int" (mVar 0)) (mAndV (mNotV (mIsi "bool" (mVar 0))) (mOp oGe (mVar 0) (mVar 1)))))
noncomputable def mf_is_integer (K : PySem.W.Frag) : List Slot → Option CO := mfOf0 2 (M_is_integer K).m
abbrev s_is_run : Stmt := topS 14
abbrev N_is_run : List Str := ["thing", "part"]
theorem sc_is_run : FnScope N_is_run ["thing"] (defScope s_is_run) := ⟨rfl, rfl, rfl, by decide +kernel, rfl, by decide +kernel, by decide +kernel⟩
noncomputable def G_is_run_0 (K : PySem.W.Frag) : MG K :=
  (mgName 1)
noncomputable def T_is_run_1 (K : PySem.W.Frag) : MTs K :=
  mtYes
noncomputable def E_is_run_2 (K : PySem.W.Frag) : ME K :=
  (mCall 2 (mf_is_integer K) (mcVal (mVar 1) (mcVal (mC (.int 1) (.int 1)) mcNil)))
noncomputable def M_is_run (K : PySem.W.Frag) : MS K :=
  (msRet (mAndV (mIsi "tuple" (mVar 0)) (mAndV (mOp oEqI (mBi oLen (mCons (mVar 0) mNil)) (mC (.int 2) (.int 2))) (mBi oAll (mCons (mFr (mLc (miTup (mVar 0)) (G_is_run_0 K) (T_is_run_1 K) (E_is_run_2 K) [1])) mNil)))))
noncomputable def mf_is_run (K : PySem.W.Frag) : List Slot → Option CO := mfOf0 2 (M_is_run K).m
abbrev s_are_runs : Stmt := topS 15
abbrev N_are_runs : List Str := ["thing", "run", "one", "other"]
theorem sc_are_runs : FnScope N_are_runs ["thing"] (defScope s_are_runs) := ⟨rfl, rfl, rfl, by decide +kernel, rfl, by decide +kernel, by decide +kernel⟩
noncomputable def G_are_runs_0 (K : PySem.W.Frag) : MG K :=
  (mgName 1)
noncomputable def T_are_runs_1 (K : PySem.W.Frag) : MTs K :=
  mtYes
noncomputable def E_are_runs_2 (K : PySem.W.Frag) : ME K :=
  (mCall 1 (mf_is_run K) (mcVal (mVar 1) mcNil))
noncomputable def G_are_runs_3 (K : PySem.W.Frag) : MG K :=
  (mgTup 2 (mgCons (mgName 2) (mgCons (mgName 3) mgNil)))
noncomputable def T_are_runs_4 (K : PySem.W.Frag) : MTs K :=
  mtYes
noncomputable def E_are_runs_5 (K : PySem.W.Frag) : ME K :=
  (mOp oNe (mIx oIx (mVar 2) (mC (.int 0) (.int 0))) (mIx oIx (mVar 3) (mC (.int 0) (.int 0))))
noncomputable def M_are_runs (K : PySem.W.Frag) : MS K :=
  (msSeq (msIf (mOr (mNot (mTest (mIsi "list" (mVar 0)))) (mOr (mNot (mTest (mChain oLe oLe (mC (.int 1) (.int 1)) (mBi oLen (mCons (mVar 0) mNil)) (mC (.int 200) (.int 200))))) (mNot (mTest (mBi oAll (mCons (mFr (mLc (miList (mVar 0)) (G_are_runs_0 K) (T_are_runs_1 K) (E_are_runs_2 K) [1])) mNil))))))
  (msRet (mC (.bl false) (.bl false)))
  msNil)
  (msRet (mBi oAll (mCons (mFr (mLc (miZip (mVar 0) (mFr (mSlL (mVar 0) (moSome (mC (.int 1) (.int 1))) moNone))) (G_are_runs_3 K) (T_are_runs_4 K) (E_are_runs_5 K) [2, 3])) mNil))))
noncomputable def mf_are_runs (K : PySem.W.Frag) : List Slot → Option CO := mfOf0 4 (M_are_runs K).m
abbrev s_need_runs : Stmt := topS 16
abbrev N_need_runs : List Str := ["word"]
theorem sc_need_runs : FnScope N_need_runs ["word"] (defScope s_need_runs) := ⟨rfl, rfl, rfl, by decide +kernel, rfl, by decide +kernel, by decide +kernel⟩
noncomputable def M_need_runs (K : PySem.W.Frag) : MS K :=
  (msIf (mNot (mTru (mCall 1 (mf_are_runs K) (mcVal (mVar 0) mcNil))))
  (msRaise "InvalidWord")
  msNil)
noncomputable def mf_need_runs (K : PySem.W.Frag) : List Slot → Option CO := mfOf 1 (M_need_runs K).m
abbrev s_Plain_signs : Stmt := inClass (topS 18) 1
abbrev N_Plain_signs : List Str := ["self", "word", "value", "count"]
theorem sc_Plain_signs : FnScope N_Plain_signs ["self", "word"] (defScope s_Plain_signs) := ⟨rfl, rfl, rfl, by decide +kernel, rfl, by decide +kernel, by decide +kernel⟩
noncomputable def G_Plain_signs_0 (K : PySem.W.Frag) : MG K :=
  (mgTup 2 (mgCons (mgName 2) (mgCons (mgName 3) mgNil)))
noncomputable def T_Plain_signs_1 (K : PySem.W.Frag) : MTs K :=
  mtYes
noncomputable def E_Plain_signs_2 (K : PySem.W.Frag) : ME K :=
  (mTup (mCons (mVar 2) (mCons (mVar 3) (mCons (mC (.int 0) (.int 0)) mNil))))
noncomputable def M_Plain_signs (K : PySem.W.Frag) : MS K :=
  (msSeq (msDrop (mCall 1 (mf_need_runs K) (mcVal (mVar 1) mcNil)))
  (msRet (mFr (mLc (miList (mVar 1)) (G_Plain_signs_0 K) (T_Plain_signs_1 K) (E_Plain_signs_2 K) [2, 3]))))
noncomputable def mf_Plain_signs (K : PySem.W.Frag) : List Slot → Option CO := mfOf 4 (M_Plain_signs K).m
abbrev s_Next_signs : Stmt := inClass (topS 19) 1
abbrev N_Next_signs : List Str := ["self", "word", "found", "place", "value", "count", "minus"]
theorem sc_Next_signs : FnScope N_Next_signs ["self", "word"] (defScope s_Next_signs) := ⟨rfl, rfl, rfl, by decide +kernel, rfl, by decide +kernel, by decide +kernel⟩
noncomputable def G_Next_signs_0 (K : PySem.W.Frag) : MG K :=
  (mgTup 2 (mgCons (mgName 3) (mgCons (mgTup 2 (mgCons (mgName 4) (mgCons (mgName 5) mgNil))) mgNil)))
noncomputable def B_Next_signs_1 (K : PySem.W.Frag) : MS K :=
  (msSeq (msAsg (mBi oInt (mCons (mAndV (mOp oLt (mOp oAdd (mVar 3) (mC (.int 1) (.int 1))) (mBi oLen (mCons (mVar 1) mNil))) (mOp oGt (mIx oIx (mIx oIx (mVar 1) (mOp oAdd (mVar 3) (mC (.int 1) (.int 1)))) (mC (.int 0) (.int 0))) (mVar 4))) mNil)) (mgName 6))
  (msDrop (mMeth 2 oAppend (mCons (mTup (mCons (mVar 4) (mCons (mOp oSub (mVar 5) (mVar 6)) (mCons (mVar 6) mNil)))) mNil))))
noncomputable def M_Next_signs (K : PySem.W.Frag) : MS K :=
  (msSeq (msDrop (mCall 1 (mf_need_runs K) (mcVal (mVar 1) mcNil)))
  (msSeq (msAsgF (mLst mNil) 2)
  (msSeq (msFor (miEnum (mVar 1)) (G_Next_signs_0 K)
  (B_Next_signs_1 K)
  [3, 4, 5, 6])
  (msRet (mLet 2)))))
noncomputable def mf_Next_signs (K : PySem.W.Frag) : List Slot → Option CO := mfOf 7 (M_Next_signs K).m
abbrev s_Single_signs : Stmt := inClass (topS 20) 1
abbrev N_Single_signs : List Str := ["self", "word", "__class__", "found", "value", "added", "minus", "following", "plus", "other_minus"]
theorem sc_Single_signs : NdefX.NScope N_Single_signs ["self", "word"] ["__class__"] (defScope s_Single_signs) := NdefX.nscope_by (by decide +kernel)
noncomputable def G_Single_signs_0 (K : PySem.W.Frag) : MG K :=
  (mgTup 2 (mgCons (mgTup 3 (mgCons (mgName 4) (mgCons (mgName 5) (mgCons (mgName 6) mgNil)))) (mgCons (mgTup 3 (mgCons (mgName 7) (mgCons (mgName 8) (mgCons (mgName 9) mgNil)))) mgNil)))
noncomputable def B_Single_signs_1 (K : PySem.W.Frag) : MS K :=
  (msIf (mAnd (mTest (mOp oGt (mVar 6) (mC (.int 0) (.int 0)))) (mTest (mOp oEq (mVar 8) (mC (.int 0) (.int 0)))))
  (msRaise "InvalidWord")
  msNil)
noncomputable def M_Single_signs (K : PySem.W.Frag) : MS K :=
  (msSeq (msAsg (mSup "Single" 2 (mf_Next_signs K) (mcVal (mVar 1) mcNil)) (mgName 3))
  (msSeq (msFor (miZip (mVar 3) (mFr (mSlL (mVar 3) (moSome (mC (.int 1) (.int 1))) moNone))) (G_Single_signs_0 K)
  (B_Single_signs_1 K)
  [4, 5, 6, 7, 8, 9])
  (msRet (mVar 3))))
noncomputable def mf_Single_signs (K : PySem.W.Frag) : List Slot → Option CO := mfOf 10 (M_Single_signs K).m
abbrev s_Block_signs : Stmt := inClass (topS 21) 1
abbrev N_Block_signs : List Str := ["self", "word", "found", "following", "value", "count"]
theorem sc_Block_signs : FnScope N_Block_signs ["self", "word"] (defScope s_Block_signs) := ⟨rfl, rfl, rfl, by decide +kernel, rfl, by decide +kernel, by decide +kernel⟩
noncomputable def G_Block_signs_0 (K : PySem.W.Frag) : MG K :=
  (mgTup 2 (mgCons (mgName 4) (mgCons (mgName 5) mgNil)))
noncomputable def B_Block_signs_1 (K : PySem.W.Frag) : MS K :=
  (msSeq (msDrop (mMeth 2 oAppend (mCons (mIf (mTest (mOp oGt (mVar 3) (mVar 4))) (mTup (mCons (mVar 4) (mCons (mC (.int 0) (.int 0)) (mCons (mVar 5) mNil)))) (mTup (mCons (mVar 4) (mCons (mVar 5) (mCons (mC (.int 0) (.int 0)) mNil))))) mNil)))
  (msAsg (mVar 4) (mgName 3)))
noncomputable def M_Block_signs (K : PySem.W.Frag) : MS K :=
  (msSeq (msDrop (mCall 1 (mf_need_runs K) (mcVal (mVar 1) mcNil)))
  (msSeq (msAsgF (mLst mNil) 2)
  (msSeq (msAsg (mC (.int 0) (.int 0)) (mgName 3))
  (msSeq (msFor (miList (mFr (mRev (mVar 1)))) (G_Block_signs_0 K)
  (B_Block_signs_1 K)
  [4, 5])
  (msRet (mFr (mRev (mLet 2))))))))
noncomputable def mf_Block_signs (K : PySem.W.Frag) : List Slot → Option CO := mfOf 6 (M_Block_signs K).m
abbrev s_Later_signs : Stmt := inClass (topS 22) 1
abbrev N_Later_signs : List Str := ["self", "word", "__class__", "found", "greatest", "value", "added", "subtracted", "count"]
theorem sc_Later_signs : NdefX.NScope N_Later_signs ["self", "word"] ["__class__"] (defScope s_Later_signs) := NdefX.nscope_by (by decide +kernel)
noncomputable def G_Later_signs_0 (K : PySem.W.Frag) : MG K :=
  (mgTup 3 (mgCons (mgName 5) (mgCons (mgName 6) (mgCons (mgName 7) mgNil))))
noncomputable def B_Later_signs_1 (K : PySem.W.Frag) : MS K :=
  (msSeq (msAsg (mOp oAdd (mVar 6) (mVar 7)) (mgName 8))
  (msSeq (msDrop (mMeth 3 oAppend (mCons (mIf (mTest (mOp oGt (mVar 4) (mVar 5))) (mTup (mCons (mVar 5) (mCons (mC (.int 0) (.int 0)) (mCons (mVar 8) mNil)))) (mTup (mCons (mVar 5) (mCons (mVar 8) (mCons (mC (.int 0) (.int 0)) mNil))))) mNil)))
  (msAsg (mBi oMax2 (mCons (mVar 4) (mCons (mVar 5) mNil))) (mgName 4))))
noncomputable def M_Later_signs (K : PySem.W.Frag) : MS K :=
  (msSeq (msAsgF (mLst mNil) 3)
  (msSeq (msAsg (mC (.int 0) (.int 0)) (mgName 4))
  (msSeq (msFor (miList (mFr (mRev (mSup "Later" 2 (mf_Block_signs K) (mcVal (mVar 1) mcNil))))) (G_Later_signs_0 K)
  (B_Later_signs_1 K)
  [5, 6, 7, 8])
  (msRet (mFr (mRev (mLet 3)))))))
noncomputable def mf_Later_signs (K : PySem.W.Frag) : List Slot → Option CO := mfOf 9 (M_Later_signs K).m
noncomputable def tab_signs (K : PySem.W.Frag) : MTab := [("Plain", mf_Plain_signs K), ("Single", mf_Single_signs K), ("Next", mf_Next_signs K), ("Block", mf_Block_signs K), ("Later", mf_Later_signs K)]
abbrev s_signs_of : Stmt := topS 30
abbrev N_signs_of : List Str := ["system", "word", "found", "values", "value", "added", "subtracted"]
theorem sc_signs_of : FnScope N_signs_of ["system", "word"] (defScope s_signs_of) := ⟨rfl, rfl, rfl, by decide +kernel, rfl, by decide +kernel, by decide +kernel⟩
noncomputable def G_signs_of_0 (K : PySem.W.Frag) : MG K :=
  (mgTup 3 (mgCons (mgName 4) (mgCons (mgName 5) (mgCons (mgName 6) mgNil))))
noncomputable def T_signs_of_1 (K : PySem.W.Frag) : MTs K :=
  mtYes
noncomputable def E_signs_of_2 (K : PySem.W.Frag) : ME K :=
  (mOp (oIn false) (mVar 4) (mVar 3))
noncomputable def M_signs_of (K : PySem.W.Frag) : MS K :=
  (msSeq (msAsg (mMethD "signs" 2 (tab_signs K) (mCMeth "Rule" 2 (mf_Rule_named K) (mcVal (mProp (ptab_rule K) (mVar 0)) mcNil)) (mcVal (mVar 1) mcNil)) (mgName 2))
  (msSeq (msAsg (mProp (ptab_row K) (mVar 0)) (mgName 3))
  (msSeq (msIf (mNot (mTest (mBi oAll (mCons (mFr (mLc (miList (mVar 2)) (G_signs_of_0 K) (T_signs_of_1 K) (E_signs_of_2 K) [4, 5, 6])) mNil))))
  (msRaise "InvalidWord")
  msNil)
  (msRet (mVar 2)))))
noncomputable def mf_signs_of (K : PySem.W.Frag) : List Slot → Option CO := mfOf 7 (M_signs_of K).m
abbrev s_is_word : Stmt := topS 31
abbrev N_is_word : List Str := ["system", "thing"]
theorem sc_is_word : FnScope N_is_word ["system", "thing"] (defScope s_is_word) := ⟨rfl, rfl, rfl, by decide +kernel, rfl, by decide +kernel, by decide +kernel⟩
noncomputable def M_is_word (K : PySem.W.Frag) : MS K :=
  (msSeq (msTry [("InvalidLength", false), ("InvalidValues", false), ("InvalidWord", true)]
  (msDrop (mCall 2 (mf_signs_of K) (mcVal (mVar 0) (mcVal (mVar 1) mcNil))))
  (msRet (mC (.bl false) (.bl false))))
  (msRet (mC (.bl true) (.bl true))))
noncomputable def mf_is_word (K : PySem.W.Frag) : List Slot → Option CO := mfOf 2 (M_is_word K).m
abbrev s_value_of : Stmt := topS 32
abbrev N_value_of : List Str := ["system", "word", "value", "added", "subtracted"]
theorem sc_value_of : FnScope N_value_of ["system", "word"] (defScope s_value_of) := ⟨rfl, rfl, rfl, by decide +kernel, rfl, by decide +kernel, by decide +kernel⟩
noncomputable def G_value_of_0 (K : PySem.W.Frag) : MG K :=
  (mgTup 3 (mgCons (mgName 2) (mgCons (mgName 3) (mgCons (mgName 4) mgNil))))
noncomputable def T_value_of_1 (K : PySem.W.Frag) : MTs K :=
  mtYes
noncomputable def E_value_of_2 (K : PySem.W.Frag) : ME K :=
  (mOp oMul (mVar 2) (mOp oSub (mVar 3) (mVar 4)))
noncomputable def M_value_of (K : PySem.W.Frag) : MS K :=
  (msRet (mBi oSum (mCons (mFr (mLc (miList (mCall 2 (mf_signs_of K) (mcVal (mVar 0) (mcVal (mVar 1) mcNil)))) (G_value_of_0 K) (T_value_of_1 K) (E_value_of_2 K) [2, 3, 4])) mNil)))
noncomputable def mf_value_of (K : PySem.W.Frag) : List Slot → Option CO := mfOf 5 (M_value_of K).m
abbrev s_are_values : Stmt := topS 26
abbrev N_are_values : List Str := ["thing", "value", "one", "other"]
theorem sc_are_values : FnScope N_are_values ["thing"] (defScope s_are_values) := ⟨rfl, rfl, rfl, by decide +kernel, rfl, by decide +kernel, by decide +kernel⟩
noncomputable def G_are_values_0 (K : PySem.W.Frag) : MG K :=
  (mgName 1)
noncomputable def T_are_values_1 (K : PySem.W.Frag) : MTs K :=
  mtYes
noncomputable def E_are_values_2 (K : PySem.W.Frag) : ME K :=
  (mAndV (mCall 2 (mf_is_integer K) (mcVal (mVar 1) (mcVal (mC (.int 1) (.int 1)) mcNil))) (mOp oLe (mVar 1) (mC (.int 60) (.int 60))))
noncomputable def G_are_values_3 (K : PySem.W.Frag) : MG K :=
  (mgTup 2 (mgCons (mgName 2) (mgCons (mgName 3) mgNil)))
noncomputable def T_are_values_4 (K : PySem.W.Frag) : MTs K :=
  mtYes
noncomputable def E_are_values_5 (K : PySem.W.Frag) : ME K :=
  (mOp oLt (mVar 2) (mVar 3))
noncomputable def M_are_values (K : PySem.W.Frag) : MS K :=
  (msSeq (msIf (mOr (mNot (mTest (mIsi "list" (mVar 0)))) (mNot (mTest (mChain oLe oLe (mC (.int 1) (.int 1)) (mBi oLen (mCons (mVar 0) mNil)) (mConC "System" (.int 6) (mC (.ref (He.ga K "System")) (.ref (He.ga K "System"))))))))
  (msRet (mC (.bl false) (.bl false)))
  msNil)
  (msSeq (msIf (mNot (mTest (mBi oAll (mCons (mFr (mLc (miList (mVar 0)) (G_are_values_0 K) (T_are_values_1 K) (E_are_values_2 K) [1])) mNil))))
  (msRet (mC (.bl false) (.bl false)))
  msNil)
  (msRet (mBi oAll (mCons (mFr (mLc (miZip (mVar 0) (mFr (mSlL (mVar 0) (moSome (mC (.int 1) (.int 1))) moNone))) (G_are_values_3 K) (T_are_values_4 K) (E_are_values_5 K) [2, 3])) mNil)))))
noncomputable def mf_are_values (K : PySem.W.Frag) : List Slot → Option CO := mfOf0 4 (M_are_values K).m
abbrev s_is_rule : Stmt := topS 27
abbrev N_is_rule : List Str := ["thing"]
theorem sc_is_rule : FnScope N_is_rule ["thing"] (defScope s_is_rule) := ⟨rfl, rfl, rfl, by decide +kernel, rfl, by decide +kernel, by decide +kernel⟩
noncomputable def M_is_rule (K : PySem.W.Frag) : MS K :=
  (msRet (mAndV (mIsi "str" (mVar 0)) (mOp (oIn false) (mVar 0) (mConC "Rule" (.tup ((["plain", "single", "next", "block", "later"] : List Str).map U.str)) (mC (.ref (He.ga K "Rule")) (.ref (He.ga K "Rule")))))))
noncomputable def mf_is_rule (K : PySem.W.Frag) : List Slot → Option CO := mfOf0 1 (M_is_rule K).m
abbrev s_System___init__ : Stmt := inClass (topS 28) 1
abbrev N_System___init__ : List Str := ["self", "rule", "values"]
theorem sc_System___init__ : FnScope N_System___init__ ["self", "rule", "values"] (defScope s_System___init__) := ⟨rfl, rfl, rfl, by decide +kernel, rfl, by decide +kernel, by decide +kernel⟩
noncomputable def MN_System (K : PySem.W.Frag) : MN K :=
  (mnSeq (mnS (msIf (mOr (mNot (mTru (mCall 1 (mf_are_values K) (mcVal (mFr (mBiF oList (mCons (mVar 2) mNil))) mcNil)))) (mNot (mTru (mCall 1 (mf_is_rule K) (mcVal (mVar 1) mcNil)))))
  (msRaise "InvalidValues")
  msNil))
  (mnSeq (mnF "held_values" (mFr (mBiF oList (mCons (mVar 2) mNil))))
  (mnF "held_rule" (mVar 1))))
abbrev s_System_with_rule : Stmt := inClass (topS 28) 7
abbrev N_System_with_rule : List Str := ["self", "rule"]
theorem sc_System_with_rule : FnScope N_System_with_rule ["self", "rule"] (defScope s_System_with_rule) := ⟨rfl, rfl, rfl, by decide +kernel, rfl, by decide +kernel, by decide +kernel⟩
noncomputable def M_System_with_rule (K : PySem.W.Frag) : MS K :=
  (msRet (mMakeS "System" 3 (MN_System K) (mFld "held_values" ["System"] (mVar 0)) (mVar 1)))
noncomputable def mf_System_with_rule (K : PySem.W.Frag) : List Slot → Option CO := mfOf 2 (M_System_with_rule K).m
noncomputable def tab_with_rule (K : PySem.W.Frag) : MTab := [("System", mf_System_with_rule K)]
abbrev s_agree : Stmt := topS 35
abbrev N_agree : List Str := ["system", "rule", "word", "other", "value"]
theorem sc_agree : FnScope N_agree ["system", "rule", "word"] (defScope s_agree) := ⟨rfl, rfl, rfl, by decide +kernel, rfl, by decide +kernel, by decide +kernel⟩
noncomputable def M_agree (K : PySem.W.Frag) : MS K :=
  (msSeq (msAsg (mMethD "with_rule" 2 (tab_with_rule K) (mVar 0) (mcVal (mVar 1) mcNil)) (mgName 3))
  (msSeq (msAsg (mCall 2 (mf_value_of K) (mcVal (mVar 0) (mcVal (mVar 2) mcNil))) (mgName 4))
  (msRet (mAndV (mCall 2 (mf_is_word K) (mcVal (mVar 3) (mcVal (mVar 2) mcNil))) (mOp oEq (mCall 2 (mf_value_of K) (mcVal (mVar 3) (mcVal (mVar 2) mcNil))) (mVar 4))))))
noncomputable def mf_agree (K : PySem.W.Frag) : List Slot → Option CO := mfOf 5 (M_agree K).m
abbrev s_Tail___init__ : Stmt := inClass (topS 36) 0
abbrev N_Tail___init__ : List Str := ["self", "sign", "next_minus", "block_minus", "top"]
theorem sc_Tail___init__ : FnScope N_Tail___init__ ["self", "sign", "next_minus", "block_minus", "top"] (defScope s_Tail___init__) := ⟨rfl, rfl, rfl, by decide +kernel, rfl, by decide +kernel, by decide +kernel⟩
noncomputable def M_Tail___init__ (K : PySem.W.Frag) : MS K :=
  (msSeq (msOF "first_sign" ["Tail"] 0 (mVar 1))
  (msSeq (msOF "next_minus" ["Tail"] 0 (mVar 2))
  (msSeq (msOF "block_minus" ["Tail"] 0 (mVar 3))
  (msOF "top" ["Tail"] 0 (mVar 4)))))
noncomputable def mf_Tail___init__ (K : PySem.W.Frag) : List Slot → Option COG := mfG 5 (M_Tail___init__ K).m
abbrev s_Tail_minus_by : Stmt := inClass (topS 36) 2
abbrev N_Tail_minus_by : List Str := ["self", "rule", "sign"]
theorem sc_Tail_minus_by : FnScope N_Tail_minus_by ["self", "rule", "sign"] (defScope s_Tail_minus_by) := ⟨rfl, rfl, rfl, by decide +kernel, rfl, by decide +kernel, by decide +kernel⟩
noncomputable def M_Tail_minus_by (K : PySem.W.Frag) : MS K :=
  (msSeq (msIf (mTest (mOp (oIn false) (mVar 1) (mTup (mCons (mC (.str "single") (.str "single")) (mCons (mC (.str "next") (.str "next")) mNil)))))
  (msRet (mOp oLt (mVar 2) (mFld "first_sign" ["Tail"] (mVar 0))))
  msNil)
  (msSeq (msIf (mTest (mOp oEq (mVar 1) (mC (.str "block") (.str "block"))))
  (msRet (mOrV (mOp oLt (mVar 2) (mFld "first_sign" ["Tail"] (mVar 0))) (mAndV (mOp oEq (mVar 2) (mFld "first_sign" ["Tail"] (mVar 0))) (mFld "block_minus" ["Tail"] (mVar 0)))))
  msNil)
  (msRet (mAndV (mOp oEq (mVar 1) (mC (.str "later") (.str "later"))) (mOp oLt (mVar 2) (mFld "top" ["Tail"] (mVar 0)))))))
noncomputable def mf_Tail_minus_by (K : PySem.W.Frag) : List Slot → Option CO := mfOf 3 (M_Tail_minus_by K).m
noncomputable def tab_minus_by (K : PySem.W.Frag) : MTab := [("Tail", mf_Tail_minus_by K)]
abbrev s_fits_before : Stmt := topS 37
abbrev N_fits_before : List Str := ["tail", "sign", "rules"]
theorem sc_fits_before : FnScope N_fits_before ["tail", "sign", "rules"] (defScope s_fits_before) := ⟨rfl, rfl, rfl, by decide +kernel, rfl, by decide +kernel, by decide +kernel⟩
noncomputable def M_fits_before (K : PySem.W.Frag) : MS K :=
  (msSeq (msIf (mAnd (mTest (mOp (oIn false) (mC (.str "single") (.str "single")) (mVar 2))) (mAnd (mTru (mFld "next_minus" ["Tail"] (mVar 0))) (mTest (mOp oLt (mVar 1) (mFld "first_sign" ["Tail"] (mVar 0))))))
  (msRet (mC (.bl false) (.bl false)))
  msNil)
  (msRet (mOp oEq (mMethD "minus_by" 3 (tab_minus_by K) (mVar 0) (mcVal (mIx oIx (mVar 2) (mC (.int 0) (.int 0))) (mcVal (mVar 1) mcNil))) (mMethD "minus_by" 3 (tab_minus_by K) (mVar 0) (mcVal (mIx oIx (mVar 2) (mC (.int 1) (.int 1))) (mcVal (mVar 1) mcNil))))))
noncomputable def mf_fits_before (K : PySem.W.Frag) : List Slot → Option CO := mfOf 3 (M_fits_before K).m
abbrev s_Tail_key : Stmt := inClass (topS 36) 1
abbrev N_Tail_key : List Str := ["self"]
theorem sc_Tail_key : FnScope N_Tail_key ["self"] (defScope s_Tail_key) := ⟨rfl, rfl, rfl, by decide +kernel, rfl, by decide +kernel, by decide +kernel⟩
noncomputable def M_Tail_key (K : PySem.W.Frag) : MS K :=
  (msRet (mTup (mCons (mFld "first_sign" ["Tail"] (mVar 0)) (mCons (mFld "next_minus" ["Tail"] (mVar 0)) (mCons (mFld "block_minus" ["Tail"] (mVar 0)) (mCons (mFld "top" ["Tail"] (mVar 0)) mNil))))))
noncomputable def mf_Tail_key (K : PySem.W.Frag) : List Slot → Option CO := mfOf 1 (M_Tail_key K).m
noncomputable def tab_key (K : PySem.W.Frag) : MTab := [("Tail", mf_Tail_key K)]
abbrev s_Tail_with_sign : Stmt := inClass (topS 36) 3
abbrev N_Tail_with_sign : List Str := ["self", "sign"]
theorem sc_Tail_with_sign : FnScope N_Tail_with_sign ["self", "sign"] (defScope s_Tail_with_sign) := ⟨rfl, rfl, rfl, by decide +kernel, rfl, by decide +kernel, by decide +kernel⟩
noncomputable def M_Tail_with_sign (K : PySem.W.Frag) : MS K :=
  (msRet (mMkV (mMkO "Tail" 5 (mf_Tail___init__ K) (mcVal (mVar 1) (mcVal (mMethD "minus_by" 3 (tab_minus_by K) (mVar 0) (mcVal (mC (.str "next") (.str "next")) (mcVal (mVar 1) mcNil))) (mcVal (mMethD "minus_by" 3 (tab_minus_by K) (mVar 0) (mcVal (mC (.str "block") (.str "block")) (mcVal (mVar 1) mcNil))) (mcVal (mBi oMax2 (mCons (mVar 1) (mCons (mFld "top" ["Tail"] (mVar 0)) mNil))) mcNil)))))))
noncomputable def mf_Tail_with_sign (K : PySem.W.Frag) : List Slot → Option CO := mfOf 2 (M_Tail_with_sign K).m
noncomputable def tab_with_sign (K : PySem.W.Frag) : MTab := [("Tail", mf_Tail_with_sign K)]
abbrev s_count_agreeing : Stmt := topS 38
abbrev N_count_agreeing : List Str := ["system", "rule", "length", "rules", "ends", "turn", "longer", "key", "many", "tail", "sign", "found"]
theorem sc_count_agreeing : FnScope N_count_agreeing ["system", "rule", "length"] (defScope s_count_agreeing) := ⟨rfl, rfl, rfl, by decide +kernel, rfl, by decide +kernel, by decide +kernel⟩
noncomputable def G_count_agreeing_0 (K : PySem.W.Frag) : MG K :=
  (mgName 10)
noncomputable def T_count_agreeing_1 (K : PySem.W.Frag) : MTs K :=
  mtYes
noncomputable def E_count_agreeing_2 (K : PySem.W.Frag) : ME K :=
  (mTup (mCons (mVar 10) (mCons (mC (.bl false) (.bl false)) (mCons (mC (.bl false) (.bl false)) (mCons (mVar 10) mNil)))))
noncomputable def E_count_agreeing_3 (K : PySem.W.Frag) : ME K :=
  (mC (.int 1) (.int 1))
noncomputable def G_count_agreeing_4 (K : PySem.W.Frag) : MG K :=
  (mgName 10)
noncomputable def B_count_agreeing_5 (K : PySem.W.Frag) : MS K :=
  (msIf (mTru (mCall 3 (mf_fits_before K) (mcVal (mVar 9) (mcVal (mVar 10) (mcVal (mVar 3) mcNil)))))
  (msSeq (msAsg (mMethD "key" 1 (tab_key K) (mMethD "with_sign" 2 (tab_with_sign K) (mVar 9) (mcVal (mVar 10) mcNil)) mcNil) (mgName 11))
  (msNPut 6 (mVar 11) (mOp oAdd (mGetNC 6 (mVar 11) (mC (.int 0) (.int 0))) (mVar 8))))
  msNil)
noncomputable def G_count_agreeing_6 (K : PySem.W.Frag) : MG K :=
  (mgTup 2 (mgCons (mgName 7) (mgCons (mgName 8) mgNil)))
noncomputable def B_count_agreeing_7 (K : PySem.W.Frag) : MS K :=
  (msSeq (msAsg (mMkV (mMkO "Tail" 5 (mf_Tail___init__ K) (mcVal (mIx oIx (mVar 7) (mC (.int 0) (.int 0))) (mcVal (mIx oIx (mVar 7) (mC (.int 1) (.int 1))) (mcVal (mIx oIx (mVar 7) (mC (.int 2) (.int 2))) (mcVal (mIx oIx (mVar 7) (mC (.int 3) (.int 3))) mcNil)))))) (mgName 9))
  (msFor (miList (mProp (ptab_row K) (mVar 0))) (G_count_agreeing_4 K)
  (B_count_agreeing_5 K)
  [10, 11]))
noncomputable def G_count_agreeing_8 (K : PySem.W.Frag) : MG K :=
  (mgName 5)
noncomputable def B_count_agreeing_9 (K : PySem.W.Frag) : MS K :=
  (msSeq (msAsgNN 6)
  (msSeq (msFor (miItemsN (mVar 4)) (G_count_agreeing_6 K)
  (B_count_agreeing_7 K)
  [7, 8, 9, 11])
  (msAsg (mLetF 6) (mgName 4))))
noncomputable def M_count_agreeing (K : PySem.W.Frag) : MS K :=
  (msSeq (msAsg (mTup (mCons (mProp (ptab_rule K) (mVar 0)) (mCons (mProp (ptab_rule K) (mMethD "with_rule" 2 (tab_with_rule K) (mVar 0) (mcVal (mVar 1) mcNil))) mNil))) (mgName 3))
  (msSeq (msIf (mOr (mNot (mTru (mCall 2 (mf_is_integer K) (mcVal (mVar 2) (mcVal (mC (.int 1) (.int 1)) mcNil))))) (mTest (mOp oGt (mVar 2) (mC (.int 5) (.int 5)))))
  (msRaise "InvalidLength")
  msNil)
  (msSeq (msAsg (mDcN (miList (mProp (ptab_row K) (mVar 0))) (G_count_agreeing_0 K) (T_count_agreeing_1 K) (E_count_agreeing_2 K) (E_count_agreeing_3 K) [10]) (mgName 4))
  (msSeq (msFor (miRng1 (mOp oSub (mVar 2) (mC (.int 1) (.int 1)))) (G_count_agreeing_8 K)
  (B_count_agreeing_9 K)
  [5, 6, 7, 8, 9, 11])
  (msRet (mBi oSum (mCons (mFr (mListVN (mVar 4))) mNil)))))))
noncomputable def mf_count_agreeing (K : PySem.W.Frag) : List Slot → Option CO := mfOf 12 (M_count_agreeing K).m
abbrev s_System_of : Stmt := inClass (topS 28) 2
abbrev N_System_of : List Str := ["cls", "values", "rule"]
theorem sc_System_of : FnScope N_System_of ["cls", "values", "rule"] (defScope s_System_of) := ⟨rfl, rfl, rfl, by decide +kernel, rfl, by decide +kernel, by decide +kernel⟩
noncomputable def M_System_of (K : PySem.W.Frag) : MS K :=
  (msSeq (msIf (mNot (mTru (mCall 1 (mf_are_values K) (mcVal (mVar 1) mcNil))))
  (msRaise "InvalidValues")
  msNil)
  (msRet (mMakeL 0 "System" 3 (MN_System K) (mVar 1) (mVar 2))))
noncomputable def mf_System_of (K : PySem.W.Frag) : List Slot → Option CO := mfOf 3 (M_System_of K).m
abbrev s__law_right : Stmt := topS 46
abbrev N__law_right : List Str := ["_law_well_here", "_law_values_here", "_law_length", "_law_rules", "_law_table", "_law_whole", "_law_turn", "_law_one", "_law_other", "_law_own", "_law_many", "_law_row", "_law_word", "_law_at"]
theorem sc__law_right : FnScope N__law_right ["_law_well_here", "_law_values_here", "_law_length"] (defScope s__law_right) := ⟨rfl, rfl, rfl, by decide +kernel, rfl, by decide +kernel, by decide +kernel⟩
noncomputable def G__law_right_0 (K : PySem.W.Frag) : MG K :=
  (mgName 8)
noncomputable def T__law_right_1 (K : PySem.W.Frag) : MTs K :=
  mtYes
noncomputable def E__law_right_2 (K : PySem.W.Frag) : ME K :=
  (mCall 3 (mf_count_agreeing K) (mcVal (mCMeth "System" 3 (mf_System_of K) (mcVal (mVar 1) (mcVal (mVar 7) mcNil))) (mcVal (mVar 8) (mcVal (mVar 2) mcNil))))
noncomputable def G__law_right_3 (K : PySem.W.Frag) : MG K :=
  (mgName 7)
noncomputable def T__law_right_4 (K : PySem.W.Frag) : MTs K :=
  mtYes
noncomputable def E__law_right_5 (K : PySem.W.Frag) : ME K :=
  (mFr (mLc (miList (mVar 3)) (G__law_right_0 K) (T__law_right_1 K) (E__law_right_2 K) [8]))
noncomputable def G__law_right_6 (K : PySem.W.Frag) : MG K :=
  (mgName 11)
noncomputable def T__law_right_7 (K : PySem.W.Frag) : MTs K :=
  mtYes
noncomputable def E__law_right_8 (K : PySem.W.Frag) : ME K :=
  (mIx oIx (mVar 11) (mVar 13))
noncomputable def G__law_right_9 (K : PySem.W.Frag) : MG K :=
  (mgName 13)
noncomputable def T__law_right_10 (K : PySem.W.Frag) : MTs K :=
  mtYes
noncomputable def E__law_right_11 (K : PySem.W.Frag) : ME K :=
  (mFr (mLc (miList (mVar 4)) (G__law_right_6 K) (T__law_right_7 K) (E__law_right_8 K) [11]))
noncomputable def G__law_right_12 (K : PySem.W.Frag) : MG K :=
  (mgName 6)
noncomputable def B__law_right_13 (K : PySem.W.Frag) : MS K :=
  (msAsg (mOp oMul (mVar 5) (mBi oLen (mCons (mVar 1) mNil))) (mgName 5))
noncomputable def G__law_right_14 (K : PySem.W.Frag) : MG K :=
  (mgName 13)
noncomputable def T__law_right_15 (K : PySem.W.Frag) : MTs K :=
  mtYes
noncomputable def E__law_right_16 (K : PySem.W.Frag) : ME K :=
  (mIx oIx (mIx oIx (mVar 4) (mVar 13)) (mVar 13))
noncomputable def G__law_right_17 (K : PySem.W.Frag) : MG K :=
  (mgName 11)
noncomputable def B__law_right_18 (K : PySem.W.Frag) : MS K :=
  (msSeq (msAsg (mCall 1 (mf__law_runs K) (mcVal (mVar 11) mcNil)) (mgName 12))
  (msIf (mAnd (mTru (mCall 2 (mf_is_word K) (mcVal (mVar 9) (mcVal (mVar 12) mcNil)))) (mTru (mCall 3 (mf_agree K) (mcVal (mVar 9) (mcVal (mVar 8) (mcVal (mVar 12) mcNil))))))
  (msAsg (mOp oAdd (mVar 10) (mC (.int 1) (.int 1))) (mgName 10))
  msNil))
noncomputable def M__law_right (K : PySem.W.Frag) : MS K :=
  (msSeq (msAsg (mFr (mLst (mCons (mC (.str "plain") (.str "plain")) (mCons (mC (.str "single") (.str "single")) (mCons (mC (.str "next") (.str "next")) (mCons (mC (.str "block") (.str "block")) (mCons (mC (.str "later") (.str "later")) mNil))))))) (mgName 3))
  (msSeq (msAsg (mFr (mLc (miList (mVar 3)) (G__law_right_3 K) (T__law_right_4 K) (E__law_right_5 K) [7])) (mgName 4))
  (msSeq (msIf (mTest (mOp oNe (mVar 4) (mFr (mLc (miRng1 (mC (.int 5) (.int 5))) (G__law_right_9 K) (T__law_right_10 K) (E__law_right_11 K) [13]))))
  (msRet (mC (.bl false) (.bl false)))
  msNil)
  (msSeq (msAsg (mC (.int 1) (.int 1)) (mgName 5))
  (msSeq (msFor (miRng1 (mVar 2)) (G__law_right_12 K)
  (B__law_right_13 K)
  [6])
  (msSeq (msIf (mTest (mOp oNe (mFr (mLc (miTup (mTup (mCons (mC (.int 0) (.int 0)) (mCons (mC (.int 2) (.int 2)) (mCons (mC (.int 3) (.int 3)) (mCons (mC (.int 4) (.int 4)) mNil)))))) (G__law_right_14 K) (T__law_right_15 K) (E__law_right_16 K) [13])) (mFr (mRepeat (mFr (mLst (mCons (mVar 5) mNil))) (mC (.int 4) (.int 4))))))
  (msRet (mC (.bl false) (.bl false)))
  msNil)
  (msSeq (msIf (mOr (mTest (mOp oNe (mIx oIx (mIx oIx (mVar 4) (mC (.int 1) (.int 1))) (mC (.int 1) (.int 1))) (mIx oIx (mIx oIx (mVar 4) (mC (.int 1) (.int 1))) (mC (.int 2) (.int 2))))) (mOr (mTest (mOp oGt (mIx oIx (mIx oIx (mVar 4) (mC (.int 0) (.int 0))) (mC (.int 4) (.int 4))) (mIx oIx (mIx oIx (mVar 4) (mC (.int 0) (.int 0))) (mC (.int 3) (.int 3))))) (mTest (mOp oGt (mIx oIx (mIx oIx (mVar 4) (mC (.int 0) (.int 0))) (mC (.int 3) (.int 3))) (mIx oIx (mIx oIx (mVar 4) (mC (.int 0) (.int 0))) (mC (.int 2) (.int 2)))))))
  (msRet (mC (.bl false) (.bl false)))
  msNil)
  (msSeq (msParVV 7 8 (mIx oIx (mVar 3) (mCall 2 (mf__law_dip K) (mcCel 0 (mcVal (mC (.int 5) (.int 5)) mcNil)))) (mIx oIx (mVar 3) (mCall 2 (mf__law_dip K) (mcCel 0 (mcVal (mC (.int 5) (.int 5)) mcNil)))))
  (msSeq (msParVV 9 10 (mCMeth "System" 3 (mf_System_of K) (mcVal (mVar 1) (mcVal (mVar 7) mcNil))) (mC (.int 0) (.int 0)))
  (msSeq (msFor (miList (mCall 2 (mf__law_all_rows K) (mcVal (mVar 1) (mcVal (mVar 2) mcNil)))) (G__law_right_17 K)
  (B__law_right_18 K)
  [11, 12])
  (msRet (mOp oEq (mVar 10) (mIx oIx (mIx oIx (mVar 4) (mIdxL (mVar 3) (mVar 7))) (mIdxL (mVar 3) (mVar 8)))))))))))))))
noncomputable def mf__law_right (K : PySem.W.Frag) : List Slot → Option CO := mfOf 14 (M__law_right K).m
abbrev s__law_rule : Stmt := topS 43
abbrev N__law_rule : List Str := ["_law_well_here"]
theorem sc__law_rule : FnScope N__law_rule ["_law_well_here"] (defScope s__law_rule) := ⟨rfl, rfl, rfl, by decide +kernel, rfl, by decide +kernel, by decide +kernel⟩
noncomputable def M__law_rule (K : PySem.W.Frag) : MS K :=
  (msRet (mIx oIx (mFr (mLst (mCons (mC (.str "plain") (.str "plain")) (mCons (mC (.str "single") (.str "single")) (mCons (mC (.str "next") (.str "next")) (mCons (mC (.str "block") (.str "block")) (mCons (mC (.str "later") (.str "later")) mNil))))))) (mCall 2 (mf__law_dip K) (mcCel 0 (mcVal (mC (.int 5) (.int 5)) mcNil)))))
noncomputable def mf__law_rule (K : PySem.W.Frag) : List Slot → Option CO := mfOf0 1 (M__law_rule K).m
abbrev s__law_values : Stmt := topS 42
abbrev N__law_values : List Str := ["_law_well_here", "_law_top", "_law_left", "_law_turn"]
theorem sc__law_values : FnScope N__law_values ["_law_well_here", "_law_top"] (defScope s__law_values) := ⟨rfl, rfl, rfl, by decide +kernel, rfl, by decide +kernel, by decide +kernel⟩
noncomputable def G__law_values_0 (K : PySem.W.Frag) : MG K :=
  (mgName 3)
noncomputable def T__law_values_1 (K : PySem.W.Frag) : MTs K :=
  mtYes
noncomputable def E__law_values_2 (K : PySem.W.Frag) : ME K :=
  (mMeth 2 oPopAt (mCons (mCall 2 (mf__law_dip K) (mcCel 0 (mcVal (mBi oLen (mCons (mLook 2) mNil)) mcNil))) mNil))
noncomputable def M__law_values (K : PySem.W.Frag) : MS K :=
  (msSeq (msAsgF (mListRng (mC (.int 1) (.int 1)) (mOp oAdd (mVar 1) (mC (.int 1) (.int 1)))) 2)
  (msRet (mFr (mBiF oSorted (mCons (mFr (mLc (miRng1 (mBi oMin2 (mCons (mVar 1) (mCons (mOp oAdd (mC (.int 1) (.int 1)) (mCall 2 (mf__law_dip K) (mcCel 0 (mcVal (mC (.int 6) (.int 6)) mcNil)))) mNil)))) (G__law_values_0 K) (T__law_values_1 K) (E__law_values_2 K) [3])) mNil)))))
noncomputable def mf__law_values (K : PySem.W.Frag) : List Slot → Option CO := mfOf0 4 (M__law_values K).m
abbrev s__law_well : Stmt := topS 40
abbrev N__law_well : List Str := ["_law_script", "_law_k", "_law_cell"]
theorem sc__law_well : FnScope N__law_well ["_law_script", "_law_k"] (defScope s__law_well) := ⟨rfl, rfl, rfl, by decide +kernel, rfl, by decide +kernel, by decide +kernel⟩
noncomputable def M__law_well (K : PySem.W.Frag) : MS K :=
  (msSeq (msAsg (mIf (mTest (mOp oLt (mVar 1) (mBi oLen (mCons (mVar 0) mNil)))) (mBi oAbs (mCons (mIx oIx (mVar 0) (mVar 1)) mNil)) (mC (.int 0) (.int 0))) (mgName 2))
  (msRetF (mLst (mCons (mBi oMax2 (mCons (mC (.int 0) (.int 0)) (mCons (mOp oSub (mVar 2) (mOp oPow (mC (.int 10) (.int 10)) (mC (.int 18) (.int 18)))) mNil))) (mCons (mOp oAdd (mOp oMul (mOp oMod (mVar 2) (mOp oAdd (mOp oPow (mC (.int 10) (.int 10)) (mC (.int 36) (.int 36))) (mC (.int 67) (.int 67)))) (mC (.int 64) (.int 64))) (mVar 1)) (mCons (mC (.int 0) (.int 0)) mNil))))))
noncomputable def mf__law_well (K : PySem.W.Frag) : List Slot → Option CO := mfOf0 3 (M__law_well K).m
abbrev s_law : Stmt := topS 47
abbrev N_law : List Str := ["_law_script", "_law_k", "_law_well_here", "_law_values_here", "_law_length", "_law_less", "_law_mode"]
theorem sc_law : FnScope N_law ["_law_script"] (defScope s_law) := ⟨rfl, rfl, rfl, by decide +kernel, rfl, by decide +kernel, by decide +kernel⟩
noncomputable def G_law_0 (K : PySem.W.Frag) : MG K :=
  (mgName 1)
noncomputable def B_law_1 (K : PySem.W.Frag) : MS K :=
  (msSeq (msAsgF (mCallF 2 (mf__law_well K) (mcVal (mVar 0) (mcVal (mVar 1) mcNil))) 2)
  (msSeq (msParVV 3 4 (mFr (mSlL (mCall 2 (mf__law_values K) (mcCel 2 (mcVal (mC (.int 60) (.int 60)) mcNil))) moNone (moSome (mC (.int 4) (.int 4))))) (mOp oAdd (mC (.int 1) (.int 1)) (mCall 2 (mf__law_dip K) (mcCel 2 (mcVal (mC (.int 4) (.int 4)) mcNil)))))
  (msSeq (msIf (mNot (mTru (mCall 3 (mf__law_right K) (mcCel 2 (mcVal (mVar 3) (mcVal (mVar 4) mcNil))))))
  (msRet (mC (.bl false) (.bl false)))
  msNil)
  (msIf (mTest (mOp oGt (mBi oLen (mCons (mVar 3) mNil)) (mC (.int 1) (.int 1))))
  (msSeq (msParVV 5 6 (mCMeth "System" 3 (mf_System_of K) (mcVal (mFr (mSlL (mVar 3) moNone (moSome (mUn oNeg (mC (.int 1) (.int 1)))))) (mcVal (mCall 1 (mf__law_rule K) (mcCel 2 mcNil)) mcNil))) (mCall 1 (mf__law_rule K) (mcCel 2 mcNil)))
  (msIf (mTest (mOp oGe (mCall 3 (mf_count_agreeing K) (mcVal (mVar 5) (mcVal (mVar 6) (mcVal (mVar 4) mcNil)))) (mCall 3 (mf_count_agreeing K) (mcVal (mCMeth "System" 3 (mf_System_of K) (mcVal (mVar 3) (mcVal (mProp (ptab_rule K) (mVar 5)) mcNil))) (mcVal (mVar 6) (mcVal (mVar 4) mcNil))))))
  (msRet (mC (.bl false) (.bl false)))
  msNil))
  msNil))))
noncomputable def M_law (K : PySem.W.Frag) : MS K :=
  (msSeq (msFor (miRng1 (mBi oMax2 (mCons (mC (.int 1) (.int 1)) (mCons (mBi oMin2 (mCons (mC (.int 3) (.int 3)) (mCons (mBi oLen (mCons (mVar 0) mNil)) mNil))) mNil)))) (G_law_0 K)
  (B_law_1 K)
  [1, 2, 3, 4, 5, 6])
  (msRet (mC (.bl true) (.bl true))))
noncomputable def mf_law (K : PySem.W.Frag) : List Slot → Option CO := mfOf 7 (M_law K).m
structure Top (P : Program) (K : PySem.W.Frag) (mg : Str → Option Value) : Prop where
  b_abs : mg "abs" = none
  b_all : mg "all" = none
  b_bool : mg "bool" = none
  b_enumerate : mg "enumerate" = none
  b_int : mg "int" = none
  b_isinstance : mg "isinstance" = none
  b_len : mg "len" = none
  b_list : mg "list" = none
  b_max : mg "max" = none
  b_min : mg "min" = none
  b_range : mg "range" = none
  b_sorted : mg "sorted" = none
  b_str : mg "str" = none
  b_sum : mg "sum" = none
  b_super : mg "super" = none
  b_tuple : mg "tuple" = none
  b_zip : mg "zip" = none
  c_BLOCK : ∃ t, mg "BLOCK" = some (.str "block" t)
  c_LATER : ∃ t, mg "LATER" = some (.str "later" t)
  c_MOST_LENGTH : ∃ t, mg "MOST_LENGTH" = some (.int 5 t)
  c_MOST_RUNS : ∃ t, mg "MOST_RUNS" = some (.int 200 t)
  c_MOST_VALUE : ∃ t, mg "MOST_VALUE" = some (.int 60 t)
  c_NEXT : ∃ t, mg "NEXT" = some (.str "next" t)
  c_PLAIN : ∃ t, mg "PLAIN" = some (.str "plain" t)
  c_SINGLE : ∃ t, mg "SINGLE" = some (.str "single" t)
  cm_Rule_named : ClX.CMet K (He.ga K "Rule") (.type "type") "named" (He.ma K (He.ga K "Rule") "named") (cmg K (He.ma K (He.ga K "Rule") "named"))
  cm_System_of : ClX.CMet K (He.ga K "System") (.type "type") "of" (He.ma K (He.ga K "System") "of") (cmg K (He.ma K (He.ga K "System") "of"))
  e_InvalidLength_InvalidWord : PySem.W.exmOne K (.ref (He.ga K "InvalidLength")) (.ref (He.ga K "InvalidWord")) = some false
  e_InvalidValues_InvalidWord : PySem.W.exmOne K (.ref (He.ga K "InvalidValues")) (.ref (He.ga K "InvalidWord")) = some false
  e_InvalidWord_InvalidWord : PySem.W.exmOne K (.ref (He.ga K "InvalidWord")) (.ref (He.ga K "InvalidWord")) = some true
  f_Block_signs : ∃ fd, Fun K "signs" "Block.signs" s_Block_signs (He.ma K (He.ga K "Block") "signs") fd
  f_Later_signs : ∃ fd, FunS K "signs" "Later.signs" s_Later_signs (He.ma K (He.ga K "Later") "signs") (ccOf K (He.ma K (He.ga K "Later") "signs")) (cdOf K (He.ma K (He.ga K "Later") "signs")) fd ∧ SupF K P mg (He.ma K (He.ga K "Later") "signs") (cdOf K (He.ma K (He.ga K "Later") "signs")) (ccOf K (He.ma K (He.ga K "Later") "signs")) fd "self" "Later" "signs" (He.ma K (He.ga K "Block") "signs")
  f_Next_signs : ∃ fd, Fun K "signs" "Next.signs" s_Next_signs (He.ma K (He.ga K "Next") "signs") fd
  f_Plain_signs : ∃ fd, Fun K "signs" "Plain.signs" s_Plain_signs (He.ma K (He.ga K "Plain") "signs") fd
  f_Rule_named : ∃ fd, Fun K "named" "Rule.named" s_Rule_named (cmg K (He.ma K (He.ga K "Rule") "named")) fd
  f_Single_signs : ∃ fd, FunS K "signs" "Single.signs" s_Single_signs (He.ma K (He.ga K "Single") "signs") (ccOf K (He.ma K (He.ga K "Single") "signs")) (cdOf K (He.ma K (He.ga K "Single") "signs")) fd ∧ SupF K P mg (He.ma K (He.ga K "Single") "signs") (cdOf K (He.ma K (He.ga K "Single") "signs")) (ccOf K (He.ma K (He.ga K "Single") "signs")) fd "self" "Single" "signs" (He.ma K (He.ga K "Next") "signs")
  f_System___init__ : ∃ fd, Fun K "__init__" "System.__init__" s_System___init__ (He.ma K (He.ga K "System") "__init__") fd
  f_System_of : ∃ fd, Fun K "of" "System.of" s_System_of (cmg K (He.ma K (He.ga K "System") "of")) fd
  f_System_row : ∃ fd, Fun K "row" "System.row" s_System_row (pmg K (He.ma K (He.ga K "System") "row")) fd
  f_System_rule : ∃ fd, Fun K "rule" "System.rule" s_System_rule (pmg K (He.ma K (He.ga K "System") "rule")) fd
  f_System_with_rule : ∃ fd, Fun K "with_rule" "System.with_rule" s_System_with_rule (He.ma K (He.ga K "System") "with_rule") fd
  f_Tail___init__ : ∃ fd, Fun K "__init__" "Tail.__init__" s_Tail___init__ (He.ma K (He.ga K "Tail") "__init__") fd
  f_Tail_key : ∃ fd, Fun K "key" "Tail.key" s_Tail_key (He.ma K (He.ga K "Tail") "key") fd
  f_Tail_minus_by : ∃ fd, Fun K "minus_by" "Tail.minus_by" s_Tail_minus_by (He.ma K (He.ga K "Tail") "minus_by") fd
  f_Tail_with_sign : ∃ fd, Fun K "with_sign" "Tail.with_sign" s_Tail_with_sign (He.ma K (He.ga K "Tail") "with_sign") fd
  f__law_all_rows : ∃ fd, Fun K "_law_all_rows" "_law_all_rows" s__law_all_rows (He.ga K "_law_all_rows") fd
  f__law_dip : ∃ fd, Fun K "_law_dip" "_law_dip" s__law_dip (He.ga K "_law_dip") fd
  f__law_right : ∃ fd, Fun K "_law_right" "_law_right" s__law_right (He.ga K "_law_right") fd
  f__law_rule : ∃ fd, Fun K "_law_rule" "_law_rule" s__law_rule (He.ga K "_law_rule") fd
  f__law_runs : ∃ fd, Fun K "_law_runs" "_law_runs" s__law_runs (He.ga K "_law_runs") fd
  f__law_values : ∃ fd, Fun K "_law_values" "_law_values" s__law_values (He.ga K "_law_values") fd
  f__law_well : ∃ fd, Fun K "_law_well" "_law_well" s__law_well (He.ga K "_law_well") fd
  f_agree : ∃ fd, Fun K "agree" "agree" s_agree (He.ga K "agree") fd
  f_are_runs : ∃ fd, Fun K "are_runs" "are_runs" s_are_runs (He.ga K "are_runs") fd
  f_are_values : ∃ fd, Fun K "are_values" "are_values" s_are_values (He.ga K "are_values") fd
  f_count_agreeing : ∃ fd, Fun K "count_agreeing" "count_agreeing" s_count_agreeing (He.ga K "count_agreeing") fd
  f_fits_before : ∃ fd, Fun K "fits_before" "fits_before" s_fits_before (He.ga K "fits_before") fd
  f_is_integer : ∃ fd, Fun K "is_integer" "is_integer" s_is_integer (He.ga K "is_integer") fd
  f_is_rule : ∃ fd, Fun K "is_rule" "is_rule" s_is_rule (He.ga K "is_rule") fd
  f_is_run : ∃ fd, Fun K "is_run" "is_run" s_is_run (He.ga K "is_run") fd
  f_is_word : ∃ fd, Fun K "is_word" "is_word" s_is_word (He.ga K "is_word") fd
  f_law : ∃ fd, Fun K "law" "law" s_law (He.ga K "law") fd
  f_need_runs : ∃ fd, Fun K "need_runs" "need_runs" s_need_runs (He.ga K "need_runs") fd
  f_rule_of : ∃ fd, Fun K "rule_of" "rule_of" s_rule_of (He.ga K "rule_of") fd
  f_signs_of : ∃ fd, Fun K "signs_of" "signs_of" s_signs_of (He.ga K "signs_of") fd
  f_value_of : ∃ fd, Fun K "value_of" "value_of" s_value_of (He.ga K "value_of") fd
  g_Block : mg "Block" = some (.ref (He.ga K "Block"))
  g_InvalidLength : mg "InvalidLength" = some (.ref (He.ga K "InvalidLength"))
  g_InvalidValues : mg "InvalidValues" = some (.ref (He.ga K "InvalidValues"))
  g_InvalidWord : mg "InvalidWord" = some (.ref (He.ga K "InvalidWord"))
  g_Later : mg "Later" = some (.ref (He.ga K "Later"))
  g_Next : mg "Next" = some (.ref (He.ga K "Next"))
  g_Plain : mg "Plain" = some (.ref (He.ga K "Plain"))
  g_Rule : mg "Rule" = some (.ref (He.ga K "Rule"))
  g_Single : mg "Single" = some (.ref (He.ga K "Single"))
  g_System : mg "System" = some (.ref (He.ga K "System"))
  g_Tail : mg "Tail" = some (.ref (He.ga K "Tail"))
  g__law_all_rows : mg "_law_all_rows" = some (.ref (He.ga K "_law_all_rows"))
  g__law_dip : mg "_law_dip" = some (.ref (He.ga K "_law_dip"))
  g__law_right : mg "_law_right" = some (.ref (He.ga K "_law_right"))
  g__law_rule : mg "_law_rule" = some (.ref (He.ga K "_law_rule"))
  g__law_runs : mg "_law_runs" = some (.ref (He.ga K "_law_runs"))
  g__law_values : mg "_law_values" = some (.ref (He.ga K "_law_values"))
  g__law_well : mg "_law_well" = some (.ref (He.ga K "_law_well"))
  g_agree : mg "agree" = some (.ref (He.ga K "agree"))
  g_are_runs : mg "are_runs" = some (.ref (He.ga K "are_runs"))
  g_are_values : mg "are_values" = some (.ref (He.ga K "are_values"))
  g_count_agreeing : mg "count_agreeing" = some (.ref (He.ga K "count_agreeing"))
  g_fits_before : mg "fits_before" = some (.ref (He.ga K "fits_before"))
  g_is_integer : mg "is_integer" = some (.ref (He.ga K "is_integer"))
  g_is_rule : mg "is_rule" = some (.ref (He.ga K "is_rule"))
  g_is_run : mg "is_run" = some (.ref (He.ga K "is_run"))
  g_is_word : mg "is_word" = some (.ref (He.ga K "is_word"))
  g_law : mg "law" = some (.ref (He.ga K "law"))
  g_need_runs : mg "need_runs" = some (.ref (He.ga K "need_runs"))
  g_rule_of : mg "rule_of" = some (.ref (He.ga K "rule_of"))
  g_signs_of : mg "signs_of" = some (.ref (He.ga K "signs_of"))
  g_value_of : mg "value_of" = some (.ref (He.ga K "value_of"))
  k_Block : Cls K (He.ga K "Block")
  k_Later : Cls K (He.ga K "Later")
  k_Next : Cls K (He.ga K "Next")
  k_Plain : Cls K (He.ga K "Plain")
  k_Single : Cls K (He.ga K "Single")
  k_System : Cls K (He.ga K "System")
  k_Tail : Cls K (He.ga K "Tail")
  kp_Rule : PySem.W.keepIn K (.ref (He.ga K "Rule")) = true
  kp_System : PySem.W.keepIn K (.ref (He.ga K "System")) = true
  mk_System : Mk K (He.ga K "System") (He.ma K (He.ga K "System") "__init__")
  mk_Tail : Mk K (He.ga K "Tail") (He.ma K (He.ga K "Tail") "__init__")
  na_System_held_rule : NoAttr K (He.ga K "System") "held_rule"
  na_System_held_values : NoAttr K (He.ga K "System") "held_values"
  na_Tail_block_minus : NoAttr K (He.ga K "Tail") "block_minus"
  na_Tail_first_sign : NoAttr K (He.ga K "Tail") "first_sign"
  na_Tail_next_minus : NoAttr K (He.ga K "Tail") "next_minus"
  na_Tail_top : NoAttr K (He.ga K "Tail") "top"
  o_Rule_ALL : ConC K "Rule" "ALL" (.tup ((["plain", "single", "next", "block", "later"] : List Str).map U.str))
  o_System_MOST : ConC K "System" "MOST" (.int 6)
  p_Block : Mk0 K (He.ga K "Block")
  p_Later : Mk0 K (He.ga K "Later")
  p_Next : Mk0 K (He.ga K "Next")
  p_Plain : Mk0 K (He.ga K "Plain")
  p_Single : Mk0 K (He.ga K "Single")
  pr_System_row : PropOf K (He.ga K "System") "row" (He.ma K (He.ga K "System") "row") (pmg K (He.ma K (He.ga K "System") "row"))
  pr_System_rule : PropOf K (He.ga K "System") "rule" (He.ma K (He.ga K "System") "rule") (pmg K (He.ma K (He.ga K "System") "rule"))
  r_Rule : ClX.CRead K (He.ga K "Rule") (.type "type")
  r_System : ClX.CRead K (He.ga K "System") (.type "type")
  t_Block_signs : Meth K (He.ga K "Block") "signs" (He.ma K (He.ga K "Block") "signs")
  t_Later_signs : Meth K (He.ga K "Later") "signs" (He.ma K (He.ga K "Later") "signs")
  t_Next_signs : Meth K (He.ga K "Next") "signs" (He.ma K (He.ga K "Next") "signs")
  t_Plain_signs : Meth K (He.ga K "Plain") "signs" (He.ma K (He.ga K "Plain") "signs")
  t_Single_signs : Meth K (He.ga K "Single") "signs" (He.ma K (He.ga K "Single") "signs")
  t_System_with_rule : Meth K (He.ga K "System") "with_rule" (He.ma K (He.ga K "System") "with_rule")
  t_Tail_key : Meth K (He.ga K "Tail") "key" (He.ma K (He.ga K "Tail") "key")
  t_Tail_minus_by : Meth K (He.ga K "Tail") "minus_by" (He.ma K (He.ga K "Tail") "minus_by")
  t_Tail_with_sign : Meth K (He.ga K "Tail") "with_sign" (He.ma K (He.ga K "Tail") "with_sign")
  x_InvalidLength : XF K mg "InvalidLength"
  x_InvalidValues : XF K mg "InvalidValues"
  x_InvalidWord : XF K mg "InvalidWord"
abbrev fn : List DefY := [⟨.g "_law_dip", "_law_dip", "_law_dip", s__law_dip, []⟩,
  ⟨.g "_law_all_rows", "_law_all_rows", "_law_all_rows", s__law_all_rows, []⟩,
  ⟨.g "_law_runs", "_law_runs", "_law_runs", s__law_runs, []⟩,
  ⟨.g "rule_of", "rule_of", "rule_of", s_rule_of, []⟩,
  ⟨.k "Rule" "named", "named", "Rule.named", s_Rule_named, []⟩,
  ⟨.p "System" "row", "row", "System.row", s_System_row, []⟩,
  ⟨.p "System" "rule", "rule", "System.rule", s_System_rule, []⟩,
  ⟨.g "is_integer", "is_integer", "is_integer", s_is_integer, []⟩,
  ⟨.g "is_run", "is_run", "is_run", s_is_run, []⟩,
  ⟨.g "are_runs", "are_runs", "are_runs", s_are_runs, []⟩,
  ⟨.g "need_runs", "need_runs", "need_runs", s_need_runs, []⟩,
  ⟨.m "Plain" "signs", "signs", "Plain.signs", s_Plain_signs, []⟩,
  ⟨.m "Next" "signs", "signs", "Next.signs", s_Next_signs, []⟩,
  ⟨.m "Single" "signs", "signs", "Single.signs", s_Single_signs, ["__class__"]⟩,
  ⟨.m "Block" "signs", "signs", "Block.signs", s_Block_signs, []⟩,
  ⟨.m "Later" "signs", "signs", "Later.signs", s_Later_signs, ["__class__"]⟩,
  ⟨.g "signs_of", "signs_of", "signs_of", s_signs_of, []⟩,
  ⟨.g "is_word", "is_word", "is_word", s_is_word, []⟩,
  ⟨.g "value_of", "value_of", "value_of", s_value_of, []⟩,
  ⟨.g "are_values", "are_values", "are_values", s_are_values, []⟩,
  ⟨.g "is_rule", "is_rule", "is_rule", s_is_rule, []⟩,
  ⟨.m "System" "__init__", "__init__", "System.__init__", s_System___init__, []⟩,
  ⟨.m "System" "with_rule", "with_rule", "System.with_rule", s_System_with_rule, []⟩,
  ⟨.g "agree", "agree", "agree", s_agree, []⟩,
  ⟨.m "Tail" "__init__", "__init__", "Tail.__init__", s_Tail___init__, []⟩,
  ⟨.m "Tail" "minus_by", "minus_by", "Tail.minus_by", s_Tail_minus_by, []⟩,
  ⟨.g "fits_before", "fits_before", "fits_before", s_fits_before, []⟩,
  ⟨.m "Tail" "key", "key", "Tail.key", s_Tail_key, []⟩,
  ⟨.m "Tail" "with_sign", "with_sign", "Tail.with_sign", s_Tail_with_sign, []⟩,
  ⟨.g "count_agreeing", "count_agreeing", "count_agreeing", s_count_agreeing, []⟩,
  ⟨.k "System" "of", "of", "System.of", s_System_of, []⟩,
  ⟨.g "_law_right", "_law_right", "_law_right", s__law_right, []⟩,
  ⟨.g "_law_rule", "_law_rule", "_law_rule", s__law_rule, []⟩,
  ⟨.g "_law_values", "_law_values", "_law_values", s__law_values, []⟩,
  ⟨.g "_law_well", "_law_well", "_law_well", s__law_well, []⟩,
  ⟨.g "law", "law", "law", s_law, []⟩]
def fa : List FaY := [fun K => (He.Fa.free "abs").ok K,
  fun K => (He.Fa.free "all").ok K,
  fun K => (He.Fa.free "bool").ok K,
  fun K => (He.Fa.free "enumerate").ok K,
  fun K => (He.Fa.free "int").ok K,
  fun K => (He.Fa.free "isinstance").ok K,
  fun K => (He.Fa.free "len").ok K,
  fun K => (He.Fa.free "list").ok K,
  fun K => (He.Fa.free "max").ok K,
  fun K => (He.Fa.free "min").ok K,
  fun K => (He.Fa.free "range").ok K,
  fun K => (He.Fa.free "sorted").ok K,
  fun K => (He.Fa.free "str").ok K,
  fun K => (He.Fa.free "sum").ok K,
  fun K => (He.Fa.free "super").ok K,
  fun K => (He.Fa.free "tuple").ok K,
  fun K => (He.Fa.free "zip").ok K,
  fun K => (He.Fa.str "BLOCK" "block").ok K,
  fun K => (He.Fa.str "LATER" "later").ok K,
  fun K => (He.Fa.int "MOST_LENGTH" 5).ok K,
  fun K => (He.Fa.int "MOST_RUNS" 200).ok K,
  fun K => (He.Fa.int "MOST_VALUE" 60).ok K,
  fun K => (He.Fa.str "NEXT" "next").ok K,
  fun K => (He.Fa.str "PLAIN" "plain").ok K,
  fun K => (He.Fa.str "SINGLE" "single").ok K,
  fun K => cmetB K "Rule" "named",
  fun K => cmetB K "System" "of",
  fun K => exmB K "InvalidLength" "InvalidWord" false,
  fun K => exmB K "InvalidValues" "InvalidWord" false,
  fun K => exmB K "InvalidWord" "InvalidWord" true,
  fun K => cellB K (ccOf K (He.ma K (He.ga K "Later") "signs")) (He.ga K "Later"),
  fun K => supB K PySem.Challenge.pw_signsheets_k27_whole_words_that_agree.main.file (He.ma K (He.ga K "Later") "signs") "Later" "signs" "Block",
  fun K => cellB K (ccOf K (He.ma K (He.ga K "Single") "signs")) (He.ga K "Single"),
  fun K => supB K PySem.Challenge.pw_signsheets_k27_whole_words_that_agree.main.file (He.ma K (He.ga K "Single") "signs") "Single" "signs" "Next",
  fun K => (He.Fa.glo "Block").ok K,
  fun K => (He.Fa.glo "InvalidLength").ok K,
  fun K => (He.Fa.glo "InvalidValues").ok K,
  fun K => (He.Fa.glo "InvalidWord").ok K,
  fun K => (He.Fa.glo "Later").ok K,
  fun K => (He.Fa.glo "Next").ok K,
  fun K => (He.Fa.glo "Plain").ok K,
  fun K => (He.Fa.glo "Rule").ok K,
  fun K => (He.Fa.glo "Single").ok K,
  fun K => (He.Fa.glo "System").ok K,
  fun K => (He.Fa.glo "Tail").ok K,
  fun K => (He.Fa.glo "_law_all_rows").ok K,
  fun K => (He.Fa.glo "_law_dip").ok K,
  fun K => (He.Fa.glo "_law_right").ok K,
  fun K => (He.Fa.glo "_law_rule").ok K,
  fun K => (He.Fa.glo "_law_runs").ok K,
  fun K => (He.Fa.glo "_law_values").ok K,
  fun K => (He.Fa.glo "_law_well").ok K,
  fun K => (He.Fa.glo "agree").ok K,
  fun K => (He.Fa.glo "are_runs").ok K,
  fun K => (He.Fa.glo "are_values").ok K,
  fun K => (He.Fa.glo "count_agreeing").ok K,
  fun K => (He.Fa.glo "fits_before").ok K,
  fun K => (He.Fa.glo "is_integer").ok K,
  fun K => (He.Fa.glo "is_rule").ok K,
  fun K => (He.Fa.glo "is_run").ok K,
  fun K => (He.Fa.glo "is_word").ok K,
  fun K => (He.Fa.glo "law").ok K,
  fun K => (He.Fa.glo "need_runs").ok K,
  fun K => (He.Fa.glo "rule_of").ok K,
  fun K => (He.Fa.glo "signs_of").ok K,
  fun K => (He.Fa.glo "value_of").ok K,
  fun K => (He.Fa.cls "Block").ok K,
  fun K => (He.Fa.cls "Later").ok K,
  fun K => (He.Fa.cls "Next").ok K,
  fun K => (He.Fa.cls "Plain").ok K,
  fun K => (He.Fa.cls "Single").ok K,
  fun K => (He.Fa.cls "System").ok K,
  fun K => (He.Fa.cls "Tail").ok K,
  fun K => (He.Fa.keep "Rule").ok K,
  fun K => (He.Fa.keep "System").ok K,
  fun K => mkB K "System" "System",
  fun K => mkB K "Tail" "Tail",
  fun K => noatB K "System" "held_rule",
  fun K => noatB K "System" "held_values",
  fun K => noatB K "Tail" "block_minus",
  fun K => noatB K "Tail" "first_sign",
  fun K => noatB K "Tail" "next_minus",
  fun K => noatB K "Tail" "top",
  fun K => creadB K "Rule",
  fun K => conB K "Rule" "ALL" ["plain", "single", "next", "block", "later"],
  fun K => creadB K "System",
  fun K => conIB K "System" "MOST" 6,
  fun K => mk0B K "Block",
  fun K => mk0B K "Later",
  fun K => mk0B K "Next",
  fun K => mk0B K "Plain",
  fun K => mk0B K "Single",
  fun K => propB K "System" "row" "System",
  fun K => propB K "System" "rule" "System",
  fun K => methB K "Block" "signs" "Block",
  fun K => methB K "Later" "signs" "Later",
  fun K => methB K "Next" "signs" "Next",
  fun K => methB K "Plain" "signs" "Plain",
  fun K => methB K "Single" "signs" "Single",
  fun K => methB K "System" "with_rule" "System",
  fun K => methB K "Tail" "key" "Tail",
  fun K => methB K "Tail" "minus_by" "Tail",
  fun K => methB K "Tail" "with_sign" "Tail",
  fun K => (He.Fa.exc "InvalidLength").ok K,
  fun K => (He.Fa.exc "InvalidValues").ok K,
  fun K => (He.Fa.exc "InvalidWord").ok K]
set_option maxHeartbeats 4000000
abbrev Rw : PySem.W.OpenRow := PySem.W.OpenLaw.row PySem.Challenge.rw_signsheets_k27_whole_words_that_agree
abbrev hk : PySem.W.Hook := hookY 6 fa fn
def ob (s : PySem.W.SharedT) : AlY := obsYG 6 fa fn (HandSHeadRun.getT s)
theorem ob_eq (s : PySem.W.SharedT) : ob s = hk.obs s.abs := obsYG_eq (HandSHeadRun.getT_eq s)
theorem run (w : World) : HandSHeadRun.RunEq Rw (PySem.W.view Rw.prog [47]) hk ob 9000 (("_wall" : Str) :: ("SignError" : Str) :: ("InvalidValues" : Str) :: ("InvalidWord" : Str) :: ("InvalidLength" : Str) :: ("MOST_RUNS" : Str) :: ("PLAIN" : Str) :: ("SINGLE" : Str) :: ("NEXT" : Str) :: ("BLOCK" : Str) :: ("LATER" : Str) :: ("is_integer" : Str) :: ("is_run" : Str) :: ("are_runs" : Str) :: ("need_runs" : Str) :: ("Rule" : Str) :: ("Plain" : Str) :: ("Next" : Str) :: ("Single" : Str) :: ("Block" : Str) :: ("Later" : Str) :: ("rule_of" : Str) :: ("MOST_VALUE" : Str) :: ("are_values" : Str) :: ("is_rule" : Str) :: ("System" : Str) :: ("signs_of" : Str) :: ("is_word" : Str) :: ("value_of" : Str) :: ("MOST_LENGTH" : Str) :: ("agree" : Str) :: ("Tail" : Str) :: ("fits_before" : Str) :: ("count_agreeing" : Str) :: ("_law_well" : Str) :: ("_law_dip" : Str) :: ("_law_values" : Str) :: ("_law_rule" : Str) :: ("_law_all_rows" : Str) :: ("_law_runs" : Str) :: ("_law_right" : Str) :: []) w := by
  intro os
  kernel_rfl
set_option maxHeartbeats 400000
section
variable {P : Program} {w : World} {K : PySem.W.Frag} {mg : Str → Option Value} {base : Heap}
theorem c__law_dip (T : Top P K mg) : Cal P w K mg base CX0 1 "_law_dip" 2 (mf__law_dip K) := by
  obtain ⟨fd, F⟩ := T.f__law_dip
  refine ⟨T.g__law_dip, F.kp, fd, ["_law_well_here", "_law_size"], fn_ok0 F sc__law_dip (M__law_dip K) rfl (by decide) (fun cdv A outer s H E hr => ?_), F.binds fun _ _ _ _ _ _ us hl => match us, hl with | [_, _], _ => rfl⟩
  have nd := sc__law_dip.nd
  refine ⟨_, (show PSs _ _ ((M__law_dip K).t _) from by unfold M__law_dip ; exact (scons (sif (tcm rGt (dix dLk dI) dI)
  (scons (sasgN nd (dop rMod (dix dLk dI) dV))
  (scons (ssetI (dop rDiv (dix dLk dI) dV) dI)
  (sone (sret dV))))
  snil)
  (scons (ssetI (dop rAdd (dix dLk dI) dI) dI)
  (scons (sasgN nd (dop rMod (dop rPowX (dop rAdd (dix dLk dI) (dop rMul dI (dix dLk dI))) dI) (dop rAdd (dop rPow dI dI) dI)))
  (scons (sasgN nd (dop rMod (dop rPowX (dop rAdd dV (dop rMul dI (dix dLk dI))) dI) (dop rAdd (dop rPow dI dI) dI)))
  (sone (sret (dop rMod (dop rDiv dV dI) dV)))))))), rfl⟩
theorem c__law_all_rows (T : Top P K mg) : Cal P w K mg base CX0 1 "_law_all_rows" 2 (mf__law_all_rows K) := by
  obtain ⟨fd, F⟩ := T.f__law_all_rows
  refine ⟨T.g__law_all_rows, F.kp, fd, ["_law_values_here", "_law_size"], fn_ok0 F sc__law_all_rows (M__law_all_rows K) rfl (by decide) (fun cdv A outer s H E hr => ?_), F.binds fun _ _ _ _ _ _ us hl => match us, hl with | [_, _], _ => rfl⟩
  have nd := sc__law_all_rows.nd
  refine ⟨_, (show PSs _ _ ((M__law_all_rows K).t _) from by unfold M__law_all_rows B__law_all_rows_6 G__law_all_rows_5 B__law_all_rows_4 G__law_all_rows_3 E__law_all_rows_2 T__law_all_rows_1 G__law_all_rows_0; exact (scons (sasgN nd (dfr (dlst (dcons (dfr (dlst dnil)) dnil))))
  (scons (sfor PassesOwn.never (irng1 T.b_range dV) (gN nd)
  (scons (sasgF nd (dlst dnil))
  (scons (sfor PassesOwn.never (ilist dV) (gN nd)
  (sone (sdrop (dmeth PySem.F.slot_list_extend PySem.F.type_list_extend rExtendX (dcons (dfr (dlc (own := [("_law_value", 6)]) nd (show blkC N__law_all_rows (defScope s__law_all_rows) _ _ = true from by decide +kernel) rfl (ilist dV) (fun _ _ _ _ _ => (gN nd)) (fun _ _ _ _ _ => tsnil) (fun _ _ _ _ _ => (dfr (dcat dV (dfr (dlst (dcons dV dnil)))))))) dnil)))))
  (sone (sasgN nd dLt)))))
  (sone (sret dV))))), rfl⟩
theorem c__law_runs (T : Top P K mg) : Cal P w K mg base CX0 1 "_law_runs" 1 (mf__law_runs K) := by
  obtain ⟨fd, F⟩ := T.f__law_runs
  refine ⟨T.g__law_runs, F.kp, fd, ["_law_row"], fn_ok0 F sc__law_runs (M__law_runs K) rfl (by decide) (fun cdv A outer s H E hr => ?_), F.binds fun _ _ _ _ _ _ us hl => match us, hl with | [_], _ => rfl⟩
  have nd := sc__law_runs.nd
  refine ⟨_, (show PSs _ _ ((M__law_runs K).t _) from by unfold M__law_runs B__law_runs_1 G__law_runs_0; exact (scons (sasgF nd (dlst dnil))
  (scons (sfor PassesOwn.never (ilist dV) (gN nd)
  (sone (sif (tpw (wand (tcm (rNeX hr) dLk (dfr (dlst dnil))) (wand1 (tcm (rEqX hr) (dix (dix dLk (dneg dI)) dI) dV))))
  (sone (ssetI (dtup (dcons dV (dcons (dop rAdd (dix (dix dLk (dneg dI)) dI) dI) dnil))) (dneg dI)))
  (sone (sdrop (dmeth PySem.F.slot_list_append PySem.F.type_list_append rAppendX (dcons (dtup (dcons dV (dcons dI dnil))) dnil)))))))
  (sone (sret dLt))))), rfl⟩
theorem c_rule_of (T : Top P K mg) : Cal P w K mg base CX0 1 "rule_of" 1 (mf_rule_of K) := by
  obtain ⟨fd, F⟩ := T.f_rule_of
  refine ⟨T.g_rule_of, F.kp, fd, ["name"], fn_ok0 F sc_rule_of (M_rule_of K) rfl (by decide) (fun cdv A outer s H E hr => ?_), F.binds fun _ _ _ _ _ _ us hl => match us, hl with | [_], _ => rfl⟩
  have nd := sc_rule_of.nd
  refine ⟨_, (show PSs _ _ ((M_rule_of K).t _) from by unfold M_rule_of ; exact (scons (sif (tcm (rEqX hr) dV (dGS T.c_PLAIN))
  (sone (sret (dnew T.p_Plain T.g_Plain)))
  snil)
  (scons (sif (tcm (rEqX hr) dV (dGS T.c_SINGLE))
  (sone (sret (dnew T.p_Single T.g_Single)))
  snil)
  (scons (sif (tcm (rEqX hr) dV (dGS T.c_NEXT))
  (sone (sret (dnew T.p_Next T.g_Next)))
  snil)
  (sone (sret (dif (tcm (rEqX hr) dV (dGS T.c_BLOCK)) (dnew T.p_Block T.g_Block) (dnew T.p_Later T.g_Later)))))))), rfl⟩
theorem c_Rule_named (T : Top P K mg) : FnR P w K mg base (L2.CX P w) 2 (cmg K (He.ma K (He.ga K "Rule") "named")) (spM K 2 (mf_Rule_named K)) := by
  obtain ⟨fd, F⟩ := T.f_Rule_named
  refine fnR_of (ps := ["cls", "name"]) (fn_okX F sc_Rule_named (M_Rule_named K) rfl (by decide) (fun cdv A outer s H E hr => ?_)) (F.binds fun _ _ _ _ _ _ us hl => match us, hl with | [_, _], _ => rfl)
  have nd := sc_Rule_named.nd
  have tk := takes_of (X := cxOf (L2.CX P w) P w K mg base N_Rule_named "Rule.named" (defScope s_Rule_named) (cmg K (He.ma K (He.ga K "Rule") "named")) cdv A outer s H E) rfl rfl rfl rfl
  refine ⟨_, (show PSs _ _ ((M_Rule_named K).t _) from by unfold M_Rule_named ; exact (scons (sif (tcm rNotInX dV (dcon T.o_Rule_ALL dV))
  (sone (srs T.x_InvalidValues tk))
  snil)
  (sone (sret (dcall0 (c_rule_of T) (hr.mono (by decide)) (dcval dV dcnil)))))), rfl⟩
theorem cc_Rule_named (T : Top P K mg) : CalC P w K mg base 2 "Rule" "named" 2 (mf_Rule_named K) := ⟨T.g_Rule, T.kp_Rule, _, _, _, T.r_Rule, T.cm_Rule_named, c_Rule_named T⟩
theorem c_System_row (T : Top P K mg) : ∃ fd ps, FnOk P w K mg base CX0 1 (pmg K (He.ma K (He.ga K "System") "row")) fd ps (spM K 1 (mf_System_row K)) ∧ Binds K fd ps [] := by
  obtain ⟨fd, F⟩ := T.f_System_row
  refine ⟨fd, ["self"], fn_ok0 F sc_System_row (M_System_row K) rfl (by decide) (fun cdv A outer s H E hr => ?_), F.binds fun _ _ _ _ _ _ us hl => match us, hl with | [_], _ => rfl⟩
  have nd := sc_System_row.nd
  refine ⟨_, (show PSs _ _ ((M_System_row K).t _) from by unfold M_System_row ; exact (sone (sret (dfr (dbfT rListL T.b_list (dcons (dfld dV (na_cons ⟨T.k_System, T.na_System_held_values⟩ na_nil)) dnil)))))), rfl⟩
theorem pt_row (T : Top P K mg) : CalPT P w K mg base 1 "row" (ptab_row K) := (calP_cons (CalP.mono (calP_of T.k_System T.pr_System_row (c_System_row T)) (by decide)) calP_nil)
theorem c_System_rule (T : Top P K mg) : ∃ fd ps, FnOk P w K mg base CX0 1 (pmg K (He.ma K (He.ga K "System") "rule")) fd ps (spM K 1 (mf_System_rule K)) ∧ Binds K fd ps [] := by
  obtain ⟨fd, F⟩ := T.f_System_rule
  refine ⟨fd, ["self"], fn_ok0 F sc_System_rule (M_System_rule K) rfl (by decide) (fun cdv A outer s H E hr => ?_), F.binds fun _ _ _ _ _ _ us hl => match us, hl with | [_], _ => rfl⟩
  have nd := sc_System_rule.nd
  refine ⟨_, (show PSs _ _ ((M_System_rule K).t _) from by unfold M_System_rule ; exact (sone (sret (dfld dV (na_cons ⟨T.k_System, T.na_System_held_rule⟩ na_nil))))), rfl⟩
theorem pt_rule (T : Top P K mg) : CalPT P w K mg base 1 "rule" (ptab_rule K) := (calP_cons (CalP.mono (calP_of T.k_System T.pr_System_rule (c_System_rule T)) (by decide)) calP_nil)
theorem c_is_integer (T : Top P K mg) : Cal P w K mg base CX0 1 "is_integer" 2 (mf_is_integer K) := by
  obtain ⟨fd, F⟩ := T.f_is_integer
  refine ⟨T.g_is_integer, F.kp, fd, ["thing", "least"], fn_ok0 F sc_is_integer (M_is_integer K) rfl (by decide) (fun cdv A outer s H E hr => ?_), F.binds fun _ _ _ _ _ _ us hl => match us, hl with | [_, _], _ => rfl⟩
  have nd := sc_is_integer.nd
  refine ⟨_, (show PSs _ _ ((M_is_integer K).t _) from by unfold M_is_integer ; exact (sone (sret (dand (disi T.b_isinstance T.b_int dV) (dand (dnot (disi T.b_isinstance T.b_bool dV)) (done (dcm rGe dV dV))))))), rfl⟩
theorem c_is_run (T : Top P K mg) : Cal P w K mg base CX0 2 "is_run" 1 (mf_is_run K) := by
  obtain ⟨fd, F⟩ := T.f_is_run
  refine ⟨T.g_is_run, F.kp, fd, ["thing"], fn_ok0 F sc_is_run (M_is_run K) rfl (by decide) (fun cdv A outer s H E hr => ?_), F.binds fun _ _ _ _ _ _ us hl => match us, hl with | [_], _ => rfl⟩
  have nd := sc_is_run.nd
  refine ⟨_, (show PSs _ _ ((M_is_run K).t _) from by unfold M_is_run E_is_run_2 T_is_run_1 G_is_run_0; exact (sone (sret (dand (disi T.b_isinstance T.b_tuple dV) (dand (dcm rEqI (dbiB rLen T.b_len (dcons dV dnil)) dI) (done (dbiB rAllX T.b_all (dcons (dfr (dlc (own := [("part", 1)]) nd (show blkC N_is_run (defScope s_is_run) _ _ = true from by decide +kernel) rfl (itup dV) (fun _ _ _ _ _ => (gN nd)) (fun _ _ _ _ _ => tsnil) (fun _ _ _ _ _ => (dcall0 (c_is_integer T) (hr.mono (by decide)) (dcval dV (dcval dI dcnil)))))) dnil)))))))), rfl⟩
theorem c_are_runs (T : Top P K mg) : Cal P w K mg base CX0 3 "are_runs" 1 (mf_are_runs K) := by
  obtain ⟨fd, F⟩ := T.f_are_runs
  refine ⟨T.g_are_runs, F.kp, fd, ["thing"], fn_ok0 F sc_are_runs (M_are_runs K) rfl (by decide) (fun cdv A outer s H E hr => ?_), F.binds fun _ _ _ _ _ _ us hl => match us, hl with | [_], _ => rfl⟩
  have nd := sc_are_runs.nd
  refine ⟨_, (show PSs _ _ ((M_are_runs K).t _) from by unfold M_are_runs E_are_runs_5 T_are_runs_4 G_are_runs_3 E_are_runs_2 T_are_runs_1 G_are_runs_0; exact (scons (sif (tpw (wor (tnot (tval (disi T.b_isinstance T.b_list dV))) (wor (tnot (tch rLe rLe dI (dbiB rLen T.b_len (dcons dV dnil)) (dGI T.c_MOST_RUNS))) (wor1 (tnot (tval (dbiB rAllX T.b_all (dcons (dfr (dlc (own := [("run", 1)]) nd (show blkC N_are_runs (defScope s_are_runs) _ _ = true from by decide +kernel) rfl (ilist dV) (fun _ _ _ _ _ => (gN nd)) (fun _ _ _ _ _ => tsnil) (fun _ _ _ _ _ => (dcall0 (c_is_run T) (hr.mono (by decide)) (dcval dV dcnil))))) dnil))))))))
  (sone (sret dB))
  snil)
  (sone (sret (dbiB rAllX T.b_all (dcons (dfr (dlc (own := [("one", 2), ("other", 3)]) nd (show blkC N_are_runs (defScope s_are_runs) _ _ = true from by decide +kernel) rfl (izip T.b_zip dV (dfr (dsl dV (osome dI) onone))) (fun _ _ _ _ _ => (gtup (gcons (gN nd) (gcons (gN nd) gnil)))) (fun _ _ _ _ _ => tsnil) (fun _ _ _ _ _ => (dcm (rNeX hr) (dix dV dI) (dix dV dI))))) dnil)))))), rfl⟩
theorem c_need_runs (T : Top P K mg) : Cal P w K mg base (L2.CX P w) 4 "need_runs" 1 (mf_need_runs K) := by
  obtain ⟨fd, F⟩ := T.f_need_runs
  refine ⟨T.g_need_runs, F.kp, fd, ["word"], fn_okX F sc_need_runs (M_need_runs K) rfl (by decide) (fun cdv A outer s H E hr => ?_), F.binds fun _ _ _ _ _ _ us hl => match us, hl with | [_], _ => rfl⟩
  have nd := sc_need_runs.nd
  have tk := takes_of (X := cxOf (L2.CX P w) P w K mg base N_need_runs "need_runs" (defScope s_need_runs) (He.ga K "need_runs") cdv A outer s H E) rfl rfl rfl rfl
  refine ⟨_, (show PSs _ _ ((M_need_runs K).t _) from by unfold M_need_runs ; exact (sone (sif (tnot (ttru (dcall0 (c_are_runs T) (hr.mono (by decide)) (dcval dV dcnil))))
  (sone (srs T.x_InvalidWord tk))
  snil))), rfl⟩
theorem c_Plain_signs (T : Top P K mg) : FnR P w K mg base (L2.CX P w) 5 (He.ma K (He.ga K "Plain") "signs") (spM K 2 (mf_Plain_signs K)) := by
  obtain ⟨fd, F⟩ := T.f_Plain_signs
  refine fnR_of (ps := ["self", "word"]) (fn_okX F sc_Plain_signs (M_Plain_signs K) rfl (by decide) (fun cdv A outer s H E hr => ?_)) (F.binds fun _ _ _ _ _ _ us hl => match us, hl with | [_, _], _ => rfl)
  have nd := sc_Plain_signs.nd
  have tk := takes_of (X := cxOf (L2.CX P w) P w K mg base N_Plain_signs "Plain.signs" (defScope s_Plain_signs) (He.ma K (He.ga K "Plain") "signs") cdv A outer s H E) rfl rfl rfl rfl
  refine ⟨_, (show PSs _ _ ((M_Plain_signs K).t _) from by unfold M_Plain_signs E_Plain_signs_2 T_Plain_signs_1 G_Plain_signs_0; exact (scons (sdrop (dcallX (c_need_runs T) (hr.mono (by decide)) tk (dcval dV dcnil)))
  (sone (sret (dfr (dlc (own := [("value", 2), ("count", 3)]) nd (show blkC N_Plain_signs (defScope s_Plain_signs) _ _ = true from by decide +kernel) rfl (ilist dV) (fun _ _ _ _ _ => (gtup (gcons (gN nd) (gcons (gN nd) gnil)))) (fun _ _ _ _ _ => tsnil) (fun _ _ _ _ _ => (dtup (dcons dV (dcons dV (dcons dI dnil))))))))))), rfl⟩
theorem c_Next_signs (T : Top P K mg) : FnR P w K mg base (L2.CX P w) 5 (He.ma K (He.ga K "Next") "signs") (spM K 2 (mf_Next_signs K)) := by
  obtain ⟨fd, F⟩ := T.f_Next_signs
  refine fnR_of (ps := ["self", "word"]) (fn_okX F sc_Next_signs (M_Next_signs K) rfl (by decide) (fun cdv A outer s H E hr => ?_)) (F.binds fun _ _ _ _ _ _ us hl => match us, hl with | [_, _], _ => rfl)
  have nd := sc_Next_signs.nd
  have tk := takes_of (X := cxOf (L2.CX P w) P w K mg base N_Next_signs "Next.signs" (defScope s_Next_signs) (He.ma K (He.ga K "Next") "signs") cdv A outer s H E) rfl rfl rfl rfl
  refine ⟨_, (show PSs _ _ ((M_Next_signs K).t _) from by unfold M_Next_signs B_Next_signs_1 G_Next_signs_0; exact (scons (sdrop (dcallX (c_need_runs T) (hr.mono (by decide)) tk (dcval dV dcnil)))
  (scons (sasgF nd (dlst dnil))
  (scons (sfor PassesOwn.leaving (ienum T.b_enumerate dV) (gtup (gcons (gN nd) (gcons (gtup (gcons (gN nd) (gcons (gN nd) gnil))) gnil)))
  (scons (sasgN nd (dbiT rInt T.b_int (dcons (dand (dcm rLt (dop rAdd dV dI) (dbiB rLen T.b_len (dcons dV dnil))) (done (dcm rGt (dix (dix dV (dop rAdd dV dI)) dI) dV))) dnil)))
  (sone (sdrop (dmeth PySem.F.slot_list_append PySem.F.type_list_append rAppendX (dcons (dtup (dcons dV (dcons (dop rSub dV dV) (dcons dV dnil)))) dnil))))))
  (sone (sret dLt)))))), rfl⟩
theorem c_Single_signs (T : Top P K mg) : FnR P w K mg base (L2.CX P w) 6 (He.ma K (He.ga K "Single") "signs") (spM K 2 (mf_Single_signs K)) := by
  obtain ⟨fd, F, hS⟩ := T.f_Single_signs
  refine fn_sup F sc_Single_signs (M_Single_signs K) rfl (fun _ _ _ _ _ us hl => match us, hl with | [_, _], _ => rfl) fun A outer s H E hr => ?_
  have nd := sc_Single_signs.nd
  have tk := takes_of (X := NdefX.ncx (L2.CX P w) P w K mg base N_Single_signs (nfS "signs" "Single.signs" s_Single_signs (ccOf K (He.ma K (He.ga K "Single") "signs")) (cdOf K (He.ma K (He.ga K "Single") "signs"))) (He.ma K (He.ga K "Single") "signs") A outer s H E) rfl rfl rfl rfl
  unfold M_Single_signs B_Single_signs_1 G_Single_signs_0
  exact (ucons (uset nd (usup hS (c_Next_signs T) (hr.mono (by decide)) tk (dcval dV dcnil)))
  (urest (scons (sfor PassesOwn.leaving (izip T.b_zip dV (dfr (dsl dV (osome dI) onone))) (gtup (gcons (gtup (gcons (gN nd) (gcons (gN nd) (gcons (gN nd) gnil)))) (gcons (gtup (gcons (gN nd) (gcons (gN nd) (gcons (gN nd) gnil)))) gnil)))
  (sone (sif (tpw (wand (tcm rGt dV dI) (wand1 (tcm (rEqX hr) dV dI))))
  (sone (srs T.x_InvalidWord tk))
  snil)))
  (sone (sret dV)))))
theorem c_Block_signs (T : Top P K mg) : FnR P w K mg base (L2.CX P w) 5 (He.ma K (He.ga K "Block") "signs") (spM K 2 (mf_Block_signs K)) := by
  obtain ⟨fd, F⟩ := T.f_Block_signs
  refine fnR_of (ps := ["self", "word"]) (fn_okX F sc_Block_signs (M_Block_signs K) rfl (by decide) (fun cdv A outer s H E hr => ?_)) (F.binds fun _ _ _ _ _ _ us hl => match us, hl with | [_, _], _ => rfl)
  have nd := sc_Block_signs.nd
  have tk := takes_of (X := cxOf (L2.CX P w) P w K mg base N_Block_signs "Block.signs" (defScope s_Block_signs) (He.ma K (He.ga K "Block") "signs") cdv A outer s H E) rfl rfl rfl rfl
  refine ⟨_, (show PSs _ _ ((M_Block_signs K).t _) from by unfold M_Block_signs B_Block_signs_1 G_Block_signs_0; exact (scons (sdrop (dcallX (c_need_runs T) (hr.mono (by decide)) tk (dcval dV dcnil)))
  (scons (sasgF nd (dlst dnil))
  (scons (sasgN nd dI)
  (scons (sfor PassesOwn.leaving (ilist (dfr (drev dV))) (gtup (gcons (gN nd) (gcons (gN nd) gnil)))
  (scons (sdrop (dmeth PySem.F.slot_list_append PySem.F.type_list_append rAppendX (dcons (dif (tcm rGt dV dV) (dtup (dcons dV (dcons dI (dcons dV dnil)))) (dtup (dcons dV (dcons dV (dcons dI dnil))))) dnil)))
  (sone (sasgN nd dV))))
  (sone (sret (dfr (drev dLt))))))))), rfl⟩
theorem c_Later_signs (T : Top P K mg) : FnR P w K mg base (L2.CX P w) 6 (He.ma K (He.ga K "Later") "signs") (spM K 2 (mf_Later_signs K)) := by
  obtain ⟨fd, F, hS⟩ := T.f_Later_signs
  refine fn_sup F sc_Later_signs (M_Later_signs K) rfl (fun _ _ _ _ _ us hl => match us, hl with | [_, _], _ => rfl) fun A outer s H E hr => ?_
  have nd := sc_Later_signs.nd
  have tk := takes_of (X := NdefX.ncx (L2.CX P w) P w K mg base N_Later_signs (nfS "signs" "Later.signs" s_Later_signs (ccOf K (He.ma K (He.ga K "Later") "signs")) (cdOf K (He.ma K (He.ga K "Later") "signs"))) (He.ma K (He.ga K "Later") "signs") A outer s H E) rfl rfl rfl rfl
  unfold M_Later_signs B_Later_signs_1 G_Later_signs_0
  exact (ucons (uof (sasgF nd (dlst dnil)))
  (ucons (uof (sasgN nd dI))
  (ucons (ufor PassesOwn.leaving (urev (usup hS (c_Block_signs T) (hr.mono (by decide)) tk (dcval dV dcnil))) (gtup (gcons (gN nd) (gcons (gN nd) (gcons (gN nd) gnil))))
  (scons (sasgN nd (dop rAdd dV dV))
  (scons (sdrop (dmeth PySem.F.slot_list_append PySem.F.type_list_append rAppendX (dcons (dif (tcm rGt dV dV) (dtup (dcons dV (dcons dI (dcons dV dnil)))) (dtup (dcons dV (dcons dV (dcons dI dnil))))) dnil)))
  (sone (sasgN nd (dbiB rMax2 T.b_max (dcons dV (dcons dV dnil))))))))
  (urest (sone (sret (dfr (drev dLt))))))))
theorem t_signs (T : Top P K mg) : CalT P w K mg base 6 "signs" 2 (tab_signs K) := (calT_cons (CalM.mono ⟨T.k_Plain, _, T.t_Plain_signs, c_Plain_signs T⟩ (by decide)) (calT_cons (CalM.mono ⟨T.k_Single, _, T.t_Single_signs, c_Single_signs T⟩ (by decide)) (calT_cons (CalM.mono ⟨T.k_Next, _, T.t_Next_signs, c_Next_signs T⟩ (by decide)) (calT_cons (CalM.mono ⟨T.k_Block, _, T.t_Block_signs, c_Block_signs T⟩ (by decide)) (calT_cons (CalM.mono ⟨T.k_Later, _, T.t_Later_signs, c_Later_signs T⟩ (by decide)) calT_nil)))))
theorem c_signs_of (T : Top P K mg) : Cal P w K mg base (L2.CX P w) 7 "signs_of" 2 (mf_signs_of K) := by
  obtain ⟨fd, F⟩ := T.f_signs_of
  refine ⟨T.g_signs_of, F.kp, fd, ["system", "word"], fn_okX F sc_signs_of (M_signs_of K) rfl (by decide) (fun cdv A outer s H E hr => ?_), F.binds fun _ _ _ _ _ _ us hl => match us, hl with | [_, _], _ => rfl⟩
  have nd := sc_signs_of.nd
  have tk := takes_of (X := cxOf (L2.CX P w) P w K mg base N_signs_of "signs_of" (defScope s_signs_of) (He.ga K "signs_of") cdv A outer s H E) rfl rfl rfl rfl
  refine ⟨_, (show PSs _ _ ((M_signs_of K).t _) from by unfold M_signs_of E_signs_of_2 T_signs_of_1 G_signs_of_0; exact (scons (sasgN nd (dM (dCM (cc_Rule_named T) (hr.mono (by decide)) tk (dcval (dprop dV (pt_rule T) (hr.mono (by decide))) dcnil)) (t_signs T) (hr.mono (by decide)) tk (dcval dV dcnil)))
  (scons (sasgN nd (dprop dV (pt_row T) (hr.mono (by decide))))
  (scons (sif (tnot (tval (dbiB rAllX T.b_all (dcons (dfr (dlc (own := [("value", 4), ("added", 5), ("subtracted", 6)]) nd (show blkC N_signs_of (defScope s_signs_of) _ _ = true from by decide +kernel) rfl (ilist dV) (fun _ _ _ _ _ => (gtup (gcons (gN nd) (gcons (gN nd) (gcons (gN nd) gnil))))) (fun _ _ _ _ _ => tsnil) (fun _ _ _ _ _ => (dcm rInX dV dV)))) dnil))))
  (sone (srs T.x_InvalidWord tk))
  snil)
  (sone (sret dV)))))), rfl⟩
theorem c_is_word (T : Top P K mg) : Cal P w K mg base (L2.CX P w) 8 "is_word" 2 (mf_is_word K) := by
  obtain ⟨fd, F⟩ := T.f_is_word
  refine ⟨T.g_is_word, F.kp, fd, ["system", "thing"], fn_okX F sc_is_word (M_is_word K) rfl (by decide) (fun cdv A outer s H E hr => ?_), F.binds fun _ _ _ _ _ _ us hl => match us, hl with | [_, _], _ => rfl⟩
  have nd := sc_is_word.nd
  have tk := takes_of (X := cxOf (L2.CX P w) P w K mg base N_is_word "is_word" (defScope s_is_word) (He.ga K "is_word") cdv A outer s H E) rfl rfl rfl rfl
  refine ⟨_, (show PSs _ _ ((M_is_word K).t _) from by unfold M_is_word ; exact (scons (stry (xt_cons T.e_InvalidLength_InvalidWord (xt_cons T.e_InvalidValues_InvalidWord (xt_cons T.e_InvalidWord_InvalidWord xt_nil))) T.g_InvalidWord tk (fun _ _ _ tk po =>
  (sone (sdrop (dcallX (c_signs_of T) (hr.mono (by decide)) tk (dcval dV (dcval dV dcnil))))))
  (fun _ _ _ _ _ =>
  (sone (sret dB))))
  (sone (sret dB)))), rfl⟩
theorem c_value_of (T : Top P K mg) : Cal P w K mg base (L2.CX P w) 8 "value_of" 2 (mf_value_of K) := by
  obtain ⟨fd, F⟩ := T.f_value_of
  refine ⟨T.g_value_of, F.kp, fd, ["system", "word"], fn_okX F sc_value_of (M_value_of K) rfl (by decide) (fun cdv A outer s H E hr => ?_), F.binds fun _ _ _ _ _ _ us hl => match us, hl with | [_, _], _ => rfl⟩
  have nd := sc_value_of.nd
  have tk := takes_of (X := cxOf (L2.CX P w) P w K mg base N_value_of "value_of" (defScope s_value_of) (He.ga K "value_of") cdv A outer s H E) rfl rfl rfl rfl
  refine ⟨_, (show PSs _ _ ((M_value_of K).t _) from by unfold M_value_of E_value_of_2 T_value_of_1 G_value_of_0; exact (sone (sret (dbiB rSumX T.b_sum (dcons (dfr (dlc (own := [("value", 2), ("added", 3), ("subtracted", 4)]) nd (show blkC N_value_of (defScope s_value_of) _ _ = true from by decide +kernel) rfl (ilist (dcallX (c_signs_of T) (hr.mono (by decide)) tk (dcval dV (dcval dV dcnil)))) (fun _ _ _ _ _ => (gtup (gcons (gN nd) (gcons (gN nd) (gcons (gN nd) gnil))))) (fun _ _ _ _ _ => tsnil) (fun _ _ _ _ _ => (dop rMul dV (dop rSub dV dV))))) dnil))))), rfl⟩
theorem c_are_values (T : Top P K mg) : Cal P w K mg base CX0 2 "are_values" 1 (mf_are_values K) := by
  obtain ⟨fd, F⟩ := T.f_are_values
  refine ⟨T.g_are_values, F.kp, fd, ["thing"], fn_ok0 F sc_are_values (M_are_values K) rfl (by decide) (fun cdv A outer s H E hr => ?_), F.binds fun _ _ _ _ _ _ us hl => match us, hl with | [_], _ => rfl⟩
  have nd := sc_are_values.nd
  refine ⟨_, (show PSs _ _ ((M_are_values K).t _) from by unfold M_are_values E_are_values_5 T_are_values_4 G_are_values_3 E_are_values_2 T_are_values_1 G_are_values_0; exact (scons (sif (tpw (wor (tnot (tval (disi T.b_isinstance T.b_list dV))) (wor1 (tnot (tch rLe rLe dI (dbiB rLen T.b_len (dcons dV dnil)) (dcon T.o_System_MOST (dCls T.g_System)))))))
  (sone (sret dB))
  snil)
  (scons (sif (tnot (tval (dbiB rAllX T.b_all (dcons (dfr (dlc (own := [("value", 1)]) nd (show blkC N_are_values (defScope s_are_values) _ _ = true from by decide +kernel) rfl (ilist dV) (fun _ _ _ _ _ => (gN nd)) (fun _ _ _ _ _ => tsnil) (fun _ _ _ _ _ => (dand (dcall0 (c_is_integer T) (hr.mono (by decide)) (dcval dV (dcval dI dcnil))) (done (dcm rLe dV (dGI T.c_MOST_VALUE))))))) dnil))))
  (sone (sret dB))
  snil)
  (sone (sret (dbiB rAllX T.b_all (dcons (dfr (dlc (own := [("one", 2), ("other", 3)]) nd (show blkC N_are_values (defScope s_are_values) _ _ = true from by decide +kernel) rfl (izip T.b_zip dV (dfr (dsl dV (osome dI) onone))) (fun _ _ _ _ _ => (gtup (gcons (gN nd) (gcons (gN nd) gnil)))) (fun _ _ _ _ _ => tsnil) (fun _ _ _ _ _ => (dcm rLt dV dV)))) dnil))))))), rfl⟩
theorem c_is_rule (T : Top P K mg) : Cal P w K mg base CX0 1 "is_rule" 1 (mf_is_rule K) := by
  obtain ⟨fd, F⟩ := T.f_is_rule
  refine ⟨T.g_is_rule, F.kp, fd, ["thing"], fn_ok0 F sc_is_rule (M_is_rule K) rfl (by decide) (fun cdv A outer s H E hr => ?_), F.binds fun _ _ _ _ _ _ us hl => match us, hl with | [_], _ => rfl⟩
  have nd := sc_is_rule.nd
  refine ⟨_, (show PSs _ _ ((M_is_rule K).t _) from by unfold M_is_rule ; exact (sone (sret (dand (disi T.b_isinstance T.b_str dV) (done (dcm rInX dV (dcon T.o_Rule_ALL (dCls T.g_Rule)))))))), rfl⟩
theorem i_System (T : Top P K mg) : CalI P w K mg base 3 "System" "rule" (MN_System K) 3 := by
  obtain ⟨fd, F⟩ := T.f_System___init__
  refine ⟨T.g_System, _, T.mk_System, fn_init F sc_System___init__ (MN_System K) (by decide) T.k_System (show ∀ f ∈ (["held_values", "held_rule"] : List Str), NoAttr K _ f from (na_cons T.na_System_held_values (na_cons T.na_System_held_rule na_nil))) (fun _ _ _ _ _ _ _ _ => rfl) (fun _ _ _ _ _ _ _ _ _ _ => rfl) (fun cdv A outer s H E hr => ?_)⟩
  have nd := sc_System___init__.nd
  have tk := takes_of (X := cxOf (L2.CX P w) P w K mg base N_System___init__ "System.__init__" (defScope s_System___init__) (He.ma K (He.ga K "System") "__init__") cdv A outer s H E) rfl rfl rfl rfl
  refine ⟨_, (show PSs _ _ ((MN_System K).t _) from by unfold MN_System ; exact (nseq (nS (sif (tpw (wor (tnot (ttru (dcall0 (c_are_values T) (hr.mono (by decide)) (dcval (dfr (dbfT rListL T.b_list (dcons dV dnil))) dcnil)))) (wor1 (tnot (ttru (dcall0 (c_is_rule T) (hr.mono (by decide)) (dcval dV dcnil)))))))
  (sone (srs T.x_InvalidValues tk))
  snil))
  (nseq (nF (dfr (dbfT rListL T.b_list (dcons dV dnil))))
  (none1 (nF dV))))), rfl⟩
theorem c_System_with_rule (T : Top P K mg) : FnR P w K mg base (L2.CX P w) 5 (He.ma K (He.ga K "System") "with_rule") (spM K 2 (mf_System_with_rule K)) := by
  obtain ⟨fd, F⟩ := T.f_System_with_rule
  refine fnR_of (ps := ["self", "rule"]) (fn_okX F sc_System_with_rule (M_System_with_rule K) rfl (by decide) (fun cdv A outer s H E hr => ?_)) (F.binds fun _ _ _ _ _ _ us hl => match us, hl with | [_, _], _ => rfl)
  have nd := sc_System_with_rule.nd
  have tk := takes_of (X := cxOf (L2.CX P w) P w K mg base N_System_with_rule "System.with_rule" (defScope s_System_with_rule) (He.ma K (He.ga K "System") "with_rule") cdv A outer s H E) rfl rfl rfl rfl
  refine ⟨_, (show PSs _ _ ((M_System_with_rule K).t _) from by unfold M_System_with_rule ; exact (sone (sret (dMkS (i_System T) (hr.mono (by decide)) tk (dfld dV (na_cons ⟨T.k_System, T.na_System_held_values⟩ na_nil)) dV)))), rfl⟩
theorem t_with_rule (T : Top P K mg) : CalT P w K mg base 5 "with_rule" 2 (tab_with_rule K) := (calT_cons (CalM.mono ⟨T.k_System, _, T.t_System_with_rule, c_System_with_rule T⟩ (by decide)) calT_nil)
theorem c_agree (T : Top P K mg) : Cal P w K mg base (L2.CX P w) 9 "agree" 3 (mf_agree K) := by
  obtain ⟨fd, F⟩ := T.f_agree
  refine ⟨T.g_agree, F.kp, fd, ["system", "rule", "word"], fn_okX F sc_agree (M_agree K) rfl (by decide) (fun cdv A outer s H E hr => ?_), F.binds fun _ _ _ _ _ _ us hl => match us, hl with | [_, _, _], _ => rfl⟩
  have nd := sc_agree.nd
  have tk := takes_of (X := cxOf (L2.CX P w) P w K mg base N_agree "agree" (defScope s_agree) (He.ga K "agree") cdv A outer s H E) rfl rfl rfl rfl
  refine ⟨_, (show PSs _ _ ((M_agree K).t _) from by unfold M_agree ; exact (scons (sasgN nd (dM dV (t_with_rule T) (hr.mono (by decide)) tk (dcval dV dcnil)))
  (scons (sasgN nd (dcallX (c_value_of T) (hr.mono (by decide)) tk (dcval dV (dcval dV dcnil))))
  (sone (sret (dand (dcallX (c_is_word T) (hr.mono (by decide)) tk (dcval dV (dcval dV dcnil))) (done (dcm (rEqX hr) (dcallX (c_value_of T) (hr.mono (by decide)) tk (dcval dV (dcval dV dcnil))) dV)))))))), rfl⟩
theorem c_Tail___init__ (T : Top P K mg) : FnR P w K mg base (L2.CX P w) 1 (He.ma K (He.ga K "Tail") "__init__") (spG K 5 (mf_Tail___init__ K)) := by
  obtain ⟨fd, F⟩ := T.f_Tail___init__
  refine fnR_of (ps := ["self", "sign", "next_minus", "block_minus", "top"]) (fn_okGX F sc_Tail___init__ (M_Tail___init__ K) rfl (by decide) (fun cdv A outer s H E hr => ?_)) (F.binds fun _ _ _ _ _ _ us hl => match us, hl with | [_, _, _, _, _], _ => rfl)
  have nd := sc_Tail___init__.nd
  have tk := takes_of (X := cxOf (L2.CX P w) P w K mg base N_Tail___init__ "Tail.__init__" (defScope s_Tail___init__) (He.ma K (He.ga K "Tail") "__init__") cdv A outer s H E) rfl rfl rfl rfl
  refine ⟨_, (show PSs _ _ ((M_Tail___init__ K).t _) from by unfold M_Tail___init__ ; exact (scons (sof (na_cons ⟨T.k_Tail, T.na_Tail_first_sign⟩ na_nil) dV)
  (scons (sof (na_cons ⟨T.k_Tail, T.na_Tail_next_minus⟩ na_nil) dV)
  (scons (sof (na_cons ⟨T.k_Tail, T.na_Tail_block_minus⟩ na_nil) dV)
  (sone (sof (na_cons ⟨T.k_Tail, T.na_Tail_top⟩ na_nil) dV)))))), rfl⟩
theorem o_Tail (T : Top P K mg) : CalO P w K mg base 1 "Tail" 5 (mf_Tail___init__ K) := ⟨T.g_Tail, _, T.mk_Tail, c_Tail___init__ T⟩
theorem c_Tail_minus_by (T : Top P K mg) : FnR P w K mg base (L2.CX P w) 1 (He.ma K (He.ga K "Tail") "minus_by") (spM K 3 (mf_Tail_minus_by K)) := by
  obtain ⟨fd, F⟩ := T.f_Tail_minus_by
  refine fnR_of (ps := ["self", "rule", "sign"]) (fn_okX F sc_Tail_minus_by (M_Tail_minus_by K) rfl (by decide) (fun cdv A outer s H E hr => ?_)) (F.binds fun _ _ _ _ _ _ us hl => match us, hl with | [_, _, _], _ => rfl)
  have nd := sc_Tail_minus_by.nd
  have tk := takes_of (X := cxOf (L2.CX P w) P w K mg base N_Tail_minus_by "Tail.minus_by" (defScope s_Tail_minus_by) (He.ma K (He.ga K "Tail") "minus_by") cdv A outer s H E) rfl rfl rfl rfl
  refine ⟨_, (show PSs _ _ ((M_Tail_minus_by K).t _) from by unfold M_Tail_minus_by ; exact (scons (sif (tcm rInX dV (dtup (dcons (dGS T.c_SINGLE) (dcons (dGS T.c_NEXT) dnil))))
  (sone (sret (dcm rLt dV (dfld dV (na_cons ⟨T.k_Tail, T.na_Tail_first_sign⟩ na_nil)))))
  snil)
  (scons (sif (tcm (rEqX hr) dV (dGS T.c_BLOCK))
  (sone (sret (dor (dcm rLt dV (dfld dV (na_cons ⟨T.k_Tail, T.na_Tail_first_sign⟩ na_nil))) (done (dand (dcm (rEqX hr) dV (dfld dV (na_cons ⟨T.k_Tail, T.na_Tail_first_sign⟩ na_nil))) (done (dfld dV (na_cons ⟨T.k_Tail, T.na_Tail_block_minus⟩ na_nil))))))))
  snil)
  (sone (sret (dand (dcm (rEqX hr) dV (dGS T.c_LATER)) (done (dcm rLt dV (dfld dV (na_cons ⟨T.k_Tail, T.na_Tail_top⟩ na_nil)))))))))), rfl⟩
theorem t_minus_by (T : Top P K mg) : CalT P w K mg base 1 "minus_by" 3 (tab_minus_by K) := (calT_cons (CalM.mono ⟨T.k_Tail, _, T.t_Tail_minus_by, c_Tail_minus_by T⟩ (by decide)) calT_nil)
theorem c_fits_before (T : Top P K mg) : Cal P w K mg base (L2.CX P w) 2 "fits_before" 3 (mf_fits_before K) := by
  obtain ⟨fd, F⟩ := T.f_fits_before
  refine ⟨T.g_fits_before, F.kp, fd, ["tail", "sign", "rules"], fn_okX F sc_fits_before (M_fits_before K) rfl (by decide) (fun cdv A outer s H E hr => ?_), F.binds fun _ _ _ _ _ _ us hl => match us, hl with | [_, _, _], _ => rfl⟩
  have nd := sc_fits_before.nd
  have tk := takes_of (X := cxOf (L2.CX P w) P w K mg base N_fits_before "fits_before" (defScope s_fits_before) (He.ga K "fits_before") cdv A outer s H E) rfl rfl rfl rfl
  refine ⟨_, (show PSs _ _ ((M_fits_before K).t _) from by unfold M_fits_before ; exact (scons (sif (tpw (wand (tcm rInX (dGS T.c_SINGLE) dV) (wand (ttru (dfld dV (na_cons ⟨T.k_Tail, T.na_Tail_next_minus⟩ na_nil))) (wand1 (tcm rLt dV (dfld dV (na_cons ⟨T.k_Tail, T.na_Tail_first_sign⟩ na_nil)))))))
  (sone (sret dB))
  snil)
  (sone (sret (dcm (rEqX hr) (dM dV (t_minus_by T) (hr.mono (by decide)) tk (dcval (dix dV dI) (dcval dV dcnil))) (dM dV (t_minus_by T) (hr.mono (by decide)) tk (dcval (dix dV dI) (dcval dV dcnil)))))))), rfl⟩
theorem c_Tail_key (T : Top P K mg) : FnR P w K mg base (L2.CX P w) 1 (He.ma K (He.ga K "Tail") "key") (spM K 1 (mf_Tail_key K)) := by
  obtain ⟨fd, F⟩ := T.f_Tail_key
  refine fnR_of (ps := ["self"]) (fn_okX F sc_Tail_key (M_Tail_key K) rfl (by decide) (fun cdv A outer s H E hr => ?_)) (F.binds fun _ _ _ _ _ _ us hl => match us, hl with | [_], _ => rfl)
  have nd := sc_Tail_key.nd
  have tk := takes_of (X := cxOf (L2.CX P w) P w K mg base N_Tail_key "Tail.key" (defScope s_Tail_key) (He.ma K (He.ga K "Tail") "key") cdv A outer s H E) rfl rfl rfl rfl
  refine ⟨_, (show PSs _ _ ((M_Tail_key K).t _) from by unfold M_Tail_key ; exact (sone (sret (dtup (dcons (dfld dV (na_cons ⟨T.k_Tail, T.na_Tail_first_sign⟩ na_nil)) (dcons (dfld dV (na_cons ⟨T.k_Tail, T.na_Tail_next_minus⟩ na_nil)) (dcons (dfld dV (na_cons ⟨T.k_Tail, T.na_Tail_block_minus⟩ na_nil)) (dcons (dfld dV (na_cons ⟨T.k_Tail, T.na_Tail_top⟩ na_nil)) dnil)))))))), rfl⟩
theorem t_key (T : Top P K mg) : CalT P w K mg base 1 "key" 1 (tab_key K) := (calT_cons (CalM.mono ⟨T.k_Tail, _, T.t_Tail_key, c_Tail_key T⟩ (by decide)) calT_nil)
theorem c_Tail_with_sign (T : Top P K mg) : FnR P w K mg base (L2.CX P w) 3 (He.ma K (He.ga K "Tail") "with_sign") (spM K 2 (mf_Tail_with_sign K)) := by
  obtain ⟨fd, F⟩ := T.f_Tail_with_sign
  refine fnR_of (ps := ["self", "sign"]) (fn_okX F sc_Tail_with_sign (M_Tail_with_sign K) rfl (by decide) (fun cdv A outer s H E hr => ?_)) (F.binds fun _ _ _ _ _ _ us hl => match us, hl with | [_, _], _ => rfl)
  have nd := sc_Tail_with_sign.nd
  have tk := takes_of (X := cxOf (L2.CX P w) P w K mg base N_Tail_with_sign "Tail.with_sign" (defScope s_Tail_with_sign) (He.ma K (He.ga K "Tail") "with_sign") cdv A outer s H E) rfl rfl rfl rfl
  refine ⟨_, (show PSs _ _ ((M_Tail_with_sign K).t _) from by unfold M_Tail_with_sign ; exact (sone (sret (dmkV (dMkO (o_Tail T) (hr.mono (by decide)) tk (dcval dV (dcval (dM dV (t_minus_by T) (hr.mono (by decide)) tk (dcval (dGS T.c_NEXT) (dcval dV dcnil))) (dcval (dM dV (t_minus_by T) (hr.mono (by decide)) tk (dcval (dGS T.c_BLOCK) (dcval dV dcnil))) (dcval (dbiB rMax2 T.b_max (dcons dV (dcons (dfld dV (na_cons ⟨T.k_Tail, T.na_Tail_top⟩ na_nil)) dnil))) dcnil))))))))), rfl⟩
theorem t_with_sign (T : Top P K mg) : CalT P w K mg base 3 "with_sign" 2 (tab_with_sign K) := (calT_cons (CalM.mono ⟨T.k_Tail, _, T.t_Tail_with_sign, c_Tail_with_sign T⟩ (by decide)) calT_nil)
theorem c_count_agreeing (T : Top P K mg) : Cal P w K mg base (L2.CX P w) 6 "count_agreeing" 3 (mf_count_agreeing K) := by
  obtain ⟨fd, F⟩ := T.f_count_agreeing
  refine ⟨T.g_count_agreeing, F.kp, fd, ["system", "rule", "length"], fn_okX F sc_count_agreeing (M_count_agreeing K) rfl (by decide) (fun cdv A outer s H E hr => ?_), F.binds fun _ _ _ _ _ _ us hl => match us, hl with | [_, _, _], _ => rfl⟩
  have nd := sc_count_agreeing.nd
  have tk := takes_of (X := cxOf (L2.CX P w) P w K mg base N_count_agreeing "count_agreeing" (defScope s_count_agreeing) (He.ga K "count_agreeing") cdv A outer s H E) rfl rfl rfl rfl
  refine ⟨_, (show PSs _ _ ((M_count_agreeing K).t _) from by unfold M_count_agreeing B_count_agreeing_9 G_count_agreeing_8 B_count_agreeing_7 G_count_agreeing_6 B_count_agreeing_5 G_count_agreeing_4 E_count_agreeing_3 E_count_agreeing_2 T_count_agreeing_1 G_count_agreeing_0; exact (scons (sasgN nd (dtup (dcons (dprop dV (pt_rule T) (hr.mono (by decide))) (dcons (dprop (dM dV (t_with_rule T) (hr.mono (by decide)) tk (dcval dV dcnil)) (pt_rule T) (hr.mono (by decide))) dnil))))
  (scons (sif (tpw (wor (tnot (ttru (dcall0 (c_is_integer T) (hr.mono (by decide)) (dcval dV (dcval dI dcnil))))) (wor1 (tcm rGt dV (dGI T.c_MOST_LENGTH)))))
  (sone (srs T.x_InvalidLength tk))
  snil)
  (scons (sdcN (own := [("sign", 10)]) hr nd (show blkC N_count_agreeing (defScope s_count_agreeing) _ _ = true from by decide +kernel) rfl (sw_trueD rfl rfl rfl (by decide +kernel)) (ilist (dprop dV (pt_row T) (hr.mono (by decide)))) (fun _ _ _ _ _ => (gN nd)) (fun _ _ _ _ _ => tsnil) (fun _ _ _ _ _ => (dtup (dcons dV (dcons dB (dcons dB (dcons dV dnil)))))) (fun _ _ _ _ _ => dI))
  (scons (sfor PassesOwn.leaving (irng1 T.b_range (dop rSub dV dI)) (gN nd)
  (scons (sdnewN nd)
  (scons (sfor PassesOwn.leaving (iitemsN dV) (gtup (gcons (gN nd) (gcons (gN nd) gnil)))
  (scons (sasgN nd (dmkV (dMkO (o_Tail T) (hr.mono (by decide)) tk (dcval (dix dV dI) (dcval (dix dV dI) (dcval (dix dV dI) (dcval (dix dV dI) dcnil)))))))
  (sone (sfor PassesOwn.leaving (ilist (dprop dV (pt_row T) (hr.mono (by decide)))) (gN nd)
  (sone (sif (ttru (dcallX (c_fits_before T) (hr.mono (by decide)) tk (dcval dV (dcval dV (dcval dV dcnil)))))
  (scons (sasgN nd (dM0 (dM dV (t_with_sign T) (hr.mono (by decide)) tk (dcval dV dcnil)) (t_key T) (hr.mono (by decide)) tk))
  (sone (sdnput hr (dop rAdd (dgetNC hr dV dI) dV) dV)))
  snil))))))
  (sone (sasgN nd dletF)))))
  (sone (sret (dbiB rSumX T.b_sum (dcons (dfr (dlistVN T.b_list dV)) dnil))))))))), rfl⟩
theorem c_System_of (T : Top P K mg) : FnR P w K mg base (L2.CX P w) 5 (cmg K (He.ma K (He.ga K "System") "of")) (spM K 3 (mf_System_of K)) := by
  obtain ⟨fd, F⟩ := T.f_System_of
  refine fnR_of (ps := ["cls", "values", "rule"]) (fn_okX F sc_System_of (M_System_of K) rfl (by decide) (fun cdv A outer s H E hr => ?_)) (F.binds fun _ _ _ _ _ _ us hl => match us, hl with | [_, _, _], _ => rfl)
  have nd := sc_System_of.nd
  have tk := takes_of (X := cxOf (L2.CX P w) P w K mg base N_System_of "System.of" (defScope s_System_of) (cmg K (He.ma K (He.ga K "System") "of")) cdv A outer s H E) rfl rfl rfl rfl
  refine ⟨_, (show PSs _ _ ((M_System_of K).t _) from by unfold M_System_of ; exact (scons (sif (tnot (ttru (dcall0 (c_are_values T) (hr.mono (by decide)) (dcval dV dcnil))))
  (sone (srs T.x_InvalidValues tk))
  snil)
  (sone (sret (dMkL (i_System T) (hr.mono (by decide)) tk dV dV))))), rfl⟩
theorem cc_System_of (T : Top P K mg) : CalC P w K mg base 5 "System" "of" 3 (mf_System_of K) := ⟨T.g_System, T.kp_System, _, _, _, T.r_System, T.cm_System_of, c_System_of T⟩
theorem c__law_right (T : Top P K mg) : Cal P w K mg base (L2.CX P w) 10 "_law_right" 3 (mf__law_right K) := by
  obtain ⟨fd, F⟩ := T.f__law_right
  refine ⟨T.g__law_right, F.kp, fd, ["_law_well_here", "_law_values_here", "_law_length"], fn_okX F sc__law_right (M__law_right K) rfl (by decide) (fun cdv A outer s H E hr => ?_), F.binds fun _ _ _ _ _ _ us hl => match us, hl with | [_, _, _], _ => rfl⟩
  have nd := sc__law_right.nd
  have tk := takes_of (X := cxOf (L2.CX P w) P w K mg base N__law_right "_law_right" (defScope s__law_right) (He.ga K "_law_right") cdv A outer s H E) rfl rfl rfl rfl
  refine ⟨_, (show PSs _ _ ((M__law_right K).t _) from by unfold M__law_right B__law_right_18 G__law_right_17 E__law_right_16 T__law_right_15 G__law_right_14 B__law_right_13 G__law_right_12 E__law_right_11 T__law_right_10 G__law_right_9 E__law_right_8 T__law_right_7 G__law_right_6 E__law_right_5 T__law_right_4 G__law_right_3 E__law_right_2 T__law_right_1 G__law_right_0; exact (scons (sasgN nd (dfr (dlst (dcons dS (dcons dS (dcons dS (dcons dS (dcons dS dnil))))))))
  (scons (sasgN nd (dfr (dlc (own := [("_law_one", 7)]) nd (show blkC N__law_right (defScope s__law_right) _ _ = true from by decide +kernel) rfl (ilist dV) (fun _ _ _ _ _ => (gN nd)) (fun _ _ _ _ _ => tsnil) (fun _ _ _ _ _ => (dfr (dlc (own := [("_law_other", 8)]) nd (by rfl) rfl (ilist dV) (fun _ _ _ _ _ => (gN nd)) (fun _ _ _ _ _ => tsnil) (fun _ _ _ _ _ => (dcallX (c_count_agreeing T) (hr.mono (by decide)) tkNo (dcval (dCM (cc_System_of T) (hr.mono (by decide)) tkNo (dcval dV (dcval dV dcnil))) (dcval dV (dcval dV dcnil)))))))))))
  (scons (sif (tcm (rNeX hr) dV (dfr (dlc (own := [("_law_at", 13)]) nd (show blkC N__law_right (defScope s__law_right) _ _ = true from by decide +kernel) rfl (irng1 T.b_range dI) (fun _ _ _ _ _ => (gN nd)) (fun _ _ _ _ _ => tsnil) (fun _ _ _ _ _ => (dfr (dlc (own := [("_law_row", 11)]) nd (by rfl) rfl (ilist dV) (fun _ _ _ _ _ => (gN nd)) (fun _ _ _ _ _ => tsnil) (fun _ _ _ _ _ => (dix dV dV))))))))
  (sone (sret dB))
  snil)
  (scons (sasgN nd dI)
  (scons (sfor PassesOwn.leaving (irng1 T.b_range dV) (gN nd)
  (sone (sasgN nd (dop rMul dV (dbiB rLen T.b_len (dcons dV dnil))))))
  (scons (sif (tcm (rNeX hr) (dfr (dlc (own := [("_law_at", 13)]) nd (show blkC N__law_right (defScope s__law_right) _ _ = true from by decide +kernel) rfl (itup (dtup (dcons dI (dcons dI (dcons dI (dcons dI dnil)))))) (fun _ _ _ _ _ => (gN nd)) (fun _ _ _ _ _ => tsnil) (fun _ _ _ _ _ => (dix (dix dV dV) dV)))) (dfr (drpt (dfr (dlst (dcons dV dnil))) dI)))
  (sone (sret dB))
  snil)
  (scons (sif (tpw (wor (tcm (rNeX hr) (dix (dix dV dI) dI) (dix (dix dV dI) dI)) (wor (tcm rGt (dix (dix dV dI) dI) (dix (dix dV dI) dI)) (wor1 (tcm rGt (dix (dix dV dI) dI) (dix (dix dV dI) dI))))))
  (sone (sret dB))
  snil)
  (scons (sparVV nd (dix dV (dcall0 (c__law_dip T) (hr.mono (by decide)) (dccel (dcval dI dcnil)))) (dix dV (dcall0 (c__law_dip T) (hr.mono (by decide)) (dccel (dcval dI dcnil)))))
  (scons (sparVV nd (dCM (cc_System_of T) (hr.mono (by decide)) tk (dcval dV (dcval dV dcnil))) dI)
  (scons (sfor PassesOwn.leaving (ilist (dcall0 (c__law_all_rows T) (hr.mono (by decide)) (dcval dV (dcval dV dcnil)))) (gN nd)
  (scons (sasgN nd (dcall0 (c__law_runs T) (hr.mono (by decide)) (dcval dV dcnil)))
  (sone (sif (tpw (wand (ttru (dcallX (c_is_word T) (hr.mono (by decide)) tk (dcval dV (dcval dV dcnil)))) (wand1 (ttru (dcallX (c_agree T) (hr.mono (by decide)) tk (dcval dV (dcval dV (dcval dV dcnil))))))))
  (sone (sasgN nd (dop rAdd dV dI)))
  snil))))
  (sone (sret (dcm (rEqX hr) dV (dix (dix dV (didxL dV dV)) (didxL dV dV)))))))))))))))), rfl⟩
theorem c__law_rule (T : Top P K mg) : Cal P w K mg base CX0 2 "_law_rule" 1 (mf__law_rule K) := by
  obtain ⟨fd, F⟩ := T.f__law_rule
  refine ⟨T.g__law_rule, F.kp, fd, ["_law_well_here"], fn_ok0 F sc__law_rule (M__law_rule K) rfl (by decide) (fun cdv A outer s H E hr => ?_), F.binds fun _ _ _ _ _ _ us hl => match us, hl with | [_], _ => rfl⟩
  have nd := sc__law_rule.nd
  refine ⟨_, (show PSs _ _ ((M__law_rule K).t _) from by unfold M__law_rule ; exact (sone (sret (dix (dfr (dlst (dcons dS (dcons dS (dcons dS (dcons dS (dcons dS dnil))))))) (dcall0 (c__law_dip T) (hr.mono (by decide)) (dccel (dcval dI dcnil))))))), rfl⟩
theorem c__law_values (T : Top P K mg) : Cal P w K mg base CX0 2 "_law_values" 2 (mf__law_values K) := by
  obtain ⟨fd, F⟩ := T.f__law_values
  refine ⟨T.g__law_values, F.kp, fd, ["_law_well_here", "_law_top"], fn_ok0 F sc__law_values (M__law_values K) rfl (by decide) (fun cdv A outer s H E hr => ?_), F.binds fun _ _ _ _ _ _ us hl => match us, hl with | [_, _], _ => rfl⟩
  have nd := sc__law_values.nd
  refine ⟨_, (show PSs _ _ ((M__law_values K).t _) from by unfold M__law_values E__law_values_2 T__law_values_1 G__law_values_0; exact (scons (sasgF nd (dlr T.b_list T.b_range dI (dop rAdd dV dI)))
  (sone (sret (dfr (dbfB rSortedX T.b_sorted (dcons (dfr (dlc (own := [("_law_turn", 3)]) nd (show blkC N__law_values (defScope s__law_values) _ _ = true from by decide +kernel) rfl (irng1 T.b_range (dbiB rMin2 T.b_min (dcons dV (dcons (dop rAdd dI (dcall0 (c__law_dip T) (hr.mono (by decide)) (dccel (dcval dI dcnil)))) dnil)))) (fun _ _ _ _ _ => (gN nd)) (fun _ _ _ _ _ => tsnil) (fun _ _ _ _ _ => (dmeth PySem.F.slot_list_pop PySem.F.type_list_pop rPopAtX (dcons (dcall0 (c__law_dip T) (hr.mono (by decide)) (dccel (dcval (dbiB rLen T.b_len (dcons dLk dnil)) dcnil))) dnil))))) dnil))))))), rfl⟩
theorem c__law_well (T : Top P K mg) : Cal P w K mg base CX0 1 "_law_well" 2 (mf__law_well K) := by
  obtain ⟨fd, F⟩ := T.f__law_well
  refine ⟨T.g__law_well, F.kp, fd, ["_law_script", "_law_k"], fn_ok0 F sc__law_well (M__law_well K) rfl (by decide) (fun cdv A outer s H E hr => ?_), F.binds fun _ _ _ _ _ _ us hl => match us, hl with | [_, _], _ => rfl⟩
  have nd := sc__law_well.nd
  refine ⟨_, (show PSs _ _ ((M__law_well K).t _) from by unfold M__law_well ; exact (scons (sasgN nd (dif (tcm rLt dV (dbiB rLen T.b_len (dcons dV dnil))) (dbiB rAbs T.b_abs (dcons (dix dV dV) dnil)) dI))
  (sone (sretF (dlst (dcons (dbiB rMax2 T.b_max (dcons dI (dcons (dop rSub dV (dop rPow dI dI)) dnil))) (dcons (dop rAdd (dop rMul (dop rMod dV (dop rAdd (dop rPow dI dI) dI)) dI) dV) (dcons dI dnil)))))))), rfl⟩
theorem c_law (T : Top P K mg) : ∃ fd, (∀ s u, BindsTo s fd ⟨[u], []⟩ [("_law_script", u)]) ∧ ∀ base, FnOk P w K mg base (L2.CX P w) 11 (He.ga K "law") fd ["_law_script"] (spM K 1 (mf_law K)) := by
  obtain ⟨fd, F⟩ := T.f_law
  refine ⟨fd, (by obtain ⟨oc, od, kV, doc, pm, an, cdv, ct, osl, rfl, lk, hcd⟩ := F.ex; exact fun s u => .of_eq rfl), fun base => fn_okX F sc_law (M_law K) rfl (by decide) (fun cdv A outer s H E hr => ?_)⟩
  have nd := sc_law.nd
  have tk := takes_of (X := cxOf (L2.CX P w) P w K mg base N_law "law" (defScope s_law) (He.ga K "law") cdv A outer s H E) rfl rfl rfl rfl
  refine ⟨_, (show PSs _ _ ((M_law K).t _) from by unfold M_law B_law_1 G_law_0; exact (scons (sfor PassesOwn.leaving (irng1 T.b_range (dbiB rMax2 T.b_max (dcons dI (dcons (dbiB rMin2 T.b_min (dcons dI (dcons (dbiB rLen T.b_len (dcons dV dnil)) dnil))) dnil)))) (gN nd)
  (scons (sasgF nd (dcallF0 (c__law_well T) (hr.mono (by decide)) (dcval dV (dcval dV dcnil))))
  (scons (sparVV nd (dfr (dsl (dcall0 (c__law_values T) (hr.mono (by decide)) (dccel (dcval dI dcnil))) onone (osome dI))) (dop rAdd dI (dcall0 (c__law_dip T) (hr.mono (by decide)) (dccel (dcval dI dcnil)))))
  (scons (sif (tnot (ttru (dcallX (c__law_right T) (hr.mono (by decide)) tk (dccel (dcval dV (dcval dV dcnil))))))
  (sone (sret dB))
  snil)
  (sone (sif (tcm rGt (dbiB rLen T.b_len (dcons dV dnil)) dI)
  (scons (sparVV nd (dCM (cc_System_of T) (hr.mono (by decide)) tk (dcval (dfr (dsl dV onone (osome (dneg dI)))) (dcval (dcall0 (c__law_rule T) (hr.mono (by decide)) (dccel dcnil)) dcnil))) (dcall0 (c__law_rule T) (hr.mono (by decide)) (dccel dcnil)))
  (sone (sif (tcm rGe (dcallX (c_count_agreeing T) (hr.mono (by decide)) tk (dcval dV (dcval dV (dcval dV dcnil)))) (dcallX (c_count_agreeing T) (hr.mono (by decide)) tk (dcval (dCM (cc_System_of T) (hr.mono (by decide)) tk (dcval dV (dcval (dprop dV (pt_rule T) (hr.mono (by decide))) dcnil))) (dcval dV (dcval dV dcnil)))))
  (sone (sret dB))
  snil)))
  snil))))))
  (sone (sret dB)))), rfl⟩
end
theorem top_of {K : PySem.W.Frag} {h : Heap} {mg : Str → Option Value} (X : K.In h) (G : h.Ns mainGlobals mg) (c : SaysY fa fn K) : Top PySem.Challenge.pw_signsheets_k27_whole_words_that_agree K mg where
  b_abs := He.free_ok X G (c.fact 0 (f := fun K => (He.Fa.free "abs").ok K) rfl)
  b_all := He.free_ok X G (c.fact 1 (f := fun K => (He.Fa.free "all").ok K) rfl)
  b_bool := He.free_ok X G (c.fact 2 (f := fun K => (He.Fa.free "bool").ok K) rfl)
  b_enumerate := He.free_ok X G (c.fact 3 (f := fun K => (He.Fa.free "enumerate").ok K) rfl)
  b_int := He.free_ok X G (c.fact 4 (f := fun K => (He.Fa.free "int").ok K) rfl)
  b_isinstance := He.free_ok X G (c.fact 5 (f := fun K => (He.Fa.free "isinstance").ok K) rfl)
  b_len := He.free_ok X G (c.fact 6 (f := fun K => (He.Fa.free "len").ok K) rfl)
  b_list := He.free_ok X G (c.fact 7 (f := fun K => (He.Fa.free "list").ok K) rfl)
  b_max := He.free_ok X G (c.fact 8 (f := fun K => (He.Fa.free "max").ok K) rfl)
  b_min := He.free_ok X G (c.fact 9 (f := fun K => (He.Fa.free "min").ok K) rfl)
  b_range := He.free_ok X G (c.fact 10 (f := fun K => (He.Fa.free "range").ok K) rfl)
  b_sorted := He.free_ok X G (c.fact 11 (f := fun K => (He.Fa.free "sorted").ok K) rfl)
  b_str := He.free_ok X G (c.fact 12 (f := fun K => (He.Fa.free "str").ok K) rfl)
  b_sum := He.free_ok X G (c.fact 13 (f := fun K => (He.Fa.free "sum").ok K) rfl)
  b_super := He.free_ok X G (c.fact 14 (f := fun K => (He.Fa.free "super").ok K) rfl)
  b_tuple := He.free_ok X G (c.fact 15 (f := fun K => (He.Fa.free "tuple").ok K) rfl)
  b_zip := He.free_ok X G (c.fact 16 (f := fun K => (He.Fa.free "zip").ok K) rfl)
  c_BLOCK := He.str_ok X G (c.fact 17 (f := fun K => (He.Fa.str "BLOCK" "block").ok K) rfl)
  c_LATER := He.str_ok X G (c.fact 18 (f := fun K => (He.Fa.str "LATER" "later").ok K) rfl)
  c_MOST_LENGTH := He.int_ok X G (c.fact 19 (f := fun K => (He.Fa.int "MOST_LENGTH" 5).ok K) rfl)
  c_MOST_RUNS := He.int_ok X G (c.fact 20 (f := fun K => (He.Fa.int "MOST_RUNS" 200).ok K) rfl)
  c_MOST_VALUE := He.int_ok X G (c.fact 21 (f := fun K => (He.Fa.int "MOST_VALUE" 60).ok K) rfl)
  c_NEXT := He.str_ok X G (c.fact 22 (f := fun K => (He.Fa.str "NEXT" "next").ok K) rfl)
  c_PLAIN := He.str_ok X G (c.fact 23 (f := fun K => (He.Fa.str "PLAIN" "plain").ok K) rfl)
  c_SINGLE := He.str_ok X G (c.fact 24 (f := fun K => (He.Fa.str "SINGLE" "single").ok K) rfl)
  cm_Rule_named := cmet_ok (c.fact 25 (f := fun K => cmetB K "Rule" "named") rfl)
  cm_System_of := cmet_ok (c.fact 26 (f := fun K => cmetB K "System" "of") rfl)
  e_InvalidLength_InvalidWord := exm_ok (c.fact 27 (f := fun K => exmB K "InvalidLength" "InvalidWord" false) rfl)
  e_InvalidValues_InvalidWord := exm_ok (c.fact 28 (f := fun K => exmB K "InvalidValues" "InvalidWord" false) rfl)
  e_InvalidWord_InvalidWord := exm_ok (c.fact 29 (f := fun K => exmB K "InvalidWord" "InvalidWord" true) rfl)
  f_Block_signs := fun_of (d := fn[14]) (c.def_ 14 rfl).1 (c.def_ 14 rfl).2 rfl
  f_Later_signs := (funS_of (d := fn[15]) (v := He.ga K "Later") (c.def_ 15 rfl).1 (c.def_ 15 rfl).2 rfl (c.fact 30 (f := fun K => cellB K (ccOf K (He.ma K (He.ga K "Later") "signs")) (He.ga K "Later")) rfl)).imp fun fd F => ⟨F, supF_of (P := PySem.Challenge.pw_signsheets_k27_whole_words_that_agree) (b := "Block") F (c.fact 31 (f := fun K => supB K PySem.Challenge.pw_signsheets_k27_whole_words_that_agree.main.file (He.ma K (He.ga K "Later") "signs") "Later" "signs" "Block") rfl) ⟨_, rfl, rfl⟩ (He.free_ok X G (c.fact 14 (f := fun K => (He.Fa.free "super").ok K) rfl)) (by kernel_rfl)⟩
  f_Next_signs := fun_of (d := fn[12]) (c.def_ 12 rfl).1 (c.def_ 12 rfl).2 rfl
  f_Plain_signs := fun_of (d := fn[11]) (c.def_ 11 rfl).1 (c.def_ 11 rfl).2 rfl
  f_Rule_named := fun_of (d := fn[4]) (c.def_ 4 rfl).1 (c.def_ 4 rfl).2 rfl
  f_Single_signs := (funS_of (d := fn[13]) (v := He.ga K "Single") (c.def_ 13 rfl).1 (c.def_ 13 rfl).2 rfl (c.fact 32 (f := fun K => cellB K (ccOf K (He.ma K (He.ga K "Single") "signs")) (He.ga K "Single")) rfl)).imp fun fd F => ⟨F, supF_of (P := PySem.Challenge.pw_signsheets_k27_whole_words_that_agree) (b := "Next") F (c.fact 33 (f := fun K => supB K PySem.Challenge.pw_signsheets_k27_whole_words_that_agree.main.file (He.ma K (He.ga K "Single") "signs") "Single" "signs" "Next") rfl) ⟨_, rfl, rfl⟩ (He.free_ok X G (c.fact 14 (f := fun K => (He.Fa.free "super").ok K) rfl)) (by kernel_rfl)⟩
  f_System___init__ := fun_of (d := fn[21]) (c.def_ 21 rfl).1 (c.def_ 21 rfl).2 rfl
  f_System_of := fun_of (d := fn[30]) (c.def_ 30 rfl).1 (c.def_ 30 rfl).2 rfl
  f_System_row := fun_of (d := fn[5]) (c.def_ 5 rfl).1 (c.def_ 5 rfl).2 rfl
  f_System_rule := fun_of (d := fn[6]) (c.def_ 6 rfl).1 (c.def_ 6 rfl).2 rfl
  f_System_with_rule := fun_of (d := fn[22]) (c.def_ 22 rfl).1 (c.def_ 22 rfl).2 rfl
  f_Tail___init__ := fun_of (d := fn[24]) (c.def_ 24 rfl).1 (c.def_ 24 rfl).2 rfl
  f_Tail_key := fun_of (d := fn[27]) (c.def_ 27 rfl).1 (c.def_ 27 rfl).2 rfl
  f_Tail_minus_by := fun_of (d := fn[25]) (c.def_ 25 rfl).1 (c.def_ 25 rfl).2 rfl
  f_Tail_with_sign := fun_of (d := fn[28]) (c.def_ 28 rfl).1 (c.def_ 28 rfl).2 rfl
  f__law_all_rows := fun_of (d := fn[1]) (c.def_ 1 rfl).1 (c.def_ 1 rfl).2 rfl
  f__law_dip := fun_of (d := fn[0]) (c.def_ 0 rfl).1 (c.def_ 0 rfl).2 rfl
  f__law_right := fun_of (d := fn[31]) (c.def_ 31 rfl).1 (c.def_ 31 rfl).2 rfl
  f__law_rule := fun_of (d := fn[32]) (c.def_ 32 rfl).1 (c.def_ 32 rfl).2 rfl
  f__law_runs := fun_of (d := fn[2]) (c.def_ 2 rfl).1 (c.def_ 2 rfl).2 rfl
  f__law_values := fun_of (d := fn[33]) (c.def_ 33 rfl).1 (c.def_ 33 rfl).2 rfl
  f__law_well := fun_of (d := fn[34]) (c.def_ 34 rfl).1 (c.def_ 34 rfl).2 rfl
  f_agree := fun_of (d := fn[23]) (c.def_ 23 rfl).1 (c.def_ 23 rfl).2 rfl
  f_are_runs := fun_of (d := fn[9]) (c.def_ 9 rfl).1 (c.def_ 9 rfl).2 rfl
  f_are_values := fun_of (d := fn[19]) (c.def_ 19 rfl).1 (c.def_ 19 rfl).2 rfl
  f_count_agreeing := fun_of (d := fn[29]) (c.def_ 29 rfl).1 (c.def_ 29 rfl).2 rfl
  f_fits_before := fun_of (d := fn[26]) (c.def_ 26 rfl).1 (c.def_ 26 rfl).2 rfl
  f_is_integer := fun_of (d := fn[7]) (c.def_ 7 rfl).1 (c.def_ 7 rfl).2 rfl
  f_is_rule := fun_of (d := fn[20]) (c.def_ 20 rfl).1 (c.def_ 20 rfl).2 rfl
  f_is_run := fun_of (d := fn[8]) (c.def_ 8 rfl).1 (c.def_ 8 rfl).2 rfl
  f_is_word := fun_of (d := fn[17]) (c.def_ 17 rfl).1 (c.def_ 17 rfl).2 rfl
  f_law := fun_of (d := fn[35]) (c.def_ 35 rfl).1 (c.def_ 35 rfl).2 rfl
  f_need_runs := fun_of (d := fn[10]) (c.def_ 10 rfl).1 (c.def_ 10 rfl).2 rfl
  f_rule_of := fun_of (d := fn[3]) (c.def_ 3 rfl).1 (c.def_ 3 rfl).2 rfl
  f_signs_of := fun_of (d := fn[16]) (c.def_ 16 rfl).1 (c.def_ 16 rfl).2 rfl
  f_value_of := fun_of (d := fn[18]) (c.def_ 18 rfl).1 (c.def_ 18 rfl).2 rfl
  g_Block := He.glo_ok X G (c.fact 34 (f := fun K => (He.Fa.glo "Block").ok K) rfl)
  g_InvalidLength := He.glo_ok X G (c.fact 35 (f := fun K => (He.Fa.glo "InvalidLength").ok K) rfl)
  g_InvalidValues := He.glo_ok X G (c.fact 36 (f := fun K => (He.Fa.glo "InvalidValues").ok K) rfl)
  g_InvalidWord := He.glo_ok X G (c.fact 37 (f := fun K => (He.Fa.glo "InvalidWord").ok K) rfl)
  g_Later := He.glo_ok X G (c.fact 38 (f := fun K => (He.Fa.glo "Later").ok K) rfl)
  g_Next := He.glo_ok X G (c.fact 39 (f := fun K => (He.Fa.glo "Next").ok K) rfl)
  g_Plain := He.glo_ok X G (c.fact 40 (f := fun K => (He.Fa.glo "Plain").ok K) rfl)
  g_Rule := He.glo_ok X G (c.fact 41 (f := fun K => (He.Fa.glo "Rule").ok K) rfl)
  g_Single := He.glo_ok X G (c.fact 42 (f := fun K => (He.Fa.glo "Single").ok K) rfl)
  g_System := He.glo_ok X G (c.fact 43 (f := fun K => (He.Fa.glo "System").ok K) rfl)
  g_Tail := He.glo_ok X G (c.fact 44 (f := fun K => (He.Fa.glo "Tail").ok K) rfl)
  g__law_all_rows := He.glo_ok X G (c.fact 45 (f := fun K => (He.Fa.glo "_law_all_rows").ok K) rfl)
  g__law_dip := He.glo_ok X G (c.fact 46 (f := fun K => (He.Fa.glo "_law_dip").ok K) rfl)
  g__law_right := He.glo_ok X G (c.fact 47 (f := fun K => (He.Fa.glo "_law_right").ok K) rfl)
  g__law_rule := He.glo_ok X G (c.fact 48 (f := fun K => (He.Fa.glo "_law_rule").ok K) rfl)
  g__law_runs := He.glo_ok X G (c.fact 49 (f := fun K => (He.Fa.glo "_law_runs").ok K) rfl)
  g__law_values := He.glo_ok X G (c.fact 50 (f := fun K => (He.Fa.glo "_law_values").ok K) rfl)
  g__law_well := He.glo_ok X G (c.fact 51 (f := fun K => (He.Fa.glo "_law_well").ok K) rfl)
  g_agree := He.glo_ok X G (c.fact 52 (f := fun K => (He.Fa.glo "agree").ok K) rfl)
  g_are_runs := He.glo_ok X G (c.fact 53 (f := fun K => (He.Fa.glo "are_runs").ok K) rfl)
  g_are_values := He.glo_ok X G (c.fact 54 (f := fun K => (He.Fa.glo "are_values").ok K) rfl)
  g_count_agreeing := He.glo_ok X G (c.fact 55 (f := fun K => (He.Fa.glo "count_agreeing").ok K) rfl)
  g_fits_before := He.glo_ok X G (c.fact 56 (f := fun K => (He.Fa.glo "fits_before").ok K) rfl)
  g_is_integer := He.glo_ok X G (c.fact 57 (f := fun K => (He.Fa.glo "is_integer").ok K) rfl)
  g_is_rule := He.glo_ok X G (c.fact 58 (f := fun K => (He.Fa.glo "is_rule").ok K) rfl)
  g_is_run := He.glo_ok X G (c.fact 59 (f := fun K => (He.Fa.glo "is_run").ok K) rfl)
  g_is_word := He.glo_ok X G (c.fact 60 (f := fun K => (He.Fa.glo "is_word").ok K) rfl)
  g_law := He.glo_ok X G (c.fact 61 (f := fun K => (He.Fa.glo "law").ok K) rfl)
  g_need_runs := He.glo_ok X G (c.fact 62 (f := fun K => (He.Fa.glo "need_runs").ok K) rfl)
  g_rule_of := He.glo_ok X G (c.fact 63 (f := fun K => (He.Fa.glo "rule_of").ok K) rfl)
  g_signs_of := He.glo_ok X G (c.fact 64 (f := fun K => (He.Fa.glo "signs_of").ok K) rfl)
  g_value_of := He.glo_ok X G (c.fact 65 (f := fun K => (He.Fa.glo "value_of").ok K) rfl)
  k_Block := He.cls_ok (c.fact 66 (f := fun K => (He.Fa.cls "Block").ok K) rfl)
  k_Later := He.cls_ok (c.fact 67 (f := fun K => (He.Fa.cls "Later").ok K) rfl)
  k_Next := He.cls_ok (c.fact 68 (f := fun K => (He.Fa.cls "Next").ok K) rfl)
  k_Plain := He.cls_ok (c.fact 69 (f := fun K => (He.Fa.cls "Plain").ok K) rfl)
  k_Single := He.cls_ok (c.fact 70 (f := fun K => (He.Fa.cls "Single").ok K) rfl)
  k_System := He.cls_ok (c.fact 71 (f := fun K => (He.Fa.cls "System").ok K) rfl)
  k_Tail := He.cls_ok (c.fact 72 (f := fun K => (He.Fa.cls "Tail").ok K) rfl)
  kp_Rule := He.keep_ok (c.fact 73 (f := fun K => (He.Fa.keep "Rule").ok K) rfl)
  kp_System := He.keep_ok (c.fact 74 (f := fun K => (He.Fa.keep "System").ok K) rfl)
  mk_System := mk_ok (c.fact 75 (f := fun K => mkB K "System" "System") rfl)
  mk_Tail := mk_ok (c.fact 76 (f := fun K => mkB K "Tail" "Tail") rfl)
  na_System_held_rule := noat_ok (c.fact 77 (f := fun K => noatB K "System" "held_rule") rfl)
  na_System_held_values := noat_ok (c.fact 78 (f := fun K => noatB K "System" "held_values") rfl)
  na_Tail_block_minus := noat_ok (c.fact 79 (f := fun K => noatB K "Tail" "block_minus") rfl)
  na_Tail_first_sign := noat_ok (c.fact 80 (f := fun K => noatB K "Tail" "first_sign") rfl)
  na_Tail_next_minus := noat_ok (c.fact 81 (f := fun K => noatB K "Tail" "next_minus") rfl)
  na_Tail_top := noat_ok (c.fact 82 (f := fun K => noatB K "Tail" "top") rfl)
  o_Rule_ALL := con_ok (c.fact 83 (f := fun K => creadB K "Rule") rfl) (c.fact 84 (f := fun K => conB K "Rule" "ALL" ["plain", "single", "next", "block", "later"]) rfl)
  o_System_MOST := conI_ok (c.fact 85 (f := fun K => creadB K "System") rfl) (c.fact 86 (f := fun K => conIB K "System" "MOST" 6) rfl)
  p_Block := mk0_ok (c.fact 87 (f := fun K => mk0B K "Block") rfl)
  p_Later := mk0_ok (c.fact 88 (f := fun K => mk0B K "Later") rfl)
  p_Next := mk0_ok (c.fact 89 (f := fun K => mk0B K "Next") rfl)
  p_Plain := mk0_ok (c.fact 90 (f := fun K => mk0B K "Plain") rfl)
  p_Single := mk0_ok (c.fact 91 (f := fun K => mk0B K "Single") rfl)
  pr_System_row := prop_ok (c.fact 92 (f := fun K => propB K "System" "row" "System") rfl)
  pr_System_rule := prop_ok (c.fact 93 (f := fun K => propB K "System" "rule" "System") rfl)
  r_Rule := cread_ok (c.fact 83 (f := fun K => creadB K "Rule") rfl)
  r_System := cread_ok (c.fact 85 (f := fun K => creadB K "System") rfl)
  t_Block_signs := methB_ok (c.fact 94 (f := fun K => methB K "Block" "signs" "Block") rfl)
  t_Later_signs := methB_ok (c.fact 95 (f := fun K => methB K "Later" "signs" "Later") rfl)
  t_Next_signs := methB_ok (c.fact 96 (f := fun K => methB K "Next" "signs" "Next") rfl)
  t_Plain_signs := methB_ok (c.fact 97 (f := fun K => methB K "Plain" "signs" "Plain") rfl)
  t_Single_signs := methB_ok (c.fact 98 (f := fun K => methB K "Single" "signs" "Single") rfl)
  t_System_with_rule := methB_ok (c.fact 99 (f := fun K => methB K "System" "with_rule" "System") rfl)
  t_Tail_key := methB_ok (c.fact 100 (f := fun K => methB K "Tail" "key" "Tail") rfl)
  t_Tail_minus_by := methB_ok (c.fact 101 (f := fun K => methB K "Tail" "minus_by" "Tail") rfl)
  t_Tail_with_sign := methB_ok (c.fact 102 (f := fun K => methB K "Tail" "with_sign" "Tail") rfl)
  x_InvalidLength := xf_ok (He.glo_ok X G (c.fact 35 (f := fun K => (He.Fa.glo "InvalidLength").ok K) rfl)) (c.fact 103 (f := fun K => (He.Fa.exc "InvalidLength").ok K) rfl)
  x_InvalidValues := xf_ok (He.glo_ok X G (c.fact 36 (f := fun K => (He.Fa.glo "InvalidValues").ok K) rfl)) (c.fact 104 (f := fun K => (He.Fa.exc "InvalidValues").ok K) rfl)
  x_InvalidWord := xf_ok (He.glo_ok X G (c.fact 37 (f := fun K => (He.Fa.glo "InvalidWord").ok K) rfl)) (c.fact 105 (f := fun K => (He.Fa.exc "InvalidWord").ok K) rfl)
end Sg
set_option Elab.async false
set_option linter.all false
set_option maxRecDepth 100000
set_option maxHeartbeats 1000000
namespace Sg
open PySem L2
variable {K : PySem.W.Frag}
inductive Kd where
  | plain | single | next | block | later
  deriving DecidableEq
def Kd.s : Kd → Str
  | .plain => "plain" | .single => "single" | .next => "next" | .block => "block" | .later => "later"
def Kd.c : Kd → Str
  | .plain => "Plain" | .single => "Single" | .next => "Next" | .block => "Block" | .later => "Later"
theorem kdS_block (k : Kd) : decide (k.s = ("block" : Str)) = decide (k = .block) := by cases k <;> decide +kernel
theorem kd_block (k : Kd) : (oEq (K := K)).f (.str k.s) (.str "block") = some (.bl (decide (k = .block))) := by
  rw [oEq_s _ _ (by cases k <;> decide +kernel) (by decide +kernel), kdS_block]
theorem kdS_later (k : Kd) : decide (k.s = ("later" : Str)) = decide (k = .later) := by cases k <;> decide +kernel
theorem kd_later (k : Kd) : (oEq (K := K)).f (.str k.s) (.str "later") = some (.bl (decide (k = .later))) := by
  rw [oEq_s _ _ (by cases k <;> decide +kernel) (by decide +kernel), kdS_later]
end Sg
set_option Elab.async false
set_option linter.all false
set_option maxRecDepth 100000
set_option maxHeartbeats 1000000
namespace Sg
open PySem L2
variable {K : PySem.W.Frag}
local macro_rules | `(tactic| trivial) => `(tactic| simp -implicitDefEqProofs (disch := omega) only [*, mC_m, mVar_m, mLook_m, mLet_m, mNil_m, msNil_m, msSeq_m, msAsgF_m, msDrop_m, msRet_m, msRetF_m, msRaise_m, msFor_m, mtYes_m, mLc_m, mcNil_m, mcCel_m, mCall_m, moNone_m, moSome_m, mSlL_m, mBi_m, mBiF_m, miList_m, miTup_m, miRng1_m, miEnum_m, miZip_m, mMeth_m, msSet_m, mCat_m, mRepeat_m, mChain_m, mIsi_m, mRev_m, mListRng_m, mCallF_m, msParVV_m, mMethD_m, mNew_m, mCMeth_m, mConC_m, msTry_m, mSup_m, okE_some, okE_none, opE_ok, opE_ex, opF_ok, opF_ex, mOp_e, mIx_e, unE_ok, mUn_e, coE_ok, coE_ex, coF_ok, coF_ex, mCons_e, bindAE_ok, bindAE_ex, mTup_e, tupF_e, mFr_e, lstF_ok, mLst_e, tsE_ok, tsE_ex, mTest_e, okT_some, truE_ok, truE_ex, mTru_e, anE_t, anE_f, anE_ok, orE_t, orE_f, orE_ok, mAnd_e, mOr_e, noE_ok, noE_ex, mNot_e, blV_ok, blV_ex, anV_t, anV_f, anV_ok, orV_t, orV_f, orV_ok, mAndV_e, mOrV_e, noV_ok, noV_ex, mNotV_e, ifV_t, ifV_f, ifV_ok, mIf_e, ifS_t, ifS_f, ifS_ok, ifS_ex, msIf_e, nxO_some, asE_ok, asE_ex, msAsg_e, gcE_some, mgCons_e, mgNil_e, mgTup_e, mgName_e, cvE_ok, cvE_ex, consC_ok, mcVal_e, thenS_nx, thenS_bk, thenS_ct, thenS_rt, thenS_ex, bindES_ok, bindES_ex, bindAS_ok, bindAS_ex, bindE_ok, bindE_ex, mfOf_e, mfOf0_e, noX_val, noX_cel, coM_some, fin_val, fin_cel, fin_nx, fin_ex, oAdd_i, oSub_i, oMul_l, oMul_r, oMod_i, oDiv_i, oPow_i, oLt_i, oLe_i, oGt_i, oGe_i, oEqI_i, oIx_l, oIx_f, oIx_t, at1_0, at2_0, at2_1, at3_0, at3_1, at3_2, at4_0, at4_1, at4_2, at4_3, ix3_0, ix3_1, ix3_2, oMax2_i, oMin2_i, oAbs_i, oInt_b, oLen_l, oLen_f, oLen_t, oNeg_i, truU_i, truU_l, truU_b, truU_n, lstU_l, lstU_f, oAppend_u, lstF_0, tupF_0, lstF_1, tupF_1, lstF_2, tupF_2, lstF_3, tupF_3, lstF_4, tupF_4, lstF_5, tupF_5, lstF_6, tupF_6, isi_NoneType_bool, isi_NoneType_int, isi_NoneType_str, isi_NoneType_list, isi_NoneType_tuple, isi_NoneType_dict, isi_bool_bool, isi_bool_int, isi_bool_str, isi_bool_list, isi_bool_tuple, isi_bool_dict, isi_int_bool, isi_int_int, isi_int_str, isi_int_list, isi_int_tuple, isi_int_dict, isi_str_bool, isi_str_int, isi_str_str, isi_str_list, isi_str_tuple, isi_str_dict, isi_list_bool, isi_list_int, isi_list_str, isi_list_list, isi_list_tuple, isi_list_dict, isi_tuple_bool, isi_tuple_int, isi_tuple_str, isi_tuple_list, isi_tuple_tuple, isi_tuple_dict, isi_dict_bool, isi_dict_int, isi_dict_str, isi_dict_list, isi_dict_tuple, isi_dict_dict, tyU_n, tyU_b, tyU_i, tyU_s, tyU_l, tyU_t, rngOk_i, zipU_map, intsU_map, blsU_map, oAll_l, oSum_l, cutU_1, cutU_m1, drop_map, reverse_map, length_map', dropLast_map, oEq_i, oNe_i, oEq_b, oNe_b, oEq_nn, oNe_nn, oEq_tt, oNe_tt, oEq_tn, oNe_tn, oEq_nt, oNe_nt, oEq_pp, oNe_pp, oEq_ii, oNe_ii, List.zip_cons_cons, List.zip_nil_left, mCallF_m, oMul_s, oPowX_i, mMakeS_m, mMakeL_m, mFld_m, mProp_m, mnSeq_m, mnS_m, mnF_m, at0_e, allX_const, seqU_l, seqU_f, seqU_t, pm_nil, pm_cons, List.mem_singleton, and_self, scV_b, scV_i, scV_s, scV_n, Option.isSome_some, tyU_d, mgTup_2, mgTup_3, mgTup_4, or_false, false_or, or_self, or_true, true_or, Nat.reduceBEq, bindEA_ok, bindEA_ex, unown, kills, cellAt, List.map_cons, List.map_nil, List.length_cons, List.length_nil, List.cons_append, List.nil_append, List.replicate, List.getElem?_cons_succ, List.getElem?_cons_zero, List.set_cons_zero, List.set_cons_succ, Option.map_some, Option.map_none, Option.bind_some, Option.bind_none, Nat.reduceAdd, Nat.reduceSub, Nat.reduceLeDiff, Int.reduceLT, Int.reduceLE, Int.reduceNeg, Int.reduceToNat, Int.reducePow, decide_eq_true_eq, reduceIte, eq_self, ite_true, ite_false, Bool.false_eq_true, reduceCtorEq, resolve, celJ, nCel, Slot.isC, List.filter, putJ, callM, callMF, List.append_eq, Nat.reduceLT, Int.reduceMul, Int.reduceAdd, Int.reduceSub, ne_eq, not_true_eq_false, not_false_eq_true, Bool.not_false, Bool.not_true, decide_true, decide_false, frF, Int.cast_ofNat_Int, Bool.and_true, Bool.true_and, Bool.false_and, Bool.and_false, Bool.or_false, Bool.false_or, Bool.true_or, Bool.or_true])
local macro_rules | `(tactic| ac_rfl) => `(tactic| (simp -implicitDefEqProofs (disch := omega) only [*, mC_m, mVar_m, mLook_m, mLet_m, mNil_m, msNil_m, msSeq_m, msAsgF_m, msDrop_m, msRet_m, msRetF_m, msRaise_m, msFor_m, mtYes_m, mLc_m, mcNil_m, mcCel_m, mCall_m, moNone_m, moSome_m, mSlL_m, mBi_m, mBiF_m, miList_m, miTup_m, miRng1_m, miEnum_m, miZip_m, mMeth_m, msSet_m, mCat_m, mRepeat_m, mChain_m, mIsi_m, mRev_m, mListRng_m, mCallF_m, msParVV_m, mMethD_m, mNew_m, mCMeth_m, mConC_m, msTry_m, mSup_m, okE_some, okE_none, opE_ok, opE_ex, opF_ok, opF_ex, mOp_e, mIx_e, unE_ok, mUn_e, coE_ok, coE_ex, coF_ok, coF_ex, mCons_e, bindAE_ok, bindAE_ex, mTup_e, tupF_e, mFr_e, lstF_ok, mLst_e, tsE_ok, tsE_ex, mTest_e, okT_some, truE_ok, truE_ex, mTru_e, anE_t, anE_f, anE_ok, orE_t, orE_f, orE_ok, mAnd_e, mOr_e, noE_ok, noE_ex, mNot_e, blV_ok, blV_ex, anV_t, anV_f, anV_ok, orV_t, orV_f, orV_ok, mAndV_e, mOrV_e, noV_ok, noV_ex, mNotV_e, ifV_t, ifV_f, ifV_ok, mIf_e, ifS_t, ifS_f, ifS_ok, ifS_ex, msIf_e, nxO_some, asE_ok, asE_ex, msAsg_e, gcE_some, mgCons_e, mgNil_e, mgTup_e, mgName_e, cvE_ok, cvE_ex, consC_ok, mcVal_e, thenS_nx, thenS_bk, thenS_ct, thenS_rt, thenS_ex, bindES_ok, bindES_ex, bindAS_ok, bindAS_ex, bindE_ok, bindE_ex, mfOf_e, mfOf0_e, noX_val, noX_cel, coM_some, fin_val, fin_cel, fin_nx, fin_ex, oAdd_i, oSub_i, oMul_l, oMul_r, oMod_i, oDiv_i, oPow_i, oLt_i, oLe_i, oGt_i, oGe_i, oEqI_i, oIx_l, oIx_f, oIx_t, at1_0, at2_0, at2_1, at3_0, at3_1, at3_2, at4_0, at4_1, at4_2, at4_3, ix3_0, ix3_1, ix3_2, oMax2_i, oMin2_i, oAbs_i, oInt_b, oLen_l, oLen_f, oLen_t, oNeg_i, truU_i, truU_l, truU_b, truU_n, lstU_l, lstU_f, oAppend_u, lstF_0, tupF_0, lstF_1, tupF_1, lstF_2, tupF_2, lstF_3, tupF_3, lstF_4, tupF_4, lstF_5, tupF_5, lstF_6, tupF_6, isi_NoneType_bool, isi_NoneType_int, isi_NoneType_str, isi_NoneType_list, isi_NoneType_tuple, isi_NoneType_dict, isi_bool_bool, isi_bool_int, isi_bool_str, isi_bool_list, isi_bool_tuple, isi_bool_dict, isi_int_bool, isi_int_int, isi_int_str, isi_int_list, isi_int_tuple, isi_int_dict, isi_str_bool, isi_str_int, isi_str_str, isi_str_list, isi_str_tuple, isi_str_dict, isi_list_bool, isi_list_int, isi_list_str, isi_list_list, isi_list_tuple, isi_list_dict, isi_tuple_bool, isi_tuple_int, isi_tuple_str, isi_tuple_list, isi_tuple_tuple, isi_tuple_dict, isi_dict_bool, isi_dict_int, isi_dict_str, isi_dict_list, isi_dict_tuple, isi_dict_dict, tyU_n, tyU_b, tyU_i, tyU_s, tyU_l, tyU_t, rngOk_i, zipU_map, intsU_map, blsU_map, oAll_l, oSum_l, cutU_1, cutU_m1, drop_map, reverse_map, length_map', dropLast_map, oEq_i, oNe_i, oEq_b, oNe_b, oEq_nn, oNe_nn, oEq_tt, oNe_tt, oEq_tn, oNe_tn, oEq_nt, oNe_nt, oEq_pp, oNe_pp, oEq_ii, oNe_ii, List.zip_cons_cons, List.zip_nil_left, mCallF_m, oMul_s, oPowX_i, mMakeS_m, mMakeL_m, mFld_m, mProp_m, mnSeq_m, mnS_m, mnF_m, at0_e, allX_const, seqU_l, seqU_f, seqU_t, pm_nil, pm_cons, List.mem_singleton, and_self, scV_b, scV_i, scV_s, scV_n, Option.isSome_some, tyU_d, mgTup_2, mgTup_3, mgTup_4, or_false, false_or, or_self, or_true, true_or, Nat.reduceBEq, bindEA_ok, bindEA_ex, unown, kills, cellAt, List.map_cons, List.map_nil, List.length_cons, List.length_nil, List.cons_append, List.nil_append, List.replicate, List.getElem?_cons_succ, List.getElem?_cons_zero, List.set_cons_zero, List.set_cons_succ, Option.map_some, Option.map_none, Option.bind_some, Option.bind_none, Nat.reduceAdd, Nat.reduceSub, Nat.reduceLeDiff, Int.reduceLT, Int.reduceLE, Int.reduceNeg, Int.reduceToNat, Int.reducePow, decide_eq_true_eq, reduceIte, eq_self, ite_true, ite_false, Bool.false_eq_true, reduceCtorEq, resolve, celJ, nCel, Slot.isC, List.filter, putJ, callM, callMF, List.append_eq, Nat.reduceLT, Int.reduceMul, Int.reduceAdd, Int.reduceSub, ne_eq, not_true_eq_false, not_false_eq_true, Bool.not_false, Bool.not_true, decide_true, decide_false, frF, Int.cast_ofNat_Int, Bool.and_true, Bool.true_and, Bool.false_and, Bool.and_false, Bool.or_false, Bool.false_or, Bool.true_or, Bool.or_true, G__law_all_rows_0, T__law_all_rows_1, E__law_all_rows_2, G__law_all_rows_3, G__law_all_rows_5, G__law_runs_0, G_is_run_0, T_is_run_1, E_is_run_2, G_are_runs_0, T_are_runs_1, E_are_runs_2, G_are_runs_3, T_are_runs_4, E_are_runs_5, G_Plain_signs_0, T_Plain_signs_1, E_Plain_signs_2, G_Next_signs_0, G_Single_signs_0, G_Block_signs_0, G_Later_signs_0, G_signs_of_0, T_signs_of_1, E_signs_of_2, G_value_of_0, T_value_of_1, E_value_of_2, G_are_values_0, T_are_values_1, E_are_values_2, G_are_values_3, T_are_values_4, E_are_values_5, G_count_agreeing_0, T_count_agreeing_1, E_count_agreeing_2, E_count_agreeing_3, G_count_agreeing_4, G_count_agreeing_6, G_count_agreeing_8, G__law_right_0, T__law_right_1, E__law_right_2, G__law_right_3, T__law_right_4, E__law_right_5, G__law_right_6, T__law_right_7, E__law_right_8, G__law_right_9, T__law_right_10, E__law_right_11, G__law_right_12, G__law_right_14, T__law_right_15, E__law_right_16, G__law_right_17, G__law_values_0, T__law_values_1, E__law_values_2, G_law_0]; try rfl))
theorem is_integer_i (i l : Int) : mf_is_integer K [.val (.int i), .val (.int l)] = some (.val (.bl (decide (l ≤ i))) none) := by
  unfold mf_is_integer M_is_integer
  trivial
theorem all_true {α : Type} (xs : List α) : (oAll (K := K)).f [.lst (xs.map fun _ => U.bl true)] = some (.bl true) := by
  have z := oAll_l (K := K) (xs.map fun _ => true)
  rw [List.map_map] at z
  rw [show (xs.map fun _ => U.bl true) = xs.map (U.bl ∘ fun _ => true) from rfl, z]
  simp
end Sg
set_option Elab.async false
set_option linter.all false
set_option maxRecDepth 100000
set_option maxHeartbeats 1000000
namespace Sg
open PySem L2
variable {K : PySem.W.Frag}
local macro_rules | `(tactic| trivial) => `(tactic| simp -implicitDefEqProofs (disch := omega) only [*, mC_m, mVar_m, mLook_m, mLet_m, mNil_m, msNil_m, msSeq_m, msAsgF_m, msDrop_m, msRet_m, msRetF_m, msRaise_m, msFor_m, mtYes_m, mLc_m, mcNil_m, mcCel_m, mCall_m, moNone_m, moSome_m, mSlL_m, mBi_m, mBiF_m, miList_m, miTup_m, miRng1_m, miEnum_m, miZip_m, mMeth_m, msSet_m, mCat_m, mRepeat_m, mChain_m, mIsi_m, mRev_m, mListRng_m, mCallF_m, msParVV_m, mMethD_m, mNew_m, mCMeth_m, mConC_m, msTry_m, mSup_m, okE_some, okE_none, opE_ok, opE_ex, opF_ok, opF_ex, mOp_e, mIx_e, unE_ok, mUn_e, coE_ok, coE_ex, coF_ok, coF_ex, mCons_e, bindAE_ok, bindAE_ex, mTup_e, tupF_e, mFr_e, lstF_ok, mLst_e, tsE_ok, tsE_ex, mTest_e, okT_some, truE_ok, truE_ex, mTru_e, anE_t, anE_f, anE_ok, orE_t, orE_f, orE_ok, mAnd_e, mOr_e, noE_ok, noE_ex, mNot_e, blV_ok, blV_ex, anV_t, anV_f, anV_ok, orV_t, orV_f, orV_ok, mAndV_e, mOrV_e, noV_ok, noV_ex, mNotV_e, ifV_t, ifV_f, ifV_ok, mIf_e, ifS_t, ifS_f, ifS_ok, ifS_ex, msIf_e, nxO_some, asE_ok, asE_ex, msAsg_e, gcE_some, mgCons_e, mgNil_e, mgTup_e, mgName_e, cvE_ok, cvE_ex, consC_ok, mcVal_e, thenS_nx, thenS_bk, thenS_ct, thenS_rt, thenS_ex, bindES_ok, bindES_ex, bindAS_ok, bindAS_ex, bindE_ok, bindE_ex, mfOf_e, mfOf0_e, noX_val, noX_cel, coM_some, fin_val, fin_cel, fin_nx, fin_ex, oAdd_i, oSub_i, oMul_l, oMul_r, oMod_i, oDiv_i, oPow_i, oLt_i, oLe_i, oGt_i, oGe_i, oEqI_i, oIx_l, oIx_f, oIx_t, at1_0, at2_0, at2_1, at3_0, at3_1, at3_2, at4_0, at4_1, at4_2, at4_3, ix3_0, ix3_1, ix3_2, oMax2_i, oMin2_i, oAbs_i, oInt_b, oLen_l, oLen_f, oLen_t, oNeg_i, truU_i, truU_l, truU_b, truU_n, lstU_l, lstU_f, oAppend_u, lstF_0, tupF_0, lstF_1, tupF_1, lstF_2, tupF_2, lstF_3, tupF_3, lstF_4, tupF_4, lstF_5, tupF_5, lstF_6, tupF_6, isi_NoneType_bool, isi_NoneType_int, isi_NoneType_str, isi_NoneType_list, isi_NoneType_tuple, isi_NoneType_dict, isi_bool_bool, isi_bool_int, isi_bool_str, isi_bool_list, isi_bool_tuple, isi_bool_dict, isi_int_bool, isi_int_int, isi_int_str, isi_int_list, isi_int_tuple, isi_int_dict, isi_str_bool, isi_str_int, isi_str_str, isi_str_list, isi_str_tuple, isi_str_dict, isi_list_bool, isi_list_int, isi_list_str, isi_list_list, isi_list_tuple, isi_list_dict, isi_tuple_bool, isi_tuple_int, isi_tuple_str, isi_tuple_list, isi_tuple_tuple, isi_tuple_dict, isi_dict_bool, isi_dict_int, isi_dict_str, isi_dict_list, isi_dict_tuple, isi_dict_dict, tyU_n, tyU_b, tyU_i, tyU_s, tyU_l, tyU_t, rngOk_i, zipU_map, intsU_map, blsU_map, oAll_l, oSum_l, cutU_1, cutU_m1, drop_map, reverse_map, length_map', dropLast_map, oEq_i, oNe_i, oEq_b, oNe_b, oEq_nn, oNe_nn, oEq_tt, oNe_tt, oEq_tn, oNe_tn, oEq_nt, oNe_nt, oEq_pp, oNe_pp, oEq_ii, oNe_ii, List.zip_cons_cons, List.zip_nil_left, mCallF_m, oMul_s, oPowX_i, mMakeS_m, mMakeL_m, mFld_m, mProp_m, mnSeq_m, mnS_m, mnF_m, at0_e, allX_const, seqU_l, seqU_f, seqU_t, pm_nil, pm_cons, List.mem_singleton, and_self, scV_b, scV_i, scV_s, scV_n, Option.isSome_some, tyU_d, mgTup_2, mgTup_3, mgTup_4, or_false, false_or, or_self, or_true, true_or, Nat.reduceBEq, bindEA_ok, bindEA_ex, unown, kills, cellAt, List.map_cons, List.map_nil, List.length_cons, List.length_nil, List.cons_append, List.nil_append, List.replicate, List.getElem?_cons_succ, List.getElem?_cons_zero, List.set_cons_zero, List.set_cons_succ, Option.map_some, Option.map_none, Option.bind_some, Option.bind_none, Nat.reduceAdd, Nat.reduceSub, Nat.reduceLeDiff, Int.reduceLT, Int.reduceLE, Int.reduceNeg, Int.reduceToNat, Int.reducePow, decide_eq_true_eq, reduceIte, eq_self, ite_true, ite_false, Bool.false_eq_true, reduceCtorEq, resolve, celJ, nCel, Slot.isC, List.filter, putJ, callM, callMF, List.append_eq, Nat.reduceLT, Int.reduceMul, Int.reduceAdd, Int.reduceSub, ne_eq, not_true_eq_false, not_false_eq_true, Bool.not_false, Bool.not_true, decide_true, decide_false, frF, Int.cast_ofNat_Int, Bool.and_true, Bool.true_and, Bool.false_and, Bool.and_false, Bool.or_false, Bool.false_or, Bool.true_or, Bool.or_true])
local macro_rules | `(tactic| ac_rfl) => `(tactic| (simp -implicitDefEqProofs (disch := omega) only [*, mC_m, mVar_m, mLook_m, mLet_m, mNil_m, msNil_m, msSeq_m, msAsgF_m, msDrop_m, msRet_m, msRetF_m, msRaise_m, msFor_m, mtYes_m, mLc_m, mcNil_m, mcCel_m, mCall_m, moNone_m, moSome_m, mSlL_m, mBi_m, mBiF_m, miList_m, miTup_m, miRng1_m, miEnum_m, miZip_m, mMeth_m, msSet_m, mCat_m, mRepeat_m, mChain_m, mIsi_m, mRev_m, mListRng_m, mCallF_m, msParVV_m, mMethD_m, mNew_m, mCMeth_m, mConC_m, msTry_m, mSup_m, okE_some, okE_none, opE_ok, opE_ex, opF_ok, opF_ex, mOp_e, mIx_e, unE_ok, mUn_e, coE_ok, coE_ex, coF_ok, coF_ex, mCons_e, bindAE_ok, bindAE_ex, mTup_e, tupF_e, mFr_e, lstF_ok, mLst_e, tsE_ok, tsE_ex, mTest_e, okT_some, truE_ok, truE_ex, mTru_e, anE_t, anE_f, anE_ok, orE_t, orE_f, orE_ok, mAnd_e, mOr_e, noE_ok, noE_ex, mNot_e, blV_ok, blV_ex, anV_t, anV_f, anV_ok, orV_t, orV_f, orV_ok, mAndV_e, mOrV_e, noV_ok, noV_ex, mNotV_e, ifV_t, ifV_f, ifV_ok, mIf_e, ifS_t, ifS_f, ifS_ok, ifS_ex, msIf_e, nxO_some, asE_ok, asE_ex, msAsg_e, gcE_some, mgCons_e, mgNil_e, mgTup_e, mgName_e, cvE_ok, cvE_ex, consC_ok, mcVal_e, thenS_nx, thenS_bk, thenS_ct, thenS_rt, thenS_ex, bindES_ok, bindES_ex, bindAS_ok, bindAS_ex, bindE_ok, bindE_ex, mfOf_e, mfOf0_e, noX_val, noX_cel, coM_some, fin_val, fin_cel, fin_nx, fin_ex, oAdd_i, oSub_i, oMul_l, oMul_r, oMod_i, oDiv_i, oPow_i, oLt_i, oLe_i, oGt_i, oGe_i, oEqI_i, oIx_l, oIx_f, oIx_t, at1_0, at2_0, at2_1, at3_0, at3_1, at3_2, at4_0, at4_1, at4_2, at4_3, ix3_0, ix3_1, ix3_2, oMax2_i, oMin2_i, oAbs_i, oInt_b, oLen_l, oLen_f, oLen_t, oNeg_i, truU_i, truU_l, truU_b, truU_n, lstU_l, lstU_f, oAppend_u, lstF_0, tupF_0, lstF_1, tupF_1, lstF_2, tupF_2, lstF_3, tupF_3, lstF_4, tupF_4, lstF_5, tupF_5, lstF_6, tupF_6, isi_NoneType_bool, isi_NoneType_int, isi_NoneType_str, isi_NoneType_list, isi_NoneType_tuple, isi_NoneType_dict, isi_bool_bool, isi_bool_int, isi_bool_str, isi_bool_list, isi_bool_tuple, isi_bool_dict, isi_int_bool, isi_int_int, isi_int_str, isi_int_list, isi_int_tuple, isi_int_dict, isi_str_bool, isi_str_int, isi_str_str, isi_str_list, isi_str_tuple, isi_str_dict, isi_list_bool, isi_list_int, isi_list_str, isi_list_list, isi_list_tuple, isi_list_dict, isi_tuple_bool, isi_tuple_int, isi_tuple_str, isi_tuple_list, isi_tuple_tuple, isi_tuple_dict, isi_dict_bool, isi_dict_int, isi_dict_str, isi_dict_list, isi_dict_tuple, isi_dict_dict, tyU_n, tyU_b, tyU_i, tyU_s, tyU_l, tyU_t, rngOk_i, zipU_map, intsU_map, blsU_map, oAll_l, oSum_l, cutU_1, cutU_m1, drop_map, reverse_map, length_map', dropLast_map, oEq_i, oNe_i, oEq_b, oNe_b, oEq_nn, oNe_nn, oEq_tt, oNe_tt, oEq_tn, oNe_tn, oEq_nt, oNe_nt, oEq_pp, oNe_pp, oEq_ii, oNe_ii, List.zip_cons_cons, List.zip_nil_left, mCallF_m, oMul_s, oPowX_i, mMakeS_m, mMakeL_m, mFld_m, mProp_m, mnSeq_m, mnS_m, mnF_m, at0_e, allX_const, seqU_l, seqU_f, seqU_t, pm_nil, pm_cons, List.mem_singleton, and_self, scV_b, scV_i, scV_s, scV_n, Option.isSome_some, tyU_d, mgTup_2, mgTup_3, mgTup_4, or_false, false_or, or_self, or_true, true_or, Nat.reduceBEq, bindEA_ok, bindEA_ex, unown, kills, cellAt, List.map_cons, List.map_nil, List.length_cons, List.length_nil, List.cons_append, List.nil_append, List.replicate, List.getElem?_cons_succ, List.getElem?_cons_zero, List.set_cons_zero, List.set_cons_succ, Option.map_some, Option.map_none, Option.bind_some, Option.bind_none, Nat.reduceAdd, Nat.reduceSub, Nat.reduceLeDiff, Int.reduceLT, Int.reduceLE, Int.reduceNeg, Int.reduceToNat, Int.reducePow, decide_eq_true_eq, reduceIte, eq_self, ite_true, ite_false, Bool.false_eq_true, reduceCtorEq, resolve, celJ, nCel, Slot.isC, List.filter, putJ, callM, callMF, List.append_eq, Nat.reduceLT, Int.reduceMul, Int.reduceAdd, Int.reduceSub, ne_eq, not_true_eq_false, not_false_eq_true, Bool.not_false, Bool.not_true, decide_true, decide_false, frF, Int.cast_ofNat_Int, Bool.and_true, Bool.true_and, Bool.false_and, Bool.and_false, Bool.or_false, Bool.false_or, Bool.true_or, Bool.or_true, G__law_all_rows_0, T__law_all_rows_1, E__law_all_rows_2, G__law_all_rows_3, G__law_all_rows_5, G__law_runs_0, G_is_run_0, T_is_run_1, E_is_run_2, G_are_runs_0, T_are_runs_1, E_are_runs_2, G_are_runs_3, T_are_runs_4, E_are_runs_5, G_Plain_signs_0, T_Plain_signs_1, E_Plain_signs_2, G_Next_signs_0, G_Single_signs_0, G_Block_signs_0, G_Later_signs_0, G_signs_of_0, T_signs_of_1, E_signs_of_2, G_value_of_0, T_value_of_1, E_value_of_2, G_are_values_0, T_are_values_1, E_are_values_2, G_are_values_3, T_are_values_4, E_are_values_5, G_count_agreeing_0, T_count_agreeing_1, E_count_agreeing_2, E_count_agreeing_3, G_count_agreeing_4, G_count_agreeing_6, G_count_agreeing_8, G__law_right_0, T__law_right_1, E__law_right_2, G__law_right_3, T__law_right_4, E__law_right_5, G__law_right_6, T__law_right_7, E__law_right_8, G__law_right_9, T__law_right_10, E__law_right_11, G__law_right_12, G__law_right_14, T__law_right_15, E__law_right_16, G__law_right_17, G__law_values_0, T__law_values_1, E__law_values_2, G_law_0]; try rfl))
structure WordOk (w : List (Int × Int)) : Prop where
  pos : 1 ≤ w.length
  top : w.length ≤ 200
  runs : ∀ p ∈ w, 1 ≤ p.1 ∧ 1 ≤ p.2
  adj : ∀ p ∈ w.zip (w.drop 1), p.1.1 ≠ p.2.1
theorem is_run_p (a b : Int) (ha : 1 ≤ a) (hb : 1 ≤ b) : mf_is_run K [.val (.tup [.int a, .int b])] = some (.val (.bl true) none) := by
  unfold mf_is_run M_is_run
  have e1 := is_integer_i (K := K) a 1
  have e2 := is_integer_i (K := K) b 1
  have e3 : decide (1 ≤ a) = true := decide_eq_true ha
  have e4 : decide (1 ≤ b) = true := decide_eq_true hb
  have e5 := oAll_l (K := K) [true, true]
  simp only [List.map_cons, List.map_nil, List.all_cons, List.all_nil, id, Bool.and_true] at e5
  have e6 : decide (((2 : Nat) : Int) = 2) = true := by decide
  trivial
  simp only [lcM]
  ac_rfl
theorem are_runs_w (w : List (Int × Int)) (h : WordOk w) : mf_are_runs K [.val (.lst (w.map pU))] = some (.val (.bl true) none) := by
  have h1 := h.pos
  have h2 := h.top
  have e2 := all_true (K := K) w
  have e5 := all_true (K := K) (w.zip (w.drop 1))
  have e3 : decide ((w.length : Int) ≤ 200) = true := by simp; omega
  have e4 : decide (1 ≤ (w.length : Int)) = true := by simp; omega
  unfold mf_are_runs M_are_runs
  trivial
  rw [lcM_all pU (fun _ => U.bl true) w ?hl ?hh]
  case hl => omega
  case hh =>
    intro x hx
    have e := is_run_p (K := K) x.1 x.2 (h.runs x hx).1 (h.runs x hx).2
    exact ⟨_, _, _, (by ac_rfl), (by ac_rfl), (by ac_rfl), rfl⟩
  trivial
  rw [lcM_all _ (fun _ => U.bl true) (w.zip (w.drop 1)) ?hl ?hh]
  case hl => rw [List.length_zip]; omega
  case hh =>
    intro x hx
    have e := h.adj x hx
    have e6 : decide (x.1.1 = x.2.1) = false := by simp [e]
    exact ⟨_, _, _, (by ac_rfl), (by ac_rfl), (by ac_rfl), rfl⟩
  trivial
theorem need_runs_w (w : List (Int × Int)) (h : WordOk w) : mf_need_runs K [.val (.lst (w.map pU))] = some (.val .non none) := by
  have e := are_runs_w (K := K) w h
  unfold mf_need_runs M_need_runs
  trivial
def plainS (w : List (Int × Int)) : List (Int × Int × Int) := w.map fun p => (p.1, p.2, 0)
theorem plain_w (o : U) (w : List (Int × Int)) (h : WordOk w) : mf_Plain_signs K [.val o, .val (.lst (w.map pU))] = some (.val (.lst ((plainS w).map tU)) none) := by
  have e := need_runs_w (K := K) w h
  unfold mf_Plain_signs M_Plain_signs plainS
  trivial
  rw [lcM_all pU (fun p => U.tup [.int p.1, .int p.2, .int 0]) w ?hl ?hh]
  case hl => have := h.top; omega
  case hh =>
    intro x hx
    exact ⟨_, _, _, (by ac_rfl), (by ac_rfl), (by ac_rfl), rfl⟩
  trivial
  rw [List.map_map]
  rfl
end Sg
set_option Elab.async false
set_option linter.all false
set_option maxRecDepth 100000
set_option maxHeartbeats 1000000
namespace Sg
open PySem L2
variable {K : PySem.W.Frag}
local macro_rules | `(tactic| trivial) => `(tactic| simp -implicitDefEqProofs (disch := omega) only [*, mC_m, mVar_m, mLook_m, mLet_m, mNil_m, msNil_m, msSeq_m, msAsgF_m, msDrop_m, msRet_m, msRetF_m, msRaise_m, msFor_m, mtYes_m, mLc_m, mcNil_m, mcCel_m, mCall_m, moNone_m, moSome_m, mSlL_m, mBi_m, mBiF_m, miList_m, miTup_m, miRng1_m, miEnum_m, miZip_m, mMeth_m, msSet_m, mCat_m, mRepeat_m, mChain_m, mIsi_m, mRev_m, mListRng_m, mCallF_m, msParVV_m, mMethD_m, mNew_m, mCMeth_m, mConC_m, msTry_m, mSup_m, okE_some, okE_none, opE_ok, opE_ex, opF_ok, opF_ex, mOp_e, mIx_e, unE_ok, mUn_e, coE_ok, coE_ex, coF_ok, coF_ex, mCons_e, bindAE_ok, bindAE_ex, mTup_e, tupF_e, mFr_e, lstF_ok, mLst_e, tsE_ok, tsE_ex, mTest_e, okT_some, truE_ok, truE_ex, mTru_e, anE_t, anE_f, anE_ok, orE_t, orE_f, orE_ok, mAnd_e, mOr_e, noE_ok, noE_ex, mNot_e, blV_ok, blV_ex, anV_t, anV_f, anV_ok, orV_t, orV_f, orV_ok, mAndV_e, mOrV_e, noV_ok, noV_ex, mNotV_e, ifV_t, ifV_f, ifV_ok, mIf_e, ifS_t, ifS_f, ifS_ok, ifS_ex, msIf_e, nxO_some, asE_ok, asE_ex, msAsg_e, gcE_some, mgCons_e, mgNil_e, mgTup_e, mgName_e, cvE_ok, cvE_ex, consC_ok, mcVal_e, thenS_nx, thenS_bk, thenS_ct, thenS_rt, thenS_ex, bindES_ok, bindES_ex, bindAS_ok, bindAS_ex, bindE_ok, bindE_ex, mfOf_e, mfOf0_e, noX_val, noX_cel, coM_some, fin_val, fin_cel, fin_nx, fin_ex, oAdd_i, oSub_i, oMul_l, oMul_r, oMod_i, oDiv_i, oPow_i, oLt_i, oLe_i, oGt_i, oGe_i, oEqI_i, oIx_l, oIx_f, oIx_t, at1_0, at2_0, at2_1, at3_0, at3_1, at3_2, at4_0, at4_1, at4_2, at4_3, ix3_0, ix3_1, ix3_2, oMax2_i, oMin2_i, oAbs_i, oInt_b, oLen_l, oLen_f, oLen_t, oNeg_i, truU_i, truU_l, truU_b, truU_n, lstU_l, lstU_f, oAppend_u, lstF_0, tupF_0, lstF_1, tupF_1, lstF_2, tupF_2, lstF_3, tupF_3, lstF_4, tupF_4, lstF_5, tupF_5, lstF_6, tupF_6, isi_NoneType_bool, isi_NoneType_int, isi_NoneType_str, isi_NoneType_list, isi_NoneType_tuple, isi_NoneType_dict, isi_bool_bool, isi_bool_int, isi_bool_str, isi_bool_list, isi_bool_tuple, isi_bool_dict, isi_int_bool, isi_int_int, isi_int_str, isi_int_list, isi_int_tuple, isi_int_dict, isi_str_bool, isi_str_int, isi_str_str, isi_str_list, isi_str_tuple, isi_str_dict, isi_list_bool, isi_list_int, isi_list_str, isi_list_list, isi_list_tuple, isi_list_dict, isi_tuple_bool, isi_tuple_int, isi_tuple_str, isi_tuple_list, isi_tuple_tuple, isi_tuple_dict, isi_dict_bool, isi_dict_int, isi_dict_str, isi_dict_list, isi_dict_tuple, isi_dict_dict, tyU_n, tyU_b, tyU_i, tyU_s, tyU_l, tyU_t, rngOk_i, zipU_map, intsU_map, blsU_map, oAll_l, oSum_l, cutU_1, cutU_m1, drop_map, reverse_map, length_map', dropLast_map, oEq_i, oNe_i, oEq_b, oNe_b, oEq_nn, oNe_nn, oEq_tt, oNe_tt, oEq_tn, oNe_tn, oEq_nt, oNe_nt, oEq_pp, oNe_pp, oEq_ii, oNe_ii, List.zip_cons_cons, List.zip_nil_left, mCallF_m, oMul_s, oPowX_i, mMakeS_m, mMakeL_m, mFld_m, mProp_m, mnSeq_m, mnS_m, mnF_m, at0_e, allX_const, seqU_l, seqU_f, seqU_t, pm_nil, pm_cons, List.mem_singleton, and_self, scV_b, scV_i, scV_s, scV_n, Option.isSome_some, tyU_d, mgTup_2, mgTup_3, mgTup_4, or_false, false_or, or_self, or_true, true_or, Nat.reduceBEq, bindEA_ok, bindEA_ex, unown, kills, cellAt, List.map_cons, List.map_nil, List.length_cons, List.length_nil, List.cons_append, List.nil_append, List.replicate, List.getElem?_cons_succ, List.getElem?_cons_zero, List.set_cons_zero, List.set_cons_succ, Option.map_some, Option.map_none, Option.bind_some, Option.bind_none, Nat.reduceAdd, Nat.reduceSub, Nat.reduceLeDiff, Int.reduceLT, Int.reduceLE, Int.reduceNeg, Int.reduceToNat, Int.reducePow, decide_eq_true_eq, reduceIte, eq_self, ite_true, ite_false, Bool.false_eq_true, reduceCtorEq, resolve, celJ, nCel, Slot.isC, List.filter, putJ, callM, callMF, List.append_eq, Nat.reduceLT, Int.reduceMul, Int.reduceAdd, Int.reduceSub, ne_eq, not_true_eq_false, not_false_eq_true, Bool.not_false, Bool.not_true, decide_true, decide_false, frF, Int.cast_ofNat_Int, Bool.and_true, Bool.true_and, Bool.false_and, Bool.and_false, Bool.or_false, Bool.false_or, Bool.true_or, Bool.or_true])
local macro_rules | `(tactic| ac_rfl) => `(tactic| (simp -implicitDefEqProofs (disch := omega) only [*, mC_m, mVar_m, mLook_m, mLet_m, mNil_m, msNil_m, msSeq_m, msAsgF_m, msDrop_m, msRet_m, msRetF_m, msRaise_m, msFor_m, mtYes_m, mLc_m, mcNil_m, mcCel_m, mCall_m, moNone_m, moSome_m, mSlL_m, mBi_m, mBiF_m, miList_m, miTup_m, miRng1_m, miEnum_m, miZip_m, mMeth_m, msSet_m, mCat_m, mRepeat_m, mChain_m, mIsi_m, mRev_m, mListRng_m, mCallF_m, msParVV_m, mMethD_m, mNew_m, mCMeth_m, mConC_m, msTry_m, mSup_m, okE_some, okE_none, opE_ok, opE_ex, opF_ok, opF_ex, mOp_e, mIx_e, unE_ok, mUn_e, coE_ok, coE_ex, coF_ok, coF_ex, mCons_e, bindAE_ok, bindAE_ex, mTup_e, tupF_e, mFr_e, lstF_ok, mLst_e, tsE_ok, tsE_ex, mTest_e, okT_some, truE_ok, truE_ex, mTru_e, anE_t, anE_f, anE_ok, orE_t, orE_f, orE_ok, mAnd_e, mOr_e, noE_ok, noE_ex, mNot_e, blV_ok, blV_ex, anV_t, anV_f, anV_ok, orV_t, orV_f, orV_ok, mAndV_e, mOrV_e, noV_ok, noV_ex, mNotV_e, ifV_t, ifV_f, ifV_ok, mIf_e, ifS_t, ifS_f, ifS_ok, ifS_ex, msIf_e, nxO_some, asE_ok, asE_ex, msAsg_e, gcE_some, mgCons_e, mgNil_e, mgTup_e, mgName_e, cvE_ok, cvE_ex, consC_ok, mcVal_e, thenS_nx, thenS_bk, thenS_ct, thenS_rt, thenS_ex, bindES_ok, bindES_ex, bindAS_ok, bindAS_ex, bindE_ok, bindE_ex, mfOf_e, mfOf0_e, noX_val, noX_cel, coM_some, fin_val, fin_cel, fin_nx, fin_ex, oAdd_i, oSub_i, oMul_l, oMul_r, oMod_i, oDiv_i, oPow_i, oLt_i, oLe_i, oGt_i, oGe_i, oEqI_i, oIx_l, oIx_f, oIx_t, at1_0, at2_0, at2_1, at3_0, at3_1, at3_2, at4_0, at4_1, at4_2, at4_3, ix3_0, ix3_1, ix3_2, oMax2_i, oMin2_i, oAbs_i, oInt_b, oLen_l, oLen_f, oLen_t, oNeg_i, truU_i, truU_l, truU_b, truU_n, lstU_l, lstU_f, oAppend_u, lstF_0, tupF_0, lstF_1, tupF_1, lstF_2, tupF_2, lstF_3, tupF_3, lstF_4, tupF_4, lstF_5, tupF_5, lstF_6, tupF_6, isi_NoneType_bool, isi_NoneType_int, isi_NoneType_str, isi_NoneType_list, isi_NoneType_tuple, isi_NoneType_dict, isi_bool_bool, isi_bool_int, isi_bool_str, isi_bool_list, isi_bool_tuple, isi_bool_dict, isi_int_bool, isi_int_int, isi_int_str, isi_int_list, isi_int_tuple, isi_int_dict, isi_str_bool, isi_str_int, isi_str_str, isi_str_list, isi_str_tuple, isi_str_dict, isi_list_bool, isi_list_int, isi_list_str, isi_list_list, isi_list_tuple, isi_list_dict, isi_tuple_bool, isi_tuple_int, isi_tuple_str, isi_tuple_list, isi_tuple_tuple, isi_tuple_dict, isi_dict_bool, isi_dict_int, isi_dict_str, isi_dict_list, isi_dict_tuple, isi_dict_dict, tyU_n, tyU_b, tyU_i, tyU_s, tyU_l, tyU_t, rngOk_i, zipU_map, intsU_map, blsU_map, oAll_l, oSum_l, cutU_1, cutU_m1, drop_map, reverse_map, length_map', dropLast_map, oEq_i, oNe_i, oEq_b, oNe_b, oEq_nn, oNe_nn, oEq_tt, oNe_tt, oEq_tn, oNe_tn, oEq_nt, oNe_nt, oEq_pp, oNe_pp, oEq_ii, oNe_ii, List.zip_cons_cons, List.zip_nil_left, mCallF_m, oMul_s, oPowX_i, mMakeS_m, mMakeL_m, mFld_m, mProp_m, mnSeq_m, mnS_m, mnF_m, at0_e, allX_const, seqU_l, seqU_f, seqU_t, pm_nil, pm_cons, List.mem_singleton, and_self, scV_b, scV_i, scV_s, scV_n, Option.isSome_some, tyU_d, mgTup_2, mgTup_3, mgTup_4, or_false, false_or, or_self, or_true, true_or, Nat.reduceBEq, bindEA_ok, bindEA_ex, unown, kills, cellAt, List.map_cons, List.map_nil, List.length_cons, List.length_nil, List.cons_append, List.nil_append, List.replicate, List.getElem?_cons_succ, List.getElem?_cons_zero, List.set_cons_zero, List.set_cons_succ, Option.map_some, Option.map_none, Option.bind_some, Option.bind_none, Nat.reduceAdd, Nat.reduceSub, Nat.reduceLeDiff, Int.reduceLT, Int.reduceLE, Int.reduceNeg, Int.reduceToNat, Int.reducePow, decide_eq_true_eq, reduceIte, eq_self, ite_true, ite_false, Bool.false_eq_true, reduceCtorEq, resolve, celJ, nCel, Slot.isC, List.filter, putJ, callM, callMF, List.append_eq, Nat.reduceLT, Int.reduceMul, Int.reduceAdd, Int.reduceSub, ne_eq, not_true_eq_false, not_false_eq_true, Bool.not_false, Bool.not_true, decide_true, decide_false, frF, Int.cast_ofNat_Int, Bool.and_true, Bool.true_and, Bool.false_and, Bool.and_false, Bool.or_false, Bool.false_or, Bool.true_or, Bool.or_true, G__law_all_rows_0, T__law_all_rows_1, E__law_all_rows_2, G__law_all_rows_3, G__law_all_rows_5, G__law_runs_0, G_is_run_0, T_is_run_1, E_is_run_2, G_are_runs_0, T_are_runs_1, E_are_runs_2, G_are_runs_3, T_are_runs_4, E_are_runs_5, G_Plain_signs_0, T_Plain_signs_1, E_Plain_signs_2, G_Next_signs_0, G_Single_signs_0, G_Block_signs_0, G_Later_signs_0, G_signs_of_0, T_signs_of_1, E_signs_of_2, G_value_of_0, T_value_of_1, E_value_of_2, G_are_values_0, T_are_values_1, E_are_values_2, G_are_values_3, T_are_values_4, E_are_values_5, G_count_agreeing_0, T_count_agreeing_1, E_count_agreeing_2, E_count_agreeing_3, G_count_agreeing_4, G_count_agreeing_6, G_count_agreeing_8, G__law_right_0, T__law_right_1, E__law_right_2, G__law_right_3, T__law_right_4, E__law_right_5, G__law_right_6, T__law_right_7, E__law_right_8, G__law_right_9, T__law_right_10, E__law_right_11, G__law_right_12, G__law_right_14, T__law_right_15, E__law_right_16, G__law_right_17, G__law_values_0, T__law_values_1, E__law_values_2, G_law_0]; try rfl))
abbrev minusN (v : Int) : List (Int × Int) → Int
  | [] => 0
  | q :: _ => if v < q.1 then 1 else 0
def nextS : List (Int × Int) → List (Int × Int × Int)
  | [] => []
  | p :: r => (p.1, p.2 - minusN p.1 r, minusN p.1 r) :: nextS r
theorem at_mid (pre : List (Int × Int)) (p q : Int × Int) (r : List (Int × Int)) : atI ((pre ++ p :: q :: r).map pU) ((pre.length : Int) + 1) = some (pU q) := by
  have : ((pre ++ p :: q :: r).map pU)[pre.length + 1]? = some (pU q) := by
    rw [List.getElem?_map, List.getElem?_append_right (by omega)]
    simp
  exact atI_nat (j := pre.length + 1) this
theorem next_w (o : U) (w : List (Int × Int)) (h : WordOk w) : mf_Next_signs K [.val o, .val (.lst (w.map pU))] = some (.val (.lst ((nextS w).map tU)) none) := by
  have e := need_runs_w (K := K) w h
  have ht := h.top
  unfold mf_Next_signs M_Next_signs
  trivial
  have st := @loopM_inv (G_Next_signs_0 K).m (B_Next_signs_1 K).m [3, 4, 5, 6]
    (fun us ρ => ∃ pre suf acc, pre ++ suf = w ∧ us = enumU pre.length (suf.map pU) ∧ acc ++ nextS suf = nextS w ∧ acc.length = pre.length ∧ ρ = [.val o, .val (.lst (w.map pU)), .cel true (acc.map tU), .non, .non, .non, .non])
  obtain ⟨ρ', e2, e3⟩ := st (by
    rintro u us ρ ⟨pre, suf, acc, hw, hu, ha, hl, rfl⟩
    cases suf with
    | nil => cases hu
    | cons p r =>
      obtain ⟨rfl, rfl⟩ := List.cons.inj hu
      clear hu st
      have hlen : w.length = pre.length + 1 + r.length := by rw [← hw, List.length_append, List.length_cons]; omega
      have hacc : (List.map tU acc).length < 16777216 := by rw [List.length_map]; omega
      cases r with
      | nil =>
        have c1 : ¬ (((pre.length : Nat) : Int) + 1 < (w.length : Int)) := by rw [hlen]; simp
        clear hlen
        refine ⟨_, [.val o, .val (.lst (w.map pU)), .cel true ((acc ++ [(p.1, p.2 - 0, 0)]).map tU), .val (.int pre.length), .val (.int p.1), .val (.int p.2), .val (.int 0)], (by ac_rfl), .inl ?_, pre ++ [p], [], acc ++ [(p.1, p.2 - 0, 0)], by rw [← hw]; simp, by simp [enumU], ?_, by simp [hl], rfl⟩
        · unfold B_Next_signs_1
          trivial
          simp
        · rw [← ha]; simp [nextS]
      | cons q r =>
        have c1 : ((pre.length : Nat) : Int) + 1 < (w.length : Int) := by rw [List.length_cons] at hlen; omega
        clear hlen
        have c2 : atI (w.map pU) ((pre.length : Int) + 1) = some (U.tup [.int q.1, .int q.2]) := by rw [← hw]; exact at_mid pre p q r
        refine ⟨_, [.val o, .val (.lst (w.map pU)), .cel true ((acc ++ [(p.1, p.2 - minusN p.1 (q :: r), minusN p.1 (q :: r))]).map tU), .val (.int pre.length), .val (.int p.1), .val (.int p.2), .val (.int (minusN p.1 (q :: r)))], (by ac_rfl), .inl ?_, pre ++ [p], q :: r, acc ++ [(p.1, p.2 - minusN p.1 (q :: r), minusN p.1 (q :: r))], by rw [← hw]; simp, by simp [enumU], ?_, by simp [hl], rfl⟩
        · by_cases c3 : p.1 < q.1
          · unfold B_Next_signs_1
            trivial
            simp [minusN, c3]
          · unfold B_Next_signs_1
            trivial
            simp [minusN, c3]
        · rw [← ha]; simp [nextS])
    (enumU 0 (w.map pU)) [.val o, .val (.lst (w.map pU)), .cel true [], .non, .non, .non, .non] ⟨[], w, [], rfl, rfl, rfl, rfl, rfl⟩
  rw [e2]
  obtain ⟨pre, suf, acc, hw, hu, ha, hl, rfl⟩ := e3
  cases suf with
  | cons p r => cases hu
  | nil =>
    rw [nextS, List.append_nil] at ha
    subst ha
    trivial
end Sg
set_option Elab.async false
set_option linter.all false
set_option maxRecDepth 100000
set_option maxHeartbeats 1000000
namespace Sg
open PySem L2
variable {K : PySem.W.Frag}
local macro_rules | `(tactic| trivial) => `(tactic| simp -implicitDefEqProofs (disch := omega) only [*, mC_m, mVar_m, mLook_m, mLet_m, mNil_m, msNil_m, msSeq_m, msAsgF_m, msDrop_m, msRet_m, msRetF_m, msRaise_m, msFor_m, mtYes_m, mLc_m, mcNil_m, mcCel_m, mCall_m, moNone_m, moSome_m, mSlL_m, mBi_m, mBiF_m, miList_m, miTup_m, miRng1_m, miEnum_m, miZip_m, mMeth_m, msSet_m, mCat_m, mRepeat_m, mChain_m, mIsi_m, mRev_m, mListRng_m, mCallF_m, msParVV_m, mMethD_m, mNew_m, mCMeth_m, mConC_m, msTry_m, mSup_m, okE_some, okE_none, opE_ok, opE_ex, opF_ok, opF_ex, mOp_e, mIx_e, unE_ok, mUn_e, coE_ok, coE_ex, coF_ok, coF_ex, mCons_e, bindAE_ok, bindAE_ex, mTup_e, tupF_e, mFr_e, lstF_ok, mLst_e, tsE_ok, tsE_ex, mTest_e, okT_some, truE_ok, truE_ex, mTru_e, anE_t, anE_f, anE_ok, orE_t, orE_f, orE_ok, mAnd_e, mOr_e, noE_ok, noE_ex, mNot_e, blV_ok, blV_ex, anV_t, anV_f, anV_ok, orV_t, orV_f, orV_ok, mAndV_e, mOrV_e, noV_ok, noV_ex, mNotV_e, ifV_t, ifV_f, ifV_ok, mIf_e, ifS_t, ifS_f, ifS_ok, ifS_ex, msIf_e, nxO_some, asE_ok, asE_ex, msAsg_e, gcE_some, mgCons_e, mgNil_e, mgTup_e, mgName_e, cvE_ok, cvE_ex, consC_ok, mcVal_e, thenS_nx, thenS_bk, thenS_ct, thenS_rt, thenS_ex, bindES_ok, bindES_ex, bindAS_ok, bindAS_ex, bindE_ok, bindE_ex, mfOf_e, mfOf0_e, noX_val, noX_cel, coM_some, fin_val, fin_cel, fin_nx, fin_ex, oAdd_i, oSub_i, oMul_l, oMul_r, oMod_i, oDiv_i, oPow_i, oLt_i, oLe_i, oGt_i, oGe_i, oEqI_i, oIx_l, oIx_f, oIx_t, at1_0, at2_0, at2_1, at3_0, at3_1, at3_2, at4_0, at4_1, at4_2, at4_3, ix3_0, ix3_1, ix3_2, oMax2_i, oMin2_i, oAbs_i, oInt_b, oLen_l, oLen_f, oLen_t, oNeg_i, truU_i, truU_l, truU_b, truU_n, lstU_l, lstU_f, oAppend_u, lstF_0, tupF_0, lstF_1, tupF_1, lstF_2, tupF_2, lstF_3, tupF_3, lstF_4, tupF_4, lstF_5, tupF_5, lstF_6, tupF_6, isi_NoneType_bool, isi_NoneType_int, isi_NoneType_str, isi_NoneType_list, isi_NoneType_tuple, isi_NoneType_dict, isi_bool_bool, isi_bool_int, isi_bool_str, isi_bool_list, isi_bool_tuple, isi_bool_dict, isi_int_bool, isi_int_int, isi_int_str, isi_int_list, isi_int_tuple, isi_int_dict, isi_str_bool, isi_str_int, isi_str_str, isi_str_list, isi_str_tuple, isi_str_dict, isi_list_bool, isi_list_int, isi_list_str, isi_list_list, isi_list_tuple, isi_list_dict, isi_tuple_bool, isi_tuple_int, isi_tuple_str, isi_tuple_list, isi_tuple_tuple, isi_tuple_dict, isi_dict_bool, isi_dict_int, isi_dict_str, isi_dict_list, isi_dict_tuple, isi_dict_dict, tyU_n, tyU_b, tyU_i, tyU_s, tyU_l, tyU_t, rngOk_i, zipU_map, intsU_map, blsU_map, oAll_l, oSum_l, cutU_1, cutU_m1, drop_map, reverse_map, length_map', dropLast_map, oEq_i, oNe_i, oEq_b, oNe_b, oEq_nn, oNe_nn, oEq_tt, oNe_tt, oEq_tn, oNe_tn, oEq_nt, oNe_nt, oEq_pp, oNe_pp, oEq_ii, oNe_ii, List.zip_cons_cons, List.zip_nil_left, mCallF_m, oMul_s, oPowX_i, mMakeS_m, mMakeL_m, mFld_m, mProp_m, mnSeq_m, mnS_m, mnF_m, at0_e, allX_const, seqU_l, seqU_f, seqU_t, pm_nil, pm_cons, List.mem_singleton, and_self, scV_b, scV_i, scV_s, scV_n, Option.isSome_some, tyU_d, mgTup_2, mgTup_3, mgTup_4, or_false, false_or, or_self, or_true, true_or, Nat.reduceBEq, bindEA_ok, bindEA_ex, unown, kills, cellAt, List.map_cons, List.map_nil, List.length_cons, List.length_nil, List.cons_append, List.nil_append, List.replicate, List.getElem?_cons_succ, List.getElem?_cons_zero, List.set_cons_zero, List.set_cons_succ, Option.map_some, Option.map_none, Option.bind_some, Option.bind_none, Nat.reduceAdd, Nat.reduceSub, Nat.reduceLeDiff, Int.reduceLT, Int.reduceLE, Int.reduceNeg, Int.reduceToNat, Int.reducePow, decide_eq_true_eq, reduceIte, eq_self, ite_true, ite_false, Bool.false_eq_true, reduceCtorEq, resolve, celJ, nCel, Slot.isC, List.filter, putJ, callM, callMF, List.append_eq, Nat.reduceLT, Int.reduceMul, Int.reduceAdd, Int.reduceSub, ne_eq, not_true_eq_false, not_false_eq_true, Bool.not_false, Bool.not_true, decide_true, decide_false, frF, Int.cast_ofNat_Int, Bool.and_true, Bool.true_and, Bool.false_and, Bool.and_false, Bool.or_false, Bool.false_or, Bool.true_or, Bool.or_true])
local macro_rules | `(tactic| ac_rfl) => `(tactic| (simp -implicitDefEqProofs (disch := omega) only [*, mC_m, mVar_m, mLook_m, mLet_m, mNil_m, msNil_m, msSeq_m, msAsgF_m, msDrop_m, msRet_m, msRetF_m, msRaise_m, msFor_m, mtYes_m, mLc_m, mcNil_m, mcCel_m, mCall_m, moNone_m, moSome_m, mSlL_m, mBi_m, mBiF_m, miList_m, miTup_m, miRng1_m, miEnum_m, miZip_m, mMeth_m, msSet_m, mCat_m, mRepeat_m, mChain_m, mIsi_m, mRev_m, mListRng_m, mCallF_m, msParVV_m, mMethD_m, mNew_m, mCMeth_m, mConC_m, msTry_m, mSup_m, okE_some, okE_none, opE_ok, opE_ex, opF_ok, opF_ex, mOp_e, mIx_e, unE_ok, mUn_e, coE_ok, coE_ex, coF_ok, coF_ex, mCons_e, bindAE_ok, bindAE_ex, mTup_e, tupF_e, mFr_e, lstF_ok, mLst_e, tsE_ok, tsE_ex, mTest_e, okT_some, truE_ok, truE_ex, mTru_e, anE_t, anE_f, anE_ok, orE_t, orE_f, orE_ok, mAnd_e, mOr_e, noE_ok, noE_ex, mNot_e, blV_ok, blV_ex, anV_t, anV_f, anV_ok, orV_t, orV_f, orV_ok, mAndV_e, mOrV_e, noV_ok, noV_ex, mNotV_e, ifV_t, ifV_f, ifV_ok, mIf_e, ifS_t, ifS_f, ifS_ok, ifS_ex, msIf_e, nxO_some, asE_ok, asE_ex, msAsg_e, gcE_some, mgCons_e, mgNil_e, mgTup_e, mgName_e, cvE_ok, cvE_ex, consC_ok, mcVal_e, thenS_nx, thenS_bk, thenS_ct, thenS_rt, thenS_ex, bindES_ok, bindES_ex, bindAS_ok, bindAS_ex, bindE_ok, bindE_ex, mfOf_e, mfOf0_e, noX_val, noX_cel, coM_some, fin_val, fin_cel, fin_nx, fin_ex, oAdd_i, oSub_i, oMul_l, oMul_r, oMod_i, oDiv_i, oPow_i, oLt_i, oLe_i, oGt_i, oGe_i, oEqI_i, oIx_l, oIx_f, oIx_t, at1_0, at2_0, at2_1, at3_0, at3_1, at3_2, at4_0, at4_1, at4_2, at4_3, ix3_0, ix3_1, ix3_2, oMax2_i, oMin2_i, oAbs_i, oInt_b, oLen_l, oLen_f, oLen_t, oNeg_i, truU_i, truU_l, truU_b, truU_n, lstU_l, lstU_f, oAppend_u, lstF_0, tupF_0, lstF_1, tupF_1, lstF_2, tupF_2, lstF_3, tupF_3, lstF_4, tupF_4, lstF_5, tupF_5, lstF_6, tupF_6, isi_NoneType_bool, isi_NoneType_int, isi_NoneType_str, isi_NoneType_list, isi_NoneType_tuple, isi_NoneType_dict, isi_bool_bool, isi_bool_int, isi_bool_str, isi_bool_list, isi_bool_tuple, isi_bool_dict, isi_int_bool, isi_int_int, isi_int_str, isi_int_list, isi_int_tuple, isi_int_dict, isi_str_bool, isi_str_int, isi_str_str, isi_str_list, isi_str_tuple, isi_str_dict, isi_list_bool, isi_list_int, isi_list_str, isi_list_list, isi_list_tuple, isi_list_dict, isi_tuple_bool, isi_tuple_int, isi_tuple_str, isi_tuple_list, isi_tuple_tuple, isi_tuple_dict, isi_dict_bool, isi_dict_int, isi_dict_str, isi_dict_list, isi_dict_tuple, isi_dict_dict, tyU_n, tyU_b, tyU_i, tyU_s, tyU_l, tyU_t, rngOk_i, zipU_map, intsU_map, blsU_map, oAll_l, oSum_l, cutU_1, cutU_m1, drop_map, reverse_map, length_map', dropLast_map, oEq_i, oNe_i, oEq_b, oNe_b, oEq_nn, oNe_nn, oEq_tt, oNe_tt, oEq_tn, oNe_tn, oEq_nt, oNe_nt, oEq_pp, oNe_pp, oEq_ii, oNe_ii, List.zip_cons_cons, List.zip_nil_left, mCallF_m, oMul_s, oPowX_i, mMakeS_m, mMakeL_m, mFld_m, mProp_m, mnSeq_m, mnS_m, mnF_m, at0_e, allX_const, seqU_l, seqU_f, seqU_t, pm_nil, pm_cons, List.mem_singleton, and_self, scV_b, scV_i, scV_s, scV_n, Option.isSome_some, tyU_d, mgTup_2, mgTup_3, mgTup_4, or_false, false_or, or_self, or_true, true_or, Nat.reduceBEq, bindEA_ok, bindEA_ex, unown, kills, cellAt, List.map_cons, List.map_nil, List.length_cons, List.length_nil, List.cons_append, List.nil_append, List.replicate, List.getElem?_cons_succ, List.getElem?_cons_zero, List.set_cons_zero, List.set_cons_succ, Option.map_some, Option.map_none, Option.bind_some, Option.bind_none, Nat.reduceAdd, Nat.reduceSub, Nat.reduceLeDiff, Int.reduceLT, Int.reduceLE, Int.reduceNeg, Int.reduceToNat, Int.reducePow, decide_eq_true_eq, reduceIte, eq_self, ite_true, ite_false, Bool.false_eq_true, reduceCtorEq, resolve, celJ, nCel, Slot.isC, List.filter, putJ, callM, callMF, List.append_eq, Nat.reduceLT, Int.reduceMul, Int.reduceAdd, Int.reduceSub, ne_eq, not_true_eq_false, not_false_eq_true, Bool.not_false, Bool.not_true, decide_true, decide_false, frF, Int.cast_ofNat_Int, Bool.and_true, Bool.true_and, Bool.false_and, Bool.and_false, Bool.or_false, Bool.false_or, Bool.true_or, Bool.or_true, G__law_all_rows_0, T__law_all_rows_1, E__law_all_rows_2, G__law_all_rows_3, G__law_all_rows_5, G__law_runs_0, G_is_run_0, T_is_run_1, E_is_run_2, G_are_runs_0, T_are_runs_1, E_are_runs_2, G_are_runs_3, T_are_runs_4, E_are_runs_5, G_Plain_signs_0, T_Plain_signs_1, E_Plain_signs_2, G_Next_signs_0, G_Single_signs_0, G_Block_signs_0, G_Later_signs_0, G_signs_of_0, T_signs_of_1, E_signs_of_2, G_value_of_0, T_value_of_1, E_value_of_2, G_are_values_0, T_are_values_1, E_are_values_2, G_are_values_3, T_are_values_4, E_are_values_5, G_count_agreeing_0, T_count_agreeing_1, E_count_agreeing_2, E_count_agreeing_3, G_count_agreeing_4, G_count_agreeing_6, G_count_agreeing_8, G__law_right_0, T__law_right_1, E__law_right_2, G__law_right_3, T__law_right_4, E__law_right_5, G__law_right_6, T__law_right_7, E__law_right_8, G__law_right_9, T__law_right_10, E__law_right_11, G__law_right_12, G__law_right_14, T__law_right_15, E__law_right_16, G__law_right_17, G__law_values_0, T__law_values_1, E__law_values_2, G_law_0]; try rfl))
abbrev headv : List (Int × Int) → Int
  | [] => 0
  | q :: _ => q.1
abbrev sign (b : Bool) (p : Int × Int) : Int × Int × Int := if b then (p.1, 0, p.2) else (p.1, p.2, 0)
def blockS : List (Int × Int) → List (Int × Int × Int)
  | [] => []
  | p :: r => sign (decide (p.1 < headv r)) p :: blockS r
def maxv : List (Int × Int) → Int
  | [] => 0
  | p :: r => if p.1 > maxv r then p.1 else maxv r
def laterS : List (Int × Int) → List (Int × Int × Int)
  | [] => []
  | p :: r => sign (decide (p.1 < maxv r)) p :: laterS r
theorem blockS_length : ∀ w, (blockS w).length = w.length
  | [] => rfl
  | p :: r => by rw [blockS, List.length_cons, List.length_cons, blockS_length r]
theorem laterS_length : ∀ w, (laterS w).length = w.length
  | [] => rfl
  | p :: r => by rw [laterS, List.length_cons, List.length_cons, laterS_length r]
theorem nextS_length : ∀ w, (nextS w).length = w.length
  | [] => rfl
  | p :: r => by rw [nextS, List.length_cons, List.length_cons, nextS_length r]
theorem block_w (o : U) (w : List (Int × Int)) (h : WordOk w) : mf_Block_signs K [.val o, .val (.lst (w.map pU))] = some (.val (.lst ((blockS w).map tU)) none) := by
  have e := need_runs_w (K := K) w h
  have ht := h.top
  unfold mf_Block_signs M_Block_signs
  trivial
  have st := @loopM_inv (G_Block_signs_0 K).m (B_Block_signs_1 K).m [4, 5]
    (fun us ρ => ∃ rp suf : List (Int × Int), rp.reverse ++ suf = w ∧ us = rp.map pU ∧ ρ = [.val o, .val (.lst (w.map pU)), .cel true ((blockS suf).reverse.map tU), .val (.int (headv suf)), .non, .non])
  obtain ⟨ρ', e2, e3⟩ := st (by
    rintro u us ρ ⟨rp, suf, hw, hu, rfl⟩
    cases rp with
    | nil => cases hu
    | cons p r =>
      obtain ⟨rfl, rfl⟩ := List.cons.inj hu
      have hlen : suf.length ≤ 200 := by
        have := congrArg List.length hw
        rw [List.length_append] at this
        omega
      have hacc : (List.map tU (blockS suf).reverse).length < 16777216 := by rw [List.length_map, List.length_reverse, blockS_length]; omega
      clear hu st hlen
      refine ⟨_, [.val o, .val (.lst (w.map pU)), .cel true ((blockS (p :: suf)).reverse.map tU), .val (.int p.1), .val (.int p.1), .val (.int p.2)], (by ac_rfl), .inl ?_, r, p :: suf, by rw [← hw]; simp, rfl, rfl⟩
      clear hw
      unfold B_Block_signs_1
      by_cases c : p.1 < headv suf
      · trivial
        simp [blockS, c, sign]
      · trivial
        simp [blockS, c, sign]) (w.reverse.map pU) [.val o, .val (.lst (w.map pU)), .cel true [], .val (.int 0), .non, .non] ⟨w.reverse, [], by simp, rfl, rfl⟩
  clear st
  rw [e2]
  obtain ⟨rp, suf, hw, hu, rfl⟩ := e3
  cases rp with
  | cons p r => cases hu
  | nil =>
    have : suf = w := by simpa using hw
    subst this
    clear hu hw e2
    trivial
    simp
abbrev runT (t : Int × Int × Int) : Int × Int := (t.1, t.2.1 + t.2.2)
theorem sign_run (b : Bool) (p : Int × Int) : runT (sign b p) = p := by cases b <;> simp [sign, runT]
theorem blockS_run : ∀ w, (blockS w).map runT = w
  | [] => rfl
  | p :: r => by rw [blockS, List.map_cons, sign_run, blockS_run r]
theorem later_w (w : List (Int × Int)) (h : WordOk w) : mf_Later_signs K [.val (.ins "Later" []), .val (.lst (w.map pU))] = some (.val (.lst ((laterS w).map tU)) none) := by
  have e := block_w (K := K) (.ins "Later" []) w h
  have ht := h.top
  unfold mf_Later_signs M_Later_signs
  trivial
  have st := @loopM_inv (G_Later_signs_0 K).m (B_Later_signs_1 K).m [5, 6, 7, 8]
    (fun us ρ => ∃ (rb : List (Int × Int × Int)) (suf : List (Int × Int)), (rb.map runT).reverse ++ suf = w ∧ us = rb.map tU ∧ ρ = [.val (.ins "Later" []), .val (.lst (w.map pU)), .non, .cel true ((laterS suf).reverse.map tU), .val (.int (maxv suf)), .non, .non, .non, .non])
  obtain ⟨ρ', e2, e3⟩ := st (by
    rintro u us ρ ⟨rb, suf, hw, hu, rfl⟩
    cases rb with
    | nil => cases hu
    | cons b r =>
      obtain ⟨rfl, rfl⟩ := List.cons.inj hu
      have hlen : suf.length ≤ 200 := by
        have := congrArg List.length hw
        rw [List.length_append] at this
        omega
      have hacc : (List.map tU (laterS suf).reverse).length < 16777216 := by rw [List.length_map, List.length_reverse, laterS_length]; omega
      clear hu st hlen
      refine ⟨_, [.val (.ins "Later" []), .val (.lst (w.map pU)), .non, .cel true ((laterS (runT b :: suf)).reverse.map tU), .val (.int (maxv (runT b :: suf))), .val (.int b.1), .val (.int b.2.1), .val (.int b.2.2), .val (.int (b.2.1 + b.2.2))], (by ac_rfl), .inl ?_, r, runT b :: suf, by rw [← hw]; simp, rfl, rfl⟩
      clear hw
      unfold B_Later_signs_1
      by_cases c : b.1 < maxv suf
      · have c2 : ¬ (b.1 > maxv suf) := by omega
        trivial
        simp [laterS, maxv, c, c2, sign, runT]
      · by_cases c2 : b.1 > maxv suf
        · trivial
          simp [laterS, maxv, c, c2, sign, runT]
        · trivial
          simp [laterS, maxv, c, c2, sign, runT]) ((blockS w).reverse.map tU) [.val (.ins "Later" []), .val (.lst (w.map pU)), .non, .cel true [], .val (.int 0), .non, .non, .non, .non]
        ⟨(blockS w).reverse, [], by rw [List.map_reverse, List.reverse_reverse, blockS_run]; simp, rfl, rfl⟩
  clear st
  rw [e2]
  obtain ⟨rb, suf, hw, hu, rfl⟩ := e3
  cases rb with
  | cons p r => cases hu
  | nil =>
    have : suf = w := by simpa using hw
    subst this
    clear hu hw e2
    trivial
    simp
def clash (x : (Int × Int × Int) × (Int × Int × Int)) : Bool := decide (0 < x.1.2.2) && decide (x.2.2.1 = 0)
def singleS (w : List (Int × Int)) : Option (List (Int × Int × Int)) := if ((nextS w).zip ((nextS w).drop 1)).any clash then none else some (nextS w)
theorem single_w (w : List (Int × Int)) (h : WordOk w) : mf_Single_signs K [.val (.ins "Single" []), .val (.lst (w.map pU))] =
    some (match singleS w with
      | some t => .val (.lst (t.map tU)) none
      | none => .ex ⟨"InvalidWord", none⟩ none) := by
  have e := next_w (K := K) (.ins "Single" []) w h
  unfold mf_Single_signs M_Single_signs
  trivial
  have st : ∀ (zs : List ((Int × Int × Int) × (Int × Int × Int))), ∃ ρ', loopM (G_Single_signs_0 K).m (B_Single_signs_1 K).m [4, 5, 6, 7, 8, 9] (zs.map fun p => U.tup [tU p.1, tU p.2]) [.val (.ins "Single" []), .val (.lst (w.map pU)), .non, .val (.lst ((nextS w).map tU)), .non, .non, .non, .non, .non, .non] =
      some (if zs.any clash then .ex ⟨"InvalidWord", none⟩ (.val (.ins "Single" []) :: .val (.lst (w.map pU)) :: ρ') else .nx [.val (.ins "Single" []), .val (.lst (w.map pU)), .non, .val (.lst ((nextS w).map tU)), .non, .non, .non, .non, .non, .non]) := by
    intro zs
    induction zs with
    | nil => exact ⟨[], rfl⟩
    | cons z zs ih =>
      obtain ⟨ρ', ih⟩ := ih
      have eg : (G_Single_signs_0 K).m (U.tup [tU z.1, tU z.2]) [.val (.ins "Single" []), .val (.lst (w.map pU)), .non, .val (.lst ((nextS w).map tU)), .non, .non, .non, .non, .non, .non] =
        some [.val (.ins "Single" []), .val (.lst (w.map pU)), .non, .val (.lst ((nextS w).map tU)), .val (.int z.1.1), .val (.int z.1.2.1), .val (.int z.1.2.2), .val (.int z.2.1), .val (.int z.2.2.1), .val (.int z.2.2.2)] := by ac_rfl
      have eb : (B_Single_signs_1 K).m [.val (.ins "Single" []), .val (.lst (w.map pU)), .non, .val (.lst ((nextS w).map tU)), .val (.int z.1.1), .val (.int z.1.2.1), .val (.int z.1.2.2), .val (.int z.2.1), .val (.int z.2.2.1), .val (.int z.2.2.2)] =
        some (if clash z then .ex ⟨"InvalidWord", none⟩ [.val (.ins "Single" []), .val (.lst (w.map pU)), .non, .val (.lst ((nextS w).map tU)), .val (.int z.1.1), .val (.int z.1.2.1), .val (.int z.1.2.2), .val (.int z.2.1), .val (.int z.2.2.1), .val (.int z.2.2.2)] else .nx [.val (.ins "Single" []), .val (.lst (w.map pU)), .non, .val (.lst ((nextS w).map tU)), .val (.int z.1.1), .val (.int z.1.2.1), .val (.int z.1.2.2), .val (.int z.2.1), .val (.int z.2.2.1), .val (.int z.2.2.2)]) := by
        unfold B_Single_signs_1 clash
        by_cases c1 : 0 < z.1.2.2
        · by_cases c2 : z.2.2.1 = 0
          · trivial
          · trivial
        · trivial
      cases hz : clash z with
      | true =>
        rw [hz] at eb
        refine ⟨[.non, .val (.lst ((nextS w).map tU)), .val (.int z.1.1), .val (.int z.1.2.1), .val (.int z.1.2.2), .val (.int z.2.1), .val (.int z.2.2.1), .val (.int z.2.2.2)], ?_⟩
        rw [List.map_cons]
        unfold loopM
        rw [eg]
        dsimp only
        rw [eb]
        simp [hz]
      | false =>
        rw [hz] at eb
        refine ⟨ρ', ?_⟩
        rw [List.map_cons]
        unfold loopM
        rw [eg]
        dsimp only
        rw [eb]
        simp only [Bool.false_eq_true, if_false, kills, List.set_cons_zero, List.set_cons_succ, List.any_cons, hz, Bool.false_or]
        exact ih
  obtain ⟨ρ', e2⟩ := st ((nextS w).zip ((nextS w).drop 1))
  clear st
  rw [e2]
  unfold singleS
  cases hc : ((nextS w).zip ((nextS w).drop 1)).any clash with
  | true =>
    trivial
  | false =>
    trivial
end Sg
set_option Elab.async false
set_option linter.all false
set_option maxRecDepth 100000
set_option maxHeartbeats 1000000
namespace Sg
open PySem L2
variable {K : PySem.W.Frag}
theorem eq_plain_plain : (oEq (K := K)).f (.str "plain") (.str "plain") = some (.bl true) := by rw [oEq_s _ _ (by decide +kernel) (by decide +kernel)]; rfl
theorem eq_plain_single : (oEq (K := K)).f (.str "plain") (.str "single") = some (.bl false) := by rw [oEq_s _ _ (by decide +kernel) (by decide +kernel)]; rfl
theorem eq_plain_next : (oEq (K := K)).f (.str "plain") (.str "next") = some (.bl false) := by rw [oEq_s _ _ (by decide +kernel) (by decide +kernel)]; rfl
theorem eq_plain_block : (oEq (K := K)).f (.str "plain") (.str "block") = some (.bl false) := by rw [oEq_s _ _ (by decide +kernel) (by decide +kernel)]; rfl
theorem in_plain : (oIn (K := K) true).f (.str "plain") (.tup [.str "plain", .str "single", .str "next", .str "block", .str "later"]) = some (.bl false) := rfl
theorem look_plain : List.lookup ("Plain" : Str) (tab_signs K) = some (mf_Plain_signs K) := rfl
theorem eq_single_plain : (oEq (K := K)).f (.str "single") (.str "plain") = some (.bl false) := by rw [oEq_s _ _ (by decide +kernel) (by decide +kernel)]; rfl
theorem eq_single_single : (oEq (K := K)).f (.str "single") (.str "single") = some (.bl true) := by rw [oEq_s _ _ (by decide +kernel) (by decide +kernel)]; rfl
theorem eq_single_next : (oEq (K := K)).f (.str "single") (.str "next") = some (.bl false) := by rw [oEq_s _ _ (by decide +kernel) (by decide +kernel)]; rfl
theorem eq_single_block : (oEq (K := K)).f (.str "single") (.str "block") = some (.bl false) := by rw [oEq_s _ _ (by decide +kernel) (by decide +kernel)]; rfl
theorem in_single : (oIn (K := K) true).f (.str "single") (.tup [.str "plain", .str "single", .str "next", .str "block", .str "later"]) = some (.bl false) := rfl
theorem look_single : List.lookup ("Single" : Str) (tab_signs K) = some (mf_Single_signs K) := rfl
theorem eq_next_plain : (oEq (K := K)).f (.str "next") (.str "plain") = some (.bl false) := by rw [oEq_s _ _ (by decide +kernel) (by decide +kernel)]; rfl
theorem eq_next_single : (oEq (K := K)).f (.str "next") (.str "single") = some (.bl false) := by rw [oEq_s _ _ (by decide +kernel) (by decide +kernel)]; rfl
theorem eq_next_next : (oEq (K := K)).f (.str "next") (.str "next") = some (.bl true) := by rw [oEq_s _ _ (by decide +kernel) (by decide +kernel)]; rfl
theorem eq_next_block : (oEq (K := K)).f (.str "next") (.str "block") = some (.bl false) := by rw [oEq_s _ _ (by decide +kernel) (by decide +kernel)]; rfl
theorem in_next : (oIn (K := K) true).f (.str "next") (.tup [.str "plain", .str "single", .str "next", .str "block", .str "later"]) = some (.bl false) := rfl
theorem look_next : List.lookup ("Next" : Str) (tab_signs K) = some (mf_Next_signs K) := rfl
theorem eq_block_plain : (oEq (K := K)).f (.str "block") (.str "plain") = some (.bl false) := by rw [oEq_s _ _ (by decide +kernel) (by decide +kernel)]; rfl
theorem eq_block_single : (oEq (K := K)).f (.str "block") (.str "single") = some (.bl false) := by rw [oEq_s _ _ (by decide +kernel) (by decide +kernel)]; rfl
theorem eq_block_next : (oEq (K := K)).f (.str "block") (.str "next") = some (.bl false) := by rw [oEq_s _ _ (by decide +kernel) (by decide +kernel)]; rfl
theorem eq_block_block : (oEq (K := K)).f (.str "block") (.str "block") = some (.bl true) := by rw [oEq_s _ _ (by decide +kernel) (by decide +kernel)]; rfl
theorem in_block : (oIn (K := K) true).f (.str "block") (.tup [.str "plain", .str "single", .str "next", .str "block", .str "later"]) = some (.bl false) := rfl
theorem look_block : List.lookup ("Block" : Str) (tab_signs K) = some (mf_Block_signs K) := rfl
theorem eq_later_plain : (oEq (K := K)).f (.str "later") (.str "plain") = some (.bl false) := by rw [oEq_s _ _ (by decide +kernel) (by decide +kernel)]; rfl
theorem eq_later_single : (oEq (K := K)).f (.str "later") (.str "single") = some (.bl false) := by rw [oEq_s _ _ (by decide +kernel) (by decide +kernel)]; rfl
theorem eq_later_next : (oEq (K := K)).f (.str "later") (.str "next") = some (.bl false) := by rw [oEq_s _ _ (by decide +kernel) (by decide +kernel)]; rfl
theorem eq_later_block : (oEq (K := K)).f (.str "later") (.str "block") = some (.bl false) := by rw [oEq_s _ _ (by decide +kernel) (by decide +kernel)]; rfl
theorem in_later : (oIn (K := K) true).f (.str "later") (.tup [.str "plain", .str "single", .str "next", .str "block", .str "later"]) = some (.bl false) := rfl
theorem look_later : List.lookup ("Later" : Str) (tab_signs K) = some (mf_Later_signs K) := rfl
local macro_rules | `(tactic| trivial) => `(tactic| simp -implicitDefEqProofs (disch := omega) only [*, mC_m, mVar_m, mLook_m, mLet_m, mNil_m, msNil_m, msSeq_m, msAsgF_m, msDrop_m, msRet_m, msRetF_m, msRaise_m, msFor_m, mtYes_m, mLc_m, mcNil_m, mcCel_m, mCall_m, moNone_m, moSome_m, mSlL_m, mBi_m, mBiF_m, miList_m, miTup_m, miRng1_m, miEnum_m, miZip_m, mMeth_m, msSet_m, mCat_m, mRepeat_m, mChain_m, mIsi_m, mRev_m, mListRng_m, mCallF_m, msParVV_m, mMethD_m, mNew_m, mCMeth_m, mConC_m, msTry_m, mSup_m, okE_some, okE_none, opE_ok, opE_ex, opF_ok, opF_ex, mOp_e, mIx_e, unE_ok, mUn_e, coE_ok, coE_ex, coF_ok, coF_ex, mCons_e, bindAE_ok, bindAE_ex, mTup_e, tupF_e, mFr_e, lstF_ok, mLst_e, tsE_ok, tsE_ex, mTest_e, okT_some, truE_ok, truE_ex, mTru_e, anE_t, anE_f, anE_ok, orE_t, orE_f, orE_ok, mAnd_e, mOr_e, noE_ok, noE_ex, mNot_e, blV_ok, blV_ex, anV_t, anV_f, anV_ok, orV_t, orV_f, orV_ok, mAndV_e, mOrV_e, noV_ok, noV_ex, mNotV_e, ifV_t, ifV_f, ifV_ok, mIf_e, ifS_t, ifS_f, ifS_ok, ifS_ex, msIf_e, nxO_some, asE_ok, asE_ex, msAsg_e, gcE_some, mgCons_e, mgNil_e, mgTup_e, mgName_e, cvE_ok, cvE_ex, consC_ok, mcVal_e, thenS_nx, thenS_bk, thenS_ct, thenS_rt, thenS_ex, bindES_ok, bindES_ex, bindAS_ok, bindAS_ex, bindE_ok, bindE_ex, mfOf_e, mfOf0_e, noX_val, noX_cel, coM_some, fin_val, fin_cel, fin_nx, fin_ex, oAdd_i, oSub_i, oMul_l, oMul_r, oMod_i, oDiv_i, oPow_i, oLt_i, oLe_i, oGt_i, oGe_i, oEqI_i, oIx_l, oIx_f, oIx_t, at1_0, at2_0, at2_1, at3_0, at3_1, at3_2, at4_0, at4_1, at4_2, at4_3, ix3_0, ix3_1, ix3_2, oMax2_i, oMin2_i, oAbs_i, oInt_b, oLen_l, oLen_f, oLen_t, oNeg_i, truU_i, truU_l, truU_b, truU_n, lstU_l, lstU_f, oAppend_u, lstF_0, tupF_0, lstF_1, tupF_1, lstF_2, tupF_2, lstF_3, tupF_3, lstF_4, tupF_4, lstF_5, tupF_5, lstF_6, tupF_6, isi_NoneType_bool, isi_NoneType_int, isi_NoneType_str, isi_NoneType_list, isi_NoneType_tuple, isi_NoneType_dict, isi_bool_bool, isi_bool_int, isi_bool_str, isi_bool_list, isi_bool_tuple, isi_bool_dict, isi_int_bool, isi_int_int, isi_int_str, isi_int_list, isi_int_tuple, isi_int_dict, isi_str_bool, isi_str_int, isi_str_str, isi_str_list, isi_str_tuple, isi_str_dict, isi_list_bool, isi_list_int, isi_list_str, isi_list_list, isi_list_tuple, isi_list_dict, isi_tuple_bool, isi_tuple_int, isi_tuple_str, isi_tuple_list, isi_tuple_tuple, isi_tuple_dict, isi_dict_bool, isi_dict_int, isi_dict_str, isi_dict_list, isi_dict_tuple, isi_dict_dict, tyU_n, tyU_b, tyU_i, tyU_s, tyU_l, tyU_t, rngOk_i, zipU_map, intsU_map, blsU_map, oAll_l, oSum_l, cutU_1, cutU_m1, drop_map, reverse_map, length_map', dropLast_map, oEq_i, oNe_i, oEq_b, oNe_b, oEq_nn, oNe_nn, oEq_tt, oNe_tt, oEq_tn, oNe_tn, oEq_nt, oNe_nt, oEq_pp, oNe_pp, oEq_ii, oNe_ii, List.zip_cons_cons, List.zip_nil_left, mCallF_m, oMul_s, oPowX_i, mMakeS_m, mMakeL_m, mFld_m, mProp_m, mnSeq_m, mnS_m, mnF_m, at0_e, allX_const, seqU_l, seqU_f, seqU_t, pm_nil, pm_cons, List.mem_singleton, and_self, scV_b, scV_i, scV_s, scV_n, Option.isSome_some, tyU_d, mgTup_2, mgTup_3, mgTup_4, or_false, false_or, or_self, or_true, true_or, Nat.reduceBEq, bindEA_ok, bindEA_ex, unown, kills, cellAt, List.map_cons, List.map_nil, List.length_cons, List.length_nil, List.cons_append, List.nil_append, List.replicate, List.getElem?_cons_succ, List.getElem?_cons_zero, List.set_cons_zero, List.set_cons_succ, Option.map_some, Option.map_none, Option.bind_some, Option.bind_none, Nat.reduceAdd, Nat.reduceSub, Nat.reduceLeDiff, Int.reduceLT, Int.reduceLE, Int.reduceNeg, Int.reduceToNat, Int.reducePow, decide_eq_true_eq, reduceIte, eq_self, ite_true, ite_false, Bool.false_eq_true, reduceCtorEq, resolve, celJ, nCel, Slot.isC, List.filter, putJ, callM, callMF, List.append_eq, Nat.reduceLT, Int.reduceMul, Int.reduceAdd, Int.reduceSub, ne_eq, not_true_eq_false, not_false_eq_true, Bool.not_false, Bool.not_true, decide_true, decide_false, frF, Int.cast_ofNat_Int, Bool.and_true, Bool.true_and, Bool.false_and, Bool.and_false, Bool.or_false, Bool.false_or, Bool.true_or, Bool.or_true, eq_plain_plain, eq_plain_single, eq_plain_next, eq_plain_block, in_plain, look_plain, eq_single_plain, eq_single_single, eq_single_next, eq_single_block, in_single, look_single, eq_next_plain, eq_next_single, eq_next_next, eq_next_block, in_next, look_next, eq_block_plain, eq_block_single, eq_block_next, eq_block_block, in_block, look_block, eq_later_plain, eq_later_single, eq_later_next, eq_later_block, in_later, look_later])
local macro_rules | `(tactic| ac_rfl) => `(tactic| (simp -implicitDefEqProofs (disch := omega) only [*, mC_m, mVar_m, mLook_m, mLet_m, mNil_m, msNil_m, msSeq_m, msAsgF_m, msDrop_m, msRet_m, msRetF_m, msRaise_m, msFor_m, mtYes_m, mLc_m, mcNil_m, mcCel_m, mCall_m, moNone_m, moSome_m, mSlL_m, mBi_m, mBiF_m, miList_m, miTup_m, miRng1_m, miEnum_m, miZip_m, mMeth_m, msSet_m, mCat_m, mRepeat_m, mChain_m, mIsi_m, mRev_m, mListRng_m, mCallF_m, msParVV_m, mMethD_m, mNew_m, mCMeth_m, mConC_m, msTry_m, mSup_m, okE_some, okE_none, opE_ok, opE_ex, opF_ok, opF_ex, mOp_e, mIx_e, unE_ok, mUn_e, coE_ok, coE_ex, coF_ok, coF_ex, mCons_e, bindAE_ok, bindAE_ex, mTup_e, tupF_e, mFr_e, lstF_ok, mLst_e, tsE_ok, tsE_ex, mTest_e, okT_some, truE_ok, truE_ex, mTru_e, anE_t, anE_f, anE_ok, orE_t, orE_f, orE_ok, mAnd_e, mOr_e, noE_ok, noE_ex, mNot_e, blV_ok, blV_ex, anV_t, anV_f, anV_ok, orV_t, orV_f, orV_ok, mAndV_e, mOrV_e, noV_ok, noV_ex, mNotV_e, ifV_t, ifV_f, ifV_ok, mIf_e, ifS_t, ifS_f, ifS_ok, ifS_ex, msIf_e, nxO_some, asE_ok, asE_ex, msAsg_e, gcE_some, mgCons_e, mgNil_e, mgTup_e, mgName_e, cvE_ok, cvE_ex, consC_ok, mcVal_e, thenS_nx, thenS_bk, thenS_ct, thenS_rt, thenS_ex, bindES_ok, bindES_ex, bindAS_ok, bindAS_ex, bindE_ok, bindE_ex, mfOf_e, mfOf0_e, noX_val, noX_cel, coM_some, fin_val, fin_cel, fin_nx, fin_ex, oAdd_i, oSub_i, oMul_l, oMul_r, oMod_i, oDiv_i, oPow_i, oLt_i, oLe_i, oGt_i, oGe_i, oEqI_i, oIx_l, oIx_f, oIx_t, at1_0, at2_0, at2_1, at3_0, at3_1, at3_2, at4_0, at4_1, at4_2, at4_3, ix3_0, ix3_1, ix3_2, oMax2_i, oMin2_i, oAbs_i, oInt_b, oLen_l, oLen_f, oLen_t, oNeg_i, truU_i, truU_l, truU_b, truU_n, lstU_l, lstU_f, oAppend_u, lstF_0, tupF_0, lstF_1, tupF_1, lstF_2, tupF_2, lstF_3, tupF_3, lstF_4, tupF_4, lstF_5, tupF_5, lstF_6, tupF_6, isi_NoneType_bool, isi_NoneType_int, isi_NoneType_str, isi_NoneType_list, isi_NoneType_tuple, isi_NoneType_dict, isi_bool_bool, isi_bool_int, isi_bool_str, isi_bool_list, isi_bool_tuple, isi_bool_dict, isi_int_bool, isi_int_int, isi_int_str, isi_int_list, isi_int_tuple, isi_int_dict, isi_str_bool, isi_str_int, isi_str_str, isi_str_list, isi_str_tuple, isi_str_dict, isi_list_bool, isi_list_int, isi_list_str, isi_list_list, isi_list_tuple, isi_list_dict, isi_tuple_bool, isi_tuple_int, isi_tuple_str, isi_tuple_list, isi_tuple_tuple, isi_tuple_dict, isi_dict_bool, isi_dict_int, isi_dict_str, isi_dict_list, isi_dict_tuple, isi_dict_dict, tyU_n, tyU_b, tyU_i, tyU_s, tyU_l, tyU_t, rngOk_i, zipU_map, intsU_map, blsU_map, oAll_l, oSum_l, cutU_1, cutU_m1, drop_map, reverse_map, length_map', dropLast_map, oEq_i, oNe_i, oEq_b, oNe_b, oEq_nn, oNe_nn, oEq_tt, oNe_tt, oEq_tn, oNe_tn, oEq_nt, oNe_nt, oEq_pp, oNe_pp, oEq_ii, oNe_ii, List.zip_cons_cons, List.zip_nil_left, mCallF_m, oMul_s, oPowX_i, mMakeS_m, mMakeL_m, mFld_m, mProp_m, mnSeq_m, mnS_m, mnF_m, at0_e, allX_const, seqU_l, seqU_f, seqU_t, pm_nil, pm_cons, List.mem_singleton, and_self, scV_b, scV_i, scV_s, scV_n, Option.isSome_some, tyU_d, mgTup_2, mgTup_3, mgTup_4, or_false, false_or, or_self, or_true, true_or, Nat.reduceBEq, bindEA_ok, bindEA_ex, unown, kills, cellAt, List.map_cons, List.map_nil, List.length_cons, List.length_nil, List.cons_append, List.nil_append, List.replicate, List.getElem?_cons_succ, List.getElem?_cons_zero, List.set_cons_zero, List.set_cons_succ, Option.map_some, Option.map_none, Option.bind_some, Option.bind_none, Nat.reduceAdd, Nat.reduceSub, Nat.reduceLeDiff, Int.reduceLT, Int.reduceLE, Int.reduceNeg, Int.reduceToNat, Int.reducePow, decide_eq_true_eq, reduceIte, eq_self, ite_true, ite_false, Bool.false_eq_true, reduceCtorEq, resolve, celJ, nCel, Slot.isC, List.filter, putJ, callM, callMF, List.append_eq, Nat.reduceLT, Int.reduceMul, Int.reduceAdd, Int.reduceSub, ne_eq, not_true_eq_false, not_false_eq_true, Bool.not_false, Bool.not_true, decide_true, decide_false, frF, Int.cast_ofNat_Int, Bool.and_true, Bool.true_and, Bool.false_and, Bool.and_false, Bool.or_false, Bool.false_or, Bool.true_or, Bool.or_true, G__law_all_rows_0, T__law_all_rows_1, E__law_all_rows_2, G__law_all_rows_3, G__law_all_rows_5, G__law_runs_0, G_is_run_0, T_is_run_1, E_is_run_2, G_are_runs_0, T_are_runs_1, E_are_runs_2, G_are_runs_3, T_are_runs_4, E_are_runs_5, G_Plain_signs_0, T_Plain_signs_1, E_Plain_signs_2, G_Next_signs_0, G_Single_signs_0, G_Block_signs_0, G_Later_signs_0, G_signs_of_0, T_signs_of_1, E_signs_of_2, G_value_of_0, T_value_of_1, E_value_of_2, G_are_values_0, T_are_values_1, E_are_values_2, G_are_values_3, T_are_values_4, E_are_values_5, G_count_agreeing_0, T_count_agreeing_1, E_count_agreeing_2, E_count_agreeing_3, G_count_agreeing_4, G_count_agreeing_6, G_count_agreeing_8, G__law_right_0, T__law_right_1, E__law_right_2, G__law_right_3, T__law_right_4, E__law_right_5, G__law_right_6, T__law_right_7, E__law_right_8, G__law_right_9, T__law_right_10, E__law_right_11, G__law_right_12, G__law_right_14, T__law_right_15, E__law_right_16, G__law_right_17, G__law_values_0, T__law_values_1, E__law_values_2, G_law_0, eq_plain_plain, eq_plain_single, eq_plain_next, eq_plain_block, in_plain, look_plain, eq_single_plain, eq_single_single, eq_single_next, eq_single_block, in_single, look_single, eq_next_plain, eq_next_single, eq_next_next, eq_next_block, in_next, look_next, eq_block_plain, eq_block_single, eq_block_next, eq_block_block, in_block, look_block, eq_later_plain, eq_later_single, eq_later_next, eq_later_block, in_later, look_later]; try rfl))
def signsN : Kd → List (Int × Int) → Option (List (Int × Int × Int))
  | .plain, w => some (plainS w)
  | .single, w => singleS w
  | .next, w => some (nextS w)
  | .block, w => some (blockS w)
  | .later, w => some (laterS w)
theorem rule_of_k (k : Kd) : mf_rule_of K [.val (.str k.s)] = some (.val (.ins k.c []) none) := by
  unfold mf_rule_of M_rule_of
  cases k <;> (dsimp only [Kd.s, Kd.c]; trivial)
theorem named_k (k : Kd) : mf_Rule_named K [.val (.ref (He.ga K "Rule")), .val (.str k.s)] = some (.val (.ins k.c []) none) := by
  have e := rule_of_k (K := K) k
  unfold mf_Rule_named M_Rule_named
  cases k <;> (dsimp only [Kd.s, Kd.c] at e ⊢; trivial)
def sigO (o : Option (List (Int × Int × Int))) : CO := match o with
  | some t => .val (.lst (t.map tU)) none
  | none => .ex ⟨"InvalidWord", none⟩ none
theorem signs_k (k : Kd) (w : List (Int × Int)) (h : WordOk w) : ∃ mf, List.lookup k.c (tab_signs K) = some mf ∧ mf [.val (.ins k.c []), .val (.lst (w.map pU))] = some (sigO (signsN k w)) := by
  cases k with
  | plain => exact ⟨_, rfl, plain_w _ w h⟩
  | single => exact ⟨_, rfl, by rw [show Kd.single.c = "Single" from rfl, single_w w h]; simp only [signsN, sigO]; try (cases singleS w <;> rfl)⟩
  | next => exact ⟨_, rfl, next_w _ w h⟩
  | block => exact ⟨_, rfl, block_w _ w h⟩
  | later => exact ⟨_, rfl, later_w w h⟩
def valT (t : Int × Int × Int) : Int := t.1 * (t.2.1 - t.2.2)
abbrev Tr := Int × Int × Int
def rowN : Kd → List (Int × Int) → List Tr
  | .plain, w => plainS w
  | .single, w => nextS w
  | .next, w => nextS w
  | .block, w => blockS w
  | .later, w => laterS w
theorem signs_some (k : Kd) (w : List (Int × Int)) (t : List Tr) (h : signsN k w = some t) : t = rowN k w := by
  cases k with
  | single =>
    have h' : singleS w = some t := h
    unfold singleS at h'
    split at h'
    · cases h'
    · cases h'; rfl
  | _ => cases h; rfl
theorem plainS_run (w : List (Int × Int)) : (plainS w).map runT = w := by
  unfold plainS
  rw [List.map_map]
  have : (runT ∘ fun p : Int × Int => (p.1, p.2, (0 : Int))) = id := by funext p; simp [runT]
  rw [this, List.map_id]
theorem nextS_run : ∀ w, (nextS w).map runT = w
  | [] => rfl
  | p :: r => by rw [nextS, List.map_cons, nextS_run r]; simp [runT]
theorem laterS_run : ∀ w, (laterS w).map runT = w
  | [] => rfl
  | p :: r => by rw [laterS, List.map_cons, sign_run, laterS_run r]
theorem row_len (k : Kd) (w : List (Int × Int)) : (rowN k w).length = w.length := by
  cases k with
  | plain => simp [rowN, plainS]
  | single => exact nextS_length w
  | next => exact nextS_length w
  | block => exact blockS_length w
  | later => exact laterS_length w
theorem row_run (k : Kd) (w : List (Int × Int)) : (rowN k w).map runT = w := by
  cases k with
  | plain => exact plainS_run w
  | single => exact nextS_run w
  | next => exact nextS_run w
  | block => exact blockS_run w
  | later => exact laterS_run w
theorem sign_part (b : Bool) (p : Int × Int) (h : 0 ≤ p.2) : 0 ≤ (sign b p).2.1 ∧ 0 ≤ (sign b p).2.2 := by cases b <;> simp [sign, h]
theorem next_part : ∀ (w : List (Int × Int)), (∀ p ∈ w, 1 ≤ p.2) → ∀ x ∈ nextS w, 0 ≤ x.2.1 ∧ 0 ≤ x.2.2
  | [], _, x, hx => by simp [nextS] at hx
  | p :: r, h, x, hx => by
    rcases List.mem_cons.mp (show x ∈ (p.1, p.2 - minusN p.1 r, minusN p.1 r) :: nextS r from hx) with z | z
    · have := h p List.mem_cons_self
      rw [z]
      have m : minusN p.1 r = 0 ∨ minusN p.1 r = 1 := by
        cases r with
        | nil => exact .inl rfl
        | cons q r => simp only [minusN]; split <;> simp
      rcases m with m | m <;> simp only [m] <;> omega
    · exact next_part r (fun q hq => h q (List.mem_cons_of_mem _ hq)) x z
theorem row_part (k : Kd) (w : List (Int × Int)) (h : ∀ p ∈ w, 1 ≤ p.2) : ∀ x ∈ rowN k w, 0 ≤ x.2.1 ∧ 0 ≤ x.2.2 := by
  cases k with
  | plain =>
    intro x hx
    obtain ⟨p, hp, rfl⟩ := List.mem_map.mp (show x ∈ plainS w from hx)
    have := h p hp
    exact ⟨by show 0 ≤ p.2; omega, Int.le_refl 0⟩
  | single => exact next_part w h
  | next => exact next_part w h
  | block =>
    have key : ∀ w : List (Int × Int), (∀ p ∈ w, 1 ≤ p.2) → ∀ x ∈ blockS w, 0 ≤ x.2.1 ∧ 0 ≤ x.2.2 := by
      intro w
      induction w with
      | nil => intro _ x hx; simp [blockS] at hx
      | cons p r ih =>
        intro h x hx
        rcases List.mem_cons.mp (show x ∈ sign (decide (p.1 < headv r)) p :: blockS r from hx) with z | z
        · rw [z]; exact sign_part _ p (by have := h p List.mem_cons_self; omega)
        · exact ih (fun q hq => h q (List.mem_cons_of_mem _ hq)) x z
    exact key w h
  | later =>
    have key : ∀ w : List (Int × Int), (∀ p ∈ w, 1 ≤ p.2) → ∀ x ∈ laterS w, 0 ≤ x.2.1 ∧ 0 ≤ x.2.2 := by
      intro w
      induction w with
      | nil => intro _ x hx; simp [laterS] at hx
      | cons p r ih =>
        intro h x hx
        rcases List.mem_cons.mp (show x ∈ sign (decide (p.1 < maxv r)) p :: laterS r from hx) with z | z
        · rw [z]; exact sign_part _ p (by have := h p List.mem_cons_self; omega)
        · exact ih (fun q hq => h q (List.mem_cons_of_mem _ hq)) x z
    exact key w h
structure WordS (w : List (Int × Int)) : Prop where
  ok : WordOk w
  sm : ∀ p ∈ w, p.1 < 100000000000000000000000000000000000000000000000000000000000000 ∧ p.2 < 100000000000000000000000000000000000000000000000000000000000000
theorem row_bd (k : Kd) (w : List (Int × Int)) (h : WordS w) : ∀ x ∈ rowN k w, (-100000000000000000000000000000000000000000000000000000000000000 < x.1 ∧ x.1 < 100000000000000000000000000000000000000000000000000000000000000) ∧ -100000000000000000000000000000000000000000000000000000000000000 < x.2.1 - x.2.2 ∧ x.2.1 - x.2.2 < 100000000000000000000000000000000000000000000000000000000000000 := fun x hx => by
  have h1 : runT x ∈ w := by rw [← row_run k w]; exact List.mem_map_of_mem hx
  obtain ⟨a, b⟩ := h.sm _ h1
  obtain ⟨c, d⟩ := h.ok.runs _ h1
  obtain ⟨e, f⟩ := row_part k w (fun p hp => (h.ok.runs p hp).2) x hx
  have b' : x.2.1 + x.2.2 < 100000000000000000000000000000000000000000000000000000000000000 := b
  have a' : x.1 < 100000000000000000000000000000000000000000000000000000000000000 := a
  have c' : 1 ≤ x.1 := c
  omega
def sumN (k : Kd) (w : List (Int × Int)) : Int := ((rowN k w).map valT).sum
end Sg
set_option Elab.async false
set_option linter.all false
set_option maxRecDepth 100000
set_option maxHeartbeats 1000000
namespace Sg
open PySem L2
variable {K : PySem.W.Frag}
theorem look_hv (u v : U) : List.lookup ("held_values" : Str) [(("held_values" : Str), u), (("held_rule" : Str), v)] = some u := rfl
theorem look_hr (u v : U) : List.lookup ("held_rule" : Str) [(("held_values" : Str), u), (("held_rule" : Str), v)] = some v := rfl
theorem ptab_row_S : List.lookup ("System" : Str) (ptab_row K) = some (mf_System_row K) := rfl
theorem ptab_rule_S : List.lookup ("System" : Str) (ptab_rule K) = some (mf_System_rule K) := rfl
theorem put_2 (u v : U) : putU ("held_rule" : Str) v [(("held_values" : Str), u)] = [(("held_values" : Str), u), (("held_rule" : Str), v)] := rfl
theorem inR_plain : (oIn (K := K) false).f (.str "plain") (.tup [.str "plain", .str "single", .str "next", .str "block", .str "later"]) = some (.bl true) := rfl
theorem inR_single : (oIn (K := K) false).f (.str "single") (.tup [.str "plain", .str "single", .str "next", .str "block", .str "later"]) = some (.bl true) := rfl
theorem inR_next : (oIn (K := K) false).f (.str "next") (.tup [.str "plain", .str "single", .str "next", .str "block", .str "later"]) = some (.bl true) := rfl
theorem inR_block : (oIn (K := K) false).f (.str "block") (.tup [.str "plain", .str "single", .str "next", .str "block", .str "later"]) = some (.bl true) := rfl
theorem inR_later : (oIn (K := K) false).f (.str "later") (.tup [.str "plain", .str "single", .str "next", .str "block", .str "later"]) = some (.bl true) := rfl
theorem flL_int : ∀ vs : List Int, flL (vs.map U.int) = some (vs.map V.int)
  | [] => rfl
  | v :: vs => by
    rw [List.map_cons, List.map_cons, flL, flL_int vs]
    rfl
theorem oIn_int (v : Int) (vs : List Int) : (oIn (K := K) false).f (.int v) (.lst (vs.map U.int)) = some (.bl (decide (v ∈ vs))) := by
  show (inU (.int v) (.lst (vs.map U.int))).map _ = _
  have e : inU (.int v) (.lst (vs.map U.int)) = some (inV (.int v) (vs.map V.int)) := by
    show (flL (vs.map U.int)).map _ = _
    rw [flL_int]; rfl
  rw [e, Option.map_some]
  have e2 : inV (.int v) (vs.map V.int) = decide (v ∈ vs) := by
    unfold inV
    induction vs with
    | nil => rfl
    | cons x xs ih =>
      have i2 := ih (by show (flL (xs.map U.int)).map _ = _; rw [flL_int]; rfl)
      rw [List.map_cons, List.any_cons, i2]
      show ((x == v) || _) = _
      by_cases c : v = x
      · subst c; simp
      · have : (x == v) = false := by simp; omega
        rw [this]; simp [c]
  rw [e2]; rfl
theorem oList_l (us : List U) : (oList (K := K)).f [.lst us] = some us := rfl
theorem oList_t (us : List U) : (oList (K := K)).f [.tup us] = some us := rfl
local macro_rules | `(tactic| trivial) => `(tactic| simp -implicitDefEqProofs (disch := omega) only [*, mC_m, mVar_m, mLook_m, mLet_m, mNil_m, msNil_m, msSeq_m, msAsgF_m, msDrop_m, msRet_m, msRetF_m, msRaise_m, msFor_m, mtYes_m, mLc_m, mcNil_m, mcCel_m, mCall_m, moNone_m, moSome_m, mSlL_m, mBi_m, mBiF_m, miList_m, miTup_m, miRng1_m, miEnum_m, miZip_m, mMeth_m, msSet_m, mCat_m, mRepeat_m, mChain_m, mIsi_m, mRev_m, mListRng_m, mCallF_m, msParVV_m, mMethD_m, mNew_m, mCMeth_m, mConC_m, msTry_m, mSup_m, okE_some, okE_none, opE_ok, opE_ex, opF_ok, opF_ex, mOp_e, mIx_e, unE_ok, mUn_e, coE_ok, coE_ex, coF_ok, coF_ex, mCons_e, bindAE_ok, bindAE_ex, mTup_e, tupF_e, mFr_e, lstF_ok, mLst_e, tsE_ok, tsE_ex, mTest_e, okT_some, truE_ok, truE_ex, mTru_e, anE_t, anE_f, anE_ok, orE_t, orE_f, orE_ok, mAnd_e, mOr_e, noE_ok, noE_ex, mNot_e, blV_ok, blV_ex, anV_t, anV_f, anV_ok, orV_t, orV_f, orV_ok, mAndV_e, mOrV_e, noV_ok, noV_ex, mNotV_e, ifV_t, ifV_f, ifV_ok, mIf_e, ifS_t, ifS_f, ifS_ok, ifS_ex, msIf_e, nxO_some, asE_ok, asE_ex, msAsg_e, gcE_some, mgCons_e, mgNil_e, mgTup_e, mgName_e, cvE_ok, cvE_ex, consC_ok, mcVal_e, thenS_nx, thenS_bk, thenS_ct, thenS_rt, thenS_ex, bindES_ok, bindES_ex, bindAS_ok, bindAS_ex, bindE_ok, bindE_ex, mfOf_e, mfOf0_e, noX_val, noX_cel, coM_some, fin_val, fin_cel, fin_nx, fin_ex, oAdd_i, oSub_i, oMul_l, oMul_r, oMod_i, oDiv_i, oPow_i, oLt_i, oLe_i, oGt_i, oGe_i, oEqI_i, oIx_l, oIx_f, oIx_t, at1_0, at2_0, at2_1, at3_0, at3_1, at3_2, at4_0, at4_1, at4_2, at4_3, ix3_0, ix3_1, ix3_2, oMax2_i, oMin2_i, oAbs_i, oInt_b, oLen_l, oLen_f, oLen_t, oNeg_i, truU_i, truU_l, truU_b, truU_n, lstU_l, lstU_f, oAppend_u, lstF_0, tupF_0, lstF_1, tupF_1, lstF_2, tupF_2, lstF_3, tupF_3, lstF_4, tupF_4, lstF_5, tupF_5, lstF_6, tupF_6, isi_NoneType_bool, isi_NoneType_int, isi_NoneType_str, isi_NoneType_list, isi_NoneType_tuple, isi_NoneType_dict, isi_bool_bool, isi_bool_int, isi_bool_str, isi_bool_list, isi_bool_tuple, isi_bool_dict, isi_int_bool, isi_int_int, isi_int_str, isi_int_list, isi_int_tuple, isi_int_dict, isi_str_bool, isi_str_int, isi_str_str, isi_str_list, isi_str_tuple, isi_str_dict, isi_list_bool, isi_list_int, isi_list_str, isi_list_list, isi_list_tuple, isi_list_dict, isi_tuple_bool, isi_tuple_int, isi_tuple_str, isi_tuple_list, isi_tuple_tuple, isi_tuple_dict, isi_dict_bool, isi_dict_int, isi_dict_str, isi_dict_list, isi_dict_tuple, isi_dict_dict, tyU_n, tyU_b, tyU_i, tyU_s, tyU_l, tyU_t, rngOk_i, zipU_map, intsU_map, blsU_map, oAll_l, oSum_l, cutU_1, cutU_m1, drop_map, reverse_map, length_map', dropLast_map, oEq_i, oNe_i, oEq_b, oNe_b, oEq_nn, oNe_nn, oEq_tt, oNe_tt, oEq_tn, oNe_tn, oEq_nt, oNe_nt, oEq_pp, oNe_pp, oEq_ii, oNe_ii, List.zip_cons_cons, List.zip_nil_left, mCallF_m, oMul_s, oPowX_i, mMakeS_m, mMakeL_m, mFld_m, mProp_m, mnSeq_m, mnS_m, mnF_m, at0_e, allX_const, seqU_l, seqU_f, seqU_t, pm_nil, pm_cons, List.mem_singleton, and_self, scV_b, scV_i, scV_s, scV_n, Option.isSome_some, tyU_d, mgTup_2, mgTup_3, mgTup_4, or_false, false_or, or_self, or_true, true_or, Nat.reduceBEq, bindEA_ok, bindEA_ex, unown, kills, cellAt, List.map_cons, List.map_nil, List.length_cons, List.length_nil, List.cons_append, List.nil_append, List.replicate, List.getElem?_cons_succ, List.getElem?_cons_zero, List.set_cons_zero, List.set_cons_succ, Option.map_some, Option.map_none, Option.bind_some, Option.bind_none, Nat.reduceAdd, Nat.reduceSub, Nat.reduceLeDiff, Int.reduceLT, Int.reduceLE, Int.reduceNeg, Int.reduceToNat, Int.reducePow, decide_eq_true_eq, reduceIte, eq_self, ite_true, ite_false, Bool.false_eq_true, reduceCtorEq, resolve, celJ, nCel, Slot.isC, List.filter, putJ, callM, callMF, List.append_eq, Nat.reduceLT, Int.reduceMul, Int.reduceAdd, Int.reduceSub, ne_eq, not_true_eq_false, not_false_eq_true, Bool.not_false, Bool.not_true, decide_true, decide_false, frF, Int.cast_ofNat_Int, Bool.and_true, Bool.true_and, Bool.false_and, Bool.and_false, Bool.or_false, Bool.false_or, Bool.true_or, Bool.or_true, oList_l, oList_t, look_hv, look_hr, ptab_row_S, ptab_rule_S, put_0, put_2, inR_plain, inR_single, inR_next, inR_block, inR_later])
local macro_rules | `(tactic| ac_rfl) => `(tactic| (simp -implicitDefEqProofs (disch := omega) only [*, mC_m, mVar_m, mLook_m, mLet_m, mNil_m, msNil_m, msSeq_m, msAsgF_m, msDrop_m, msRet_m, msRetF_m, msRaise_m, msFor_m, mtYes_m, mLc_m, mcNil_m, mcCel_m, mCall_m, moNone_m, moSome_m, mSlL_m, mBi_m, mBiF_m, miList_m, miTup_m, miRng1_m, miEnum_m, miZip_m, mMeth_m, msSet_m, mCat_m, mRepeat_m, mChain_m, mIsi_m, mRev_m, mListRng_m, mCallF_m, msParVV_m, mMethD_m, mNew_m, mCMeth_m, mConC_m, msTry_m, mSup_m, okE_some, okE_none, opE_ok, opE_ex, opF_ok, opF_ex, mOp_e, mIx_e, unE_ok, mUn_e, coE_ok, coE_ex, coF_ok, coF_ex, mCons_e, bindAE_ok, bindAE_ex, mTup_e, tupF_e, mFr_e, lstF_ok, mLst_e, tsE_ok, tsE_ex, mTest_e, okT_some, truE_ok, truE_ex, mTru_e, anE_t, anE_f, anE_ok, orE_t, orE_f, orE_ok, mAnd_e, mOr_e, noE_ok, noE_ex, mNot_e, blV_ok, blV_ex, anV_t, anV_f, anV_ok, orV_t, orV_f, orV_ok, mAndV_e, mOrV_e, noV_ok, noV_ex, mNotV_e, ifV_t, ifV_f, ifV_ok, mIf_e, ifS_t, ifS_f, ifS_ok, ifS_ex, msIf_e, nxO_some, asE_ok, asE_ex, msAsg_e, gcE_some, mgCons_e, mgNil_e, mgTup_e, mgName_e, cvE_ok, cvE_ex, consC_ok, mcVal_e, thenS_nx, thenS_bk, thenS_ct, thenS_rt, thenS_ex, bindES_ok, bindES_ex, bindAS_ok, bindAS_ex, bindE_ok, bindE_ex, mfOf_e, mfOf0_e, noX_val, noX_cel, coM_some, fin_val, fin_cel, fin_nx, fin_ex, oAdd_i, oSub_i, oMul_l, oMul_r, oMod_i, oDiv_i, oPow_i, oLt_i, oLe_i, oGt_i, oGe_i, oEqI_i, oIx_l, oIx_f, oIx_t, at1_0, at2_0, at2_1, at3_0, at3_1, at3_2, at4_0, at4_1, at4_2, at4_3, ix3_0, ix3_1, ix3_2, oMax2_i, oMin2_i, oAbs_i, oInt_b, oLen_l, oLen_f, oLen_t, oNeg_i, truU_i, truU_l, truU_b, truU_n, lstU_l, lstU_f, oAppend_u, lstF_0, tupF_0, lstF_1, tupF_1, lstF_2, tupF_2, lstF_3, tupF_3, lstF_4, tupF_4, lstF_5, tupF_5, lstF_6, tupF_6, isi_NoneType_bool, isi_NoneType_int, isi_NoneType_str, isi_NoneType_list, isi_NoneType_tuple, isi_NoneType_dict, isi_bool_bool, isi_bool_int, isi_bool_str, isi_bool_list, isi_bool_tuple, isi_bool_dict, isi_int_bool, isi_int_int, isi_int_str, isi_int_list, isi_int_tuple, isi_int_dict, isi_str_bool, isi_str_int, isi_str_str, isi_str_list, isi_str_tuple, isi_str_dict, isi_list_bool, isi_list_int, isi_list_str, isi_list_list, isi_list_tuple, isi_list_dict, isi_tuple_bool, isi_tuple_int, isi_tuple_str, isi_tuple_list, isi_tuple_tuple, isi_tuple_dict, isi_dict_bool, isi_dict_int, isi_dict_str, isi_dict_list, isi_dict_tuple, isi_dict_dict, tyU_n, tyU_b, tyU_i, tyU_s, tyU_l, tyU_t, rngOk_i, zipU_map, intsU_map, blsU_map, oAll_l, oSum_l, cutU_1, cutU_m1, drop_map, reverse_map, length_map', dropLast_map, oEq_i, oNe_i, oEq_b, oNe_b, oEq_nn, oNe_nn, oEq_tt, oNe_tt, oEq_tn, oNe_tn, oEq_nt, oNe_nt, oEq_pp, oNe_pp, oEq_ii, oNe_ii, List.zip_cons_cons, List.zip_nil_left, mCallF_m, oMul_s, oPowX_i, mMakeS_m, mMakeL_m, mFld_m, mProp_m, mnSeq_m, mnS_m, mnF_m, at0_e, allX_const, seqU_l, seqU_f, seqU_t, pm_nil, pm_cons, List.mem_singleton, and_self, scV_b, scV_i, scV_s, scV_n, Option.isSome_some, tyU_d, mgTup_2, mgTup_3, mgTup_4, or_false, false_or, or_self, or_true, true_or, Nat.reduceBEq, bindEA_ok, bindEA_ex, unown, kills, cellAt, List.map_cons, List.map_nil, List.length_cons, List.length_nil, List.cons_append, List.nil_append, List.replicate, List.getElem?_cons_succ, List.getElem?_cons_zero, List.set_cons_zero, List.set_cons_succ, Option.map_some, Option.map_none, Option.bind_some, Option.bind_none, Nat.reduceAdd, Nat.reduceSub, Nat.reduceLeDiff, Int.reduceLT, Int.reduceLE, Int.reduceNeg, Int.reduceToNat, Int.reducePow, decide_eq_true_eq, reduceIte, eq_self, ite_true, ite_false, Bool.false_eq_true, reduceCtorEq, resolve, celJ, nCel, Slot.isC, List.filter, putJ, callM, callMF, List.append_eq, Nat.reduceLT, Int.reduceMul, Int.reduceAdd, Int.reduceSub, ne_eq, not_true_eq_false, not_false_eq_true, Bool.not_false, Bool.not_true, decide_true, decide_false, frF, Int.cast_ofNat_Int, Bool.and_true, Bool.true_and, Bool.false_and, Bool.and_false, Bool.or_false, Bool.false_or, Bool.true_or, Bool.or_true, G__law_all_rows_0, T__law_all_rows_1, E__law_all_rows_2, G__law_all_rows_3, G__law_all_rows_5, G__law_runs_0, G_is_run_0, T_is_run_1, E_is_run_2, G_are_runs_0, T_are_runs_1, E_are_runs_2, G_are_runs_3, T_are_runs_4, E_are_runs_5, G_Plain_signs_0, T_Plain_signs_1, E_Plain_signs_2, G_Next_signs_0, G_Single_signs_0, G_Block_signs_0, G_Later_signs_0, G_signs_of_0, T_signs_of_1, E_signs_of_2, G_value_of_0, T_value_of_1, E_value_of_2, G_are_values_0, T_are_values_1, E_are_values_2, G_are_values_3, T_are_values_4, E_are_values_5, G_count_agreeing_0, T_count_agreeing_1, E_count_agreeing_2, E_count_agreeing_3, G_count_agreeing_4, G_count_agreeing_6, G_count_agreeing_8, G__law_right_0, T__law_right_1, E__law_right_2, G__law_right_3, T__law_right_4, E__law_right_5, G__law_right_6, T__law_right_7, E__law_right_8, G__law_right_9, T__law_right_10, E__law_right_11, G__law_right_12, G__law_right_14, T__law_right_15, E__law_right_16, G__law_right_17, G__law_values_0, T__law_values_1, E__law_values_2, G_law_0, oList_l, oList_t, look_hv, look_hr, ptab_row_S, ptab_rule_S, put_0, put_2, inR_plain, inR_single, inR_next, inR_block, inR_later]; try rfl))
structure ValsOk (vs : List Int) : Prop where
  pos : 1 ≤ vs.length
  top : vs.length ≤ 6
  bd : ∀ x ∈ vs, 1 ≤ x ∧ x ≤ 60
  asc : ∀ p ∈ vs.zip (vs.drop 1), p.1 < p.2
abbrev sysU (vs : List Int) (k : Kd) : U := .ins "System" [(("held_values" : Str), .lst (vs.map U.int)), (("held_rule" : Str), .str k.s)]
theorem are_values_k (vs : List Int) (h : ValsOk vs) : mf_are_values K [.val (.lst (vs.map U.int))] = some (.val (.bl true) none) := by
  have h1 := h.pos
  have h2 := h.top
  have e2 := all_true (K := K) vs
  have e5 := all_true (K := K) (vs.zip (vs.drop 1))
  have e3 : decide ((vs.length : Int) ≤ 6) = true := by simp; omega
  have e4 : decide (1 ≤ (vs.length : Int)) = true := by simp; omega
  unfold mf_are_values M_are_values
  trivial
  rw [lcM_all U.int (fun _ => U.bl true) vs ?hl ?hh]
  case hl => omega
  case hh =>
    intro x hx
    have e := is_integer_i (K := K) x 1
    have c1 : decide (1 ≤ x) = true := by simp; exact (h.bd x hx).1
    have c2 : decide (x ≤ 60) = true := by simp; exact (h.bd x hx).2
    clear e2 e5 e3 e4 h1 h2 h hx
    exact ⟨_, _, _, (by ac_rfl), (by ac_rfl), (by ac_rfl), rfl⟩
  trivial
  rw [lcM_all _ (fun _ => U.bl true) (vs.zip (vs.drop 1)) ?hl ?hh]
  case hl => rw [List.length_zip]; omega
  case hh =>
    intro x hx
    have e := h.asc x hx
    have e6 : decide (x.1 < x.2) = true := by simp [e]
    clear e2 e5 e3 e4 h1 h2 h hx e
    exact ⟨_, _, _, (by ac_rfl), (by ac_rfl), (by ac_rfl), rfl⟩
  trivial
theorem is_rule_k (k : Kd) : mf_is_rule K [.val (.str k.s)] = some (.val (.bl true) none) := by
  unfold mf_is_rule M_is_rule
  cases k <;> (dsimp only [Kd.s]; trivial)
theorem init_k (vs : List Int) (k : Kd) (h : ValsOk vs) (x : Addr) : initM (MN_System K) 3 x (.str k.s) (vs.map U.int) = some (.ok [(("held_values" : Str), .lst (vs.map U.int)), (("held_rule" : Str), .str k.s)]) := by
  have e1 := are_values_k (K := K) vs h
  have e2 := is_rule_k (K := K) k
  rw [initM_e]
  unfold MN_System
  clear h
  trivial
theorem of_k (vs : List Int) (k : Kd) (h : ValsOk vs) : mf_System_of K [.val (.ref (He.ga K "System")), .val (.lst (vs.map U.int)), .val (.str k.s)] = some (.val (sysU vs k) none) := by
  have e1 := are_values_k (K := K) vs h
  have e2 := init_k (K := K) vs k h
  unfold mf_System_of M_System_of
  clear h
  trivial
theorem row_k (vs : List Int) (k : Kd) : mf_System_row K [.val (sysU vs k)] = some (.val (.lst (vs.map U.int)) none) := by
  unfold mf_System_row M_System_row
  trivial
  try rfl
theorem ruleP_k (vs : List Int) (k : Kd) : mf_System_rule K [.val (sysU vs k)] = some (.val (.str k.s) none) := by
  unfold mf_System_rule M_System_rule
  trivial
end Sg
set_option Elab.async false
set_option linter.all false
set_option maxRecDepth 100000
set_option maxHeartbeats 1000000
namespace Sg
open PySem L2
variable {K : PySem.W.Frag}
theorem tab_wr : List.lookup ("System" : Str) (tab_with_rule K) = some (mf_System_with_rule K) := rfl
theorem look_wr (u v : U) : List.lookup ("with_rule" : Str) [(("held_values" : Str), u), (("held_rule" : Str), v)] = none := rfl
theorem look_sg : List.lookup ("signs" : Str) ([] : List (Str × U)) = none := rfl
theorem try_iw' : List.lookup ("InvalidWord" : Str) [(("InvalidValues" : Str), false), (("InvalidWord" : Str), true)] = some true := rfl
local macro_rules | `(tactic| trivial) => `(tactic| simp -implicitDefEqProofs (disch := omega) only [*, mC_m, mVar_m, mLook_m, mLet_m, mNil_m, msNil_m, msSeq_m, msAsgF_m, msDrop_m, msRet_m, msRetF_m, msRaise_m, msFor_m, mtYes_m, mLc_m, mcNil_m, mcCel_m, mCall_m, moNone_m, moSome_m, mSlL_m, mBi_m, mBiF_m, miList_m, miTup_m, miRng1_m, miEnum_m, miZip_m, mMeth_m, msSet_m, mCat_m, mRepeat_m, mChain_m, mIsi_m, mRev_m, mListRng_m, mCallF_m, msParVV_m, mMethD_m, mNew_m, mCMeth_m, mConC_m, msTry_m, mSup_m, okE_some, okE_none, opE_ok, opE_ex, opF_ok, opF_ex, mOp_e, mIx_e, unE_ok, mUn_e, coE_ok, coE_ex, coF_ok, coF_ex, mCons_e, bindAE_ok, bindAE_ex, mTup_e, tupF_e, mFr_e, lstF_ok, mLst_e, tsE_ok, tsE_ex, mTest_e, okT_some, truE_ok, truE_ex, mTru_e, anE_t, anE_f, anE_ok, orE_t, orE_f, orE_ok, mAnd_e, mOr_e, noE_ok, noE_ex, mNot_e, blV_ok, blV_ex, anV_t, anV_f, anV_ok, orV_t, orV_f, orV_ok, mAndV_e, mOrV_e, noV_ok, noV_ex, mNotV_e, ifV_t, ifV_f, ifV_ok, mIf_e, ifS_t, ifS_f, ifS_ok, ifS_ex, msIf_e, nxO_some, asE_ok, asE_ex, msAsg_e, gcE_some, mgCons_e, mgNil_e, mgTup_e, mgName_e, cvE_ok, cvE_ex, consC_ok, mcVal_e, thenS_nx, thenS_bk, thenS_ct, thenS_rt, thenS_ex, bindES_ok, bindES_ex, bindAS_ok, bindAS_ex, bindE_ok, bindE_ex, mfOf_e, mfOf0_e, noX_val, noX_cel, coM_some, fin_val, fin_cel, fin_nx, fin_ex, oAdd_i, oSub_i, oMul_l, oMul_r, oMod_i, oDiv_i, oPow_i, oLt_i, oLe_i, oGt_i, oGe_i, oEqI_i, oIx_l, oIx_f, oIx_t, at1_0, at2_0, at2_1, at3_0, at3_1, at3_2, at4_0, at4_1, at4_2, at4_3, ix3_0, ix3_1, ix3_2, oMax2_i, oMin2_i, oAbs_i, oInt_b, oLen_l, oLen_f, oLen_t, oNeg_i, truU_i, truU_l, truU_b, truU_n, lstU_l, lstU_f, oAppend_u, lstF_0, tupF_0, lstF_1, tupF_1, lstF_2, tupF_2, lstF_3, tupF_3, lstF_4, tupF_4, lstF_5, tupF_5, lstF_6, tupF_6, isi_NoneType_bool, isi_NoneType_int, isi_NoneType_str, isi_NoneType_list, isi_NoneType_tuple, isi_NoneType_dict, isi_bool_bool, isi_bool_int, isi_bool_str, isi_bool_list, isi_bool_tuple, isi_bool_dict, isi_int_bool, isi_int_int, isi_int_str, isi_int_list, isi_int_tuple, isi_int_dict, isi_str_bool, isi_str_int, isi_str_str, isi_str_list, isi_str_tuple, isi_str_dict, isi_list_bool, isi_list_int, isi_list_str, isi_list_list, isi_list_tuple, isi_list_dict, isi_tuple_bool, isi_tuple_int, isi_tuple_str, isi_tuple_list, isi_tuple_tuple, isi_tuple_dict, isi_dict_bool, isi_dict_int, isi_dict_str, isi_dict_list, isi_dict_tuple, isi_dict_dict, tyU_n, tyU_b, tyU_i, tyU_s, tyU_l, tyU_t, rngOk_i, zipU_map, intsU_map, blsU_map, oAll_l, oSum_l, cutU_1, cutU_m1, drop_map, reverse_map, length_map', dropLast_map, oEq_i, oNe_i, oEq_b, oNe_b, oEq_nn, oNe_nn, oEq_tt, oNe_tt, oEq_tn, oNe_tn, oEq_nt, oNe_nt, oEq_pp, oNe_pp, oEq_ii, oNe_ii, List.zip_cons_cons, List.zip_nil_left, mCallF_m, oMul_s, oPowX_i, mMakeS_m, mMakeL_m, mFld_m, mProp_m, mnSeq_m, mnS_m, mnF_m, at0_e, allX_const, seqU_l, seqU_f, seqU_t, pm_nil, pm_cons, List.mem_singleton, and_self, scV_b, scV_i, scV_s, scV_n, Option.isSome_some, tyU_d, mgTup_2, mgTup_3, mgTup_4, or_false, false_or, or_self, or_true, true_or, Nat.reduceBEq, bindEA_ok, bindEA_ex, unown, kills, cellAt, List.map_cons, List.map_nil, List.length_cons, List.length_nil, List.cons_append, List.nil_append, List.replicate, List.getElem?_cons_succ, List.getElem?_cons_zero, List.set_cons_zero, List.set_cons_succ, Option.map_some, Option.map_none, Option.bind_some, Option.bind_none, Nat.reduceAdd, Nat.reduceSub, Nat.reduceLeDiff, Int.reduceLT, Int.reduceLE, Int.reduceNeg, Int.reduceToNat, Int.reducePow, decide_eq_true_eq, reduceIte, eq_self, ite_true, ite_false, Bool.false_eq_true, reduceCtorEq, resolve, celJ, nCel, Slot.isC, List.filter, putJ, callM, callMF, List.append_eq, Nat.reduceLT, Int.reduceMul, Int.reduceAdd, Int.reduceSub, ne_eq, not_true_eq_false, not_false_eq_true, Bool.not_false, Bool.not_true, decide_true, decide_false, frF, Int.cast_ofNat_Int, Bool.and_true, Bool.true_and, Bool.false_and, Bool.and_false, Bool.or_false, Bool.false_or, Bool.true_or, Bool.or_true, oList_l, oList_t, look_hv, look_hr, ptab_row_S, ptab_rule_S, tab_wr, look_wr, look_sg, try_iw'])
local macro_rules | `(tactic| ac_rfl) => `(tactic| (simp -implicitDefEqProofs (disch := omega) only [*, mC_m, mVar_m, mLook_m, mLet_m, mNil_m, msNil_m, msSeq_m, msAsgF_m, msDrop_m, msRet_m, msRetF_m, msRaise_m, msFor_m, mtYes_m, mLc_m, mcNil_m, mcCel_m, mCall_m, moNone_m, moSome_m, mSlL_m, mBi_m, mBiF_m, miList_m, miTup_m, miRng1_m, miEnum_m, miZip_m, mMeth_m, msSet_m, mCat_m, mRepeat_m, mChain_m, mIsi_m, mRev_m, mListRng_m, mCallF_m, msParVV_m, mMethD_m, mNew_m, mCMeth_m, mConC_m, msTry_m, mSup_m, okE_some, okE_none, opE_ok, opE_ex, opF_ok, opF_ex, mOp_e, mIx_e, unE_ok, mUn_e, coE_ok, coE_ex, coF_ok, coF_ex, mCons_e, bindAE_ok, bindAE_ex, mTup_e, tupF_e, mFr_e, lstF_ok, mLst_e, tsE_ok, tsE_ex, mTest_e, okT_some, truE_ok, truE_ex, mTru_e, anE_t, anE_f, anE_ok, orE_t, orE_f, orE_ok, mAnd_e, mOr_e, noE_ok, noE_ex, mNot_e, blV_ok, blV_ex, anV_t, anV_f, anV_ok, orV_t, orV_f, orV_ok, mAndV_e, mOrV_e, noV_ok, noV_ex, mNotV_e, ifV_t, ifV_f, ifV_ok, mIf_e, ifS_t, ifS_f, ifS_ok, ifS_ex, msIf_e, nxO_some, asE_ok, asE_ex, msAsg_e, gcE_some, mgCons_e, mgNil_e, mgTup_e, mgName_e, cvE_ok, cvE_ex, consC_ok, mcVal_e, thenS_nx, thenS_bk, thenS_ct, thenS_rt, thenS_ex, bindES_ok, bindES_ex, bindAS_ok, bindAS_ex, bindE_ok, bindE_ex, mfOf_e, mfOf0_e, noX_val, noX_cel, coM_some, fin_val, fin_cel, fin_nx, fin_ex, oAdd_i, oSub_i, oMul_l, oMul_r, oMod_i, oDiv_i, oPow_i, oLt_i, oLe_i, oGt_i, oGe_i, oEqI_i, oIx_l, oIx_f, oIx_t, at1_0, at2_0, at2_1, at3_0, at3_1, at3_2, at4_0, at4_1, at4_2, at4_3, ix3_0, ix3_1, ix3_2, oMax2_i, oMin2_i, oAbs_i, oInt_b, oLen_l, oLen_f, oLen_t, oNeg_i, truU_i, truU_l, truU_b, truU_n, lstU_l, lstU_f, oAppend_u, lstF_0, tupF_0, lstF_1, tupF_1, lstF_2, tupF_2, lstF_3, tupF_3, lstF_4, tupF_4, lstF_5, tupF_5, lstF_6, tupF_6, isi_NoneType_bool, isi_NoneType_int, isi_NoneType_str, isi_NoneType_list, isi_NoneType_tuple, isi_NoneType_dict, isi_bool_bool, isi_bool_int, isi_bool_str, isi_bool_list, isi_bool_tuple, isi_bool_dict, isi_int_bool, isi_int_int, isi_int_str, isi_int_list, isi_int_tuple, isi_int_dict, isi_str_bool, isi_str_int, isi_str_str, isi_str_list, isi_str_tuple, isi_str_dict, isi_list_bool, isi_list_int, isi_list_str, isi_list_list, isi_list_tuple, isi_list_dict, isi_tuple_bool, isi_tuple_int, isi_tuple_str, isi_tuple_list, isi_tuple_tuple, isi_tuple_dict, isi_dict_bool, isi_dict_int, isi_dict_str, isi_dict_list, isi_dict_tuple, isi_dict_dict, tyU_n, tyU_b, tyU_i, tyU_s, tyU_l, tyU_t, rngOk_i, zipU_map, intsU_map, blsU_map, oAll_l, oSum_l, cutU_1, cutU_m1, drop_map, reverse_map, length_map', dropLast_map, oEq_i, oNe_i, oEq_b, oNe_b, oEq_nn, oNe_nn, oEq_tt, oNe_tt, oEq_tn, oNe_tn, oEq_nt, oNe_nt, oEq_pp, oNe_pp, oEq_ii, oNe_ii, List.zip_cons_cons, List.zip_nil_left, mCallF_m, oMul_s, oPowX_i, mMakeS_m, mMakeL_m, mFld_m, mProp_m, mnSeq_m, mnS_m, mnF_m, at0_e, allX_const, seqU_l, seqU_f, seqU_t, pm_nil, pm_cons, List.mem_singleton, and_self, scV_b, scV_i, scV_s, scV_n, Option.isSome_some, tyU_d, mgTup_2, mgTup_3, mgTup_4, or_false, false_or, or_self, or_true, true_or, Nat.reduceBEq, bindEA_ok, bindEA_ex, unown, kills, cellAt, List.map_cons, List.map_nil, List.length_cons, List.length_nil, List.cons_append, List.nil_append, List.replicate, List.getElem?_cons_succ, List.getElem?_cons_zero, List.set_cons_zero, List.set_cons_succ, Option.map_some, Option.map_none, Option.bind_some, Option.bind_none, Nat.reduceAdd, Nat.reduceSub, Nat.reduceLeDiff, Int.reduceLT, Int.reduceLE, Int.reduceNeg, Int.reduceToNat, Int.reducePow, decide_eq_true_eq, reduceIte, eq_self, ite_true, ite_false, Bool.false_eq_true, reduceCtorEq, resolve, celJ, nCel, Slot.isC, List.filter, putJ, callM, callMF, List.append_eq, Nat.reduceLT, Int.reduceMul, Int.reduceAdd, Int.reduceSub, ne_eq, not_true_eq_false, not_false_eq_true, Bool.not_false, Bool.not_true, decide_true, decide_false, frF, Int.cast_ofNat_Int, Bool.and_true, Bool.true_and, Bool.false_and, Bool.and_false, Bool.or_false, Bool.false_or, Bool.true_or, Bool.or_true, G__law_all_rows_0, T__law_all_rows_1, E__law_all_rows_2, G__law_all_rows_3, G__law_all_rows_5, G__law_runs_0, G_is_run_0, T_is_run_1, E_is_run_2, G_are_runs_0, T_are_runs_1, E_are_runs_2, G_are_runs_3, T_are_runs_4, E_are_runs_5, G_Plain_signs_0, T_Plain_signs_1, E_Plain_signs_2, G_Next_signs_0, G_Single_signs_0, G_Block_signs_0, G_Later_signs_0, G_signs_of_0, T_signs_of_1, E_signs_of_2, G_value_of_0, T_value_of_1, E_value_of_2, G_are_values_0, T_are_values_1, E_are_values_2, G_are_values_3, T_are_values_4, E_are_values_5, G_count_agreeing_0, T_count_agreeing_1, E_count_agreeing_2, E_count_agreeing_3, G_count_agreeing_4, G_count_agreeing_6, G_count_agreeing_8, G__law_right_0, T__law_right_1, E__law_right_2, G__law_right_3, T__law_right_4, E__law_right_5, G__law_right_6, T__law_right_7, E__law_right_8, G__law_right_9, T__law_right_10, E__law_right_11, G__law_right_12, G__law_right_14, T__law_right_15, E__law_right_16, G__law_right_17, G__law_values_0, T__law_values_1, E__law_values_2, G_law_0, oList_l, oList_t, look_hv, look_hr, ptab_row_S, ptab_rule_S, tab_wr, look_wr, look_sg, try_iw']; try rfl))
theorem with_rule_k (vs : List Int) (j k : Kd) (h : ValsOk vs) : mf_System_with_rule K [.val (sysU vs j), .val (.str k.s)] = some (.val (sysU vs k) none) := by
  have e2 := init_k (K := K) vs k h
  unfold mf_System_with_rule M_System_with_rule
  clear h
  trivial
structure WordIn (vs : List Int) (w : List (Int × Int)) : Prop where
  s : WordS w
  mem : ∀ p ∈ w, p.1 ∈ vs
theorem row_mem (k : Kd) {vs : List Int} {w : List (Int × Int)} (h : WordIn vs w) : ∀ x ∈ rowN k w, x.1 ∈ vs := fun x hx => by
  have h1 : runT x ∈ w := by rw [← row_run k w]; exact List.mem_map_of_mem hx
  exact h.mem _ h1
theorem signs_of_k (vs : List Int) (k : Kd) (w : List (Int × Int)) (h : WordIn vs w) : mf_signs_of K [.val (sysU vs k), .val (.lst (w.map pU))] = some (sigO (signsN k w)) := by
  have e := named_k (K := K) k
  obtain ⟨mf, e1, e2⟩ := signs_k (K := K) k w h.s.ok
  have e5 := ruleP_k (K := K) vs k
  have e6 := row_k (K := K) vs k
  have ht := h.s.ok.top
  cases hs : signsN k w with
  | none =>
    rw [hs] at e2
    dsimp only [sigO] at e2 ⊢
    unfold mf_signs_of M_signs_of
    clear hs h ht
    trivial
  | some t =>
    have et := signs_some k w t hs
    rw [hs] at e2
    dsimp only [sigO] at e2 ⊢
    have hl : t.length ≤ 16777216 := by rw [et, row_len]; omega
    have hm : ∀ x ∈ t, x.1 ∈ vs := by rw [et]; exact row_mem k h
    have ea := all_true (K := K) t
    unfold mf_signs_of M_signs_of
    clear hs h ht et
    trivial
    rw [lcM_all tU (fun _ => U.bl true) t hl ?hh]
    case hh =>
      intro x hx
      have c := oIn_int (K := K) x.1 vs
      rw [decide_eq_true (hm x hx)] at c
      clear ea e e1 e2 e5 e6 hl hm hx
      exact ⟨_, _, _, (by ac_rfl), (by ac_rfl), (by ac_rfl), rfl⟩
    trivial
theorem is_word_k (vs : List Int) (k : Kd) (w : List (Int × Int)) (h : WordIn vs w) : mf_is_word K [.val (sysU vs k), .val (.lst (w.map pU))] = some (.val (.bl (signsN k w).isSome) none) := by
  have e := signs_of_k (K := K) vs k w h
  unfold mf_is_word M_is_word
  cases hs : signsN k w with
  | none =>
    rw [hs] at e
    dsimp only [sigO] at e
    clear hs h
    trivial
    try rfl
  | some t =>
    rw [hs] at e
    dsimp only [sigO] at e
    clear hs h
    trivial
    try rfl
theorem value_of_k (vs : List Int) (k : Kd) (w : List (Int × Int)) (h : WordIn vs w) : mf_value_of K [.val (sysU vs k), .val (.lst (w.map pU))] = some (match signsN k w with
    | some _ => .val (.int (sumN k w)) none
    | none => .ex ⟨"InvalidWord", none⟩ none) := by
  have e := signs_of_k (K := K) vs k w h
  have hb := row_bd k w h.s
  have ht := h.s.ok.top
  unfold mf_value_of M_value_of
  cases hs : signsN k w with
  | none =>
    rw [hs] at e
    dsimp only [sigO] at e
    clear hs h ht hb
    trivial
  | some t =>
    have et := signs_some k w t hs
    rw [hs] at e
    dsimp only [sigO] at e
    have hl : t.length ≤ 16777216 := by rw [et, row_len]; omega
    rw [← et] at hb
    have e4 := oSum_l (K := K) (t.map valT)
    rw [List.map_map] at e4
    have es : sumN k w = (t.map valT).sum := by rw [et]; rfl
    rw [es]
    clear hs h ht et es
    trivial
    rw [lcM_all tU (fun x => U.int (valT x)) t hl ?hh]
    case hh =>
      intro x hx
      obtain ⟨⟨b1, b2⟩, b3, b4⟩ := hb x hx
      clear e4 e hl hb hx
      exact ⟨_, _, _, (by ac_rfl), (by ac_rfl), (by ac_rfl), rfl⟩
    rw [show (t.map fun x => U.int (valT x)) = t.map (U.int ∘ valT) from rfl]
    clear hb hl
    trivial
def agreeB (j k : Kd) (w : List (Int × Int)) : Bool := (signsN k w).isSome && decide (sumN k w = sumN j w)
theorem agree_k (vs : List Int) (j k : Kd) (w : List (Int × Int)) (hv : ValsOk vs) (h : WordIn vs w) (hj : signsN j w ≠ none) : mf_agree K [.val (sysU vs j), .val (.str k.s), .val (.lst (w.map pU))] = some (.val (.bl (agreeB j k w)) none) := by
  have e1 := with_rule_k (K := K) vs j k hv
  have e2 := is_word_k (K := K) vs k w h
  have e3 := value_of_k (K := K) vs k w h
  have e4 := value_of_k (K := K) vs j w h
  unfold mf_agree M_agree agreeB
  cases hs : signsN j w with
  | none => exact absurd hs hj
  | some t =>
    rw [hs] at e4
    dsimp only at e4
    cases ht : signsN k w with
    | none =>
      rw [ht] at e2 e3
      dsimp only at e2 e3
      simp only [Option.isSome_none] at e2 ⊢
      clear hv h hj hs ht
      trivial
    | some t =>
      rw [ht] at e2 e3
      dsimp only at e2 e3
      simp only [Option.isSome_some] at e2 ⊢
      clear hv h hj hs ht
      trivial
end Sg
set_option Elab.async false
set_option linter.all false
set_option maxRecDepth 100000
set_option maxHeartbeats 1000000
namespace Sg
open PySem L2
variable {K : PySem.W.Frag}
local macro_rules | `(tactic| trivial) => `(tactic| simp -implicitDefEqProofs (disch := omega) only [*, mC_m, mVar_m, mLook_m, mLet_m, mNil_m, msNil_m, msSeq_m, msAsgF_m, msDrop_m, msRet_m, msRetF_m, msRaise_m, msFor_m, mtYes_m, mLc_m, mcNil_m, mcCel_m, mCall_m, moNone_m, moSome_m, mSlL_m, mBi_m, mBiF_m, miList_m, miTup_m, miRng1_m, miEnum_m, miZip_m, mMeth_m, msSet_m, mCat_m, mRepeat_m, mChain_m, mIsi_m, mRev_m, mListRng_m, mCallF_m, msParVV_m, mMethD_m, mNew_m, mCMeth_m, mConC_m, msTry_m, mSup_m, okE_some, okE_none, opE_ok, opE_ex, opF_ok, opF_ex, mOp_e, mIx_e, unE_ok, mUn_e, coE_ok, coE_ex, coF_ok, coF_ex, mCons_e, bindAE_ok, bindAE_ex, mTup_e, tupF_e, mFr_e, lstF_ok, mLst_e, tsE_ok, tsE_ex, mTest_e, okT_some, truE_ok, truE_ex, mTru_e, anE_t, anE_f, anE_ok, orE_t, orE_f, orE_ok, mAnd_e, mOr_e, noE_ok, noE_ex, mNot_e, blV_ok, blV_ex, anV_t, anV_f, anV_ok, orV_t, orV_f, orV_ok, mAndV_e, mOrV_e, noV_ok, noV_ex, mNotV_e, ifV_t, ifV_f, ifV_ok, mIf_e, ifS_t, ifS_f, ifS_ok, ifS_ex, msIf_e, nxO_some, asE_ok, asE_ex, msAsg_e, gcE_some, mgCons_e, mgNil_e, mgTup_e, mgName_e, cvE_ok, cvE_ex, consC_ok, mcVal_e, thenS_nx, thenS_bk, thenS_ct, thenS_rt, thenS_ex, bindES_ok, bindES_ex, bindAS_ok, bindAS_ex, bindE_ok, bindE_ex, mfOf_e, mfOf0_e, noX_val, noX_cel, coM_some, fin_val, fin_cel, fin_nx, fin_ex, oAdd_i, oSub_i, oMul_l, oMul_r, oMod_i, oDiv_i, oPow_i, oLt_i, oLe_i, oGt_i, oGe_i, oEqI_i, oIx_l, oIx_f, oIx_t, at1_0, at2_0, at2_1, at3_0, at3_1, at3_2, at4_0, at4_1, at4_2, at4_3, ix3_0, ix3_1, ix3_2, oMax2_i, oMin2_i, oAbs_i, oInt_b, oLen_l, oLen_f, oLen_t, oNeg_i, truU_i, truU_l, truU_b, truU_n, lstU_l, lstU_f, oAppend_u, lstF_0, tupF_0, lstF_1, tupF_1, lstF_2, tupF_2, lstF_3, tupF_3, lstF_4, tupF_4, lstF_5, tupF_5, lstF_6, tupF_6, isi_NoneType_bool, isi_NoneType_int, isi_NoneType_str, isi_NoneType_list, isi_NoneType_tuple, isi_NoneType_dict, isi_bool_bool, isi_bool_int, isi_bool_str, isi_bool_list, isi_bool_tuple, isi_bool_dict, isi_int_bool, isi_int_int, isi_int_str, isi_int_list, isi_int_tuple, isi_int_dict, isi_str_bool, isi_str_int, isi_str_str, isi_str_list, isi_str_tuple, isi_str_dict, isi_list_bool, isi_list_int, isi_list_str, isi_list_list, isi_list_tuple, isi_list_dict, isi_tuple_bool, isi_tuple_int, isi_tuple_str, isi_tuple_list, isi_tuple_tuple, isi_tuple_dict, isi_dict_bool, isi_dict_int, isi_dict_str, isi_dict_list, isi_dict_tuple, isi_dict_dict, tyU_n, tyU_b, tyU_i, tyU_s, tyU_l, tyU_t, rngOk_i, zipU_map, intsU_map, blsU_map, oAll_l, oSum_l, cutU_1, cutU_m1, drop_map, reverse_map, length_map', dropLast_map, oEq_i, oNe_i, oEq_b, oNe_b, oEq_nn, oNe_nn, oEq_tt, oNe_tt, oEq_tn, oNe_tn, oEq_nt, oNe_nt, oEq_pp, oNe_pp, oEq_ii, oNe_ii, List.zip_cons_cons, List.zip_nil_left, mCallF_m, oMul_s, oPowX_i, mMakeS_m, mMakeL_m, mFld_m, mProp_m, mnSeq_m, mnS_m, mnF_m, at0_e, allX_const, seqU_l, seqU_f, seqU_t, pm_nil, pm_cons, List.mem_singleton, and_self, scV_b, scV_i, scV_s, scV_n, Option.isSome_some, tyU_d, mgTup_2, mgTup_3, mgTup_4, or_false, false_or, or_self, or_true, true_or, Nat.reduceBEq, bindEA_ok, bindEA_ex, unown, kills, cellAt, List.map_cons, List.map_nil, List.length_cons, List.length_nil, List.cons_append, List.nil_append, List.replicate, List.getElem?_cons_succ, List.getElem?_cons_zero, List.set_cons_zero, List.set_cons_succ, Option.map_some, Option.map_none, Option.bind_some, Option.bind_none, Nat.reduceAdd, Nat.reduceSub, Nat.reduceLeDiff, Int.reduceLT, Int.reduceLE, Int.reduceNeg, Int.reduceToNat, Int.reducePow, decide_eq_true_eq, reduceIte, eq_self, ite_true, ite_false, Bool.false_eq_true, reduceCtorEq, resolve, celJ, nCel, Slot.isC, List.filter, putJ, callM, callMF, List.append_eq, Nat.reduceLT, Int.reduceMul, Int.reduceAdd, Int.reduceSub, ne_eq, not_true_eq_false, not_false_eq_true, Bool.not_false, Bool.not_true, decide_true, decide_false, frF, Int.cast_ofNat_Int, Bool.and_true, Bool.true_and, Bool.false_and, Bool.and_false, Bool.or_false, Bool.false_or, Bool.true_or, Bool.or_true])
local macro_rules | `(tactic| ac_rfl) => `(tactic| (simp -implicitDefEqProofs (disch := omega) only [*, mC_m, mVar_m, mLook_m, mLet_m, mNil_m, msNil_m, msSeq_m, msAsgF_m, msDrop_m, msRet_m, msRetF_m, msRaise_m, msFor_m, mtYes_m, mLc_m, mcNil_m, mcCel_m, mCall_m, moNone_m, moSome_m, mSlL_m, mBi_m, mBiF_m, miList_m, miTup_m, miRng1_m, miEnum_m, miZip_m, mMeth_m, msSet_m, mCat_m, mRepeat_m, mChain_m, mIsi_m, mRev_m, mListRng_m, mCallF_m, msParVV_m, mMethD_m, mNew_m, mCMeth_m, mConC_m, msTry_m, mSup_m, okE_some, okE_none, opE_ok, opE_ex, opF_ok, opF_ex, mOp_e, mIx_e, unE_ok, mUn_e, coE_ok, coE_ex, coF_ok, coF_ex, mCons_e, bindAE_ok, bindAE_ex, mTup_e, tupF_e, mFr_e, lstF_ok, mLst_e, tsE_ok, tsE_ex, mTest_e, okT_some, truE_ok, truE_ex, mTru_e, anE_t, anE_f, anE_ok, orE_t, orE_f, orE_ok, mAnd_e, mOr_e, noE_ok, noE_ex, mNot_e, blV_ok, blV_ex, anV_t, anV_f, anV_ok, orV_t, orV_f, orV_ok, mAndV_e, mOrV_e, noV_ok, noV_ex, mNotV_e, ifV_t, ifV_f, ifV_ok, mIf_e, ifS_t, ifS_f, ifS_ok, ifS_ex, msIf_e, nxO_some, asE_ok, asE_ex, msAsg_e, gcE_some, mgCons_e, mgNil_e, mgTup_e, mgName_e, cvE_ok, cvE_ex, consC_ok, mcVal_e, thenS_nx, thenS_bk, thenS_ct, thenS_rt, thenS_ex, bindES_ok, bindES_ex, bindAS_ok, bindAS_ex, bindE_ok, bindE_ex, mfOf_e, mfOf0_e, noX_val, noX_cel, coM_some, fin_val, fin_cel, fin_nx, fin_ex, oAdd_i, oSub_i, oMul_l, oMul_r, oMod_i, oDiv_i, oPow_i, oLt_i, oLe_i, oGt_i, oGe_i, oEqI_i, oIx_l, oIx_f, oIx_t, at1_0, at2_0, at2_1, at3_0, at3_1, at3_2, at4_0, at4_1, at4_2, at4_3, ix3_0, ix3_1, ix3_2, oMax2_i, oMin2_i, oAbs_i, oInt_b, oLen_l, oLen_f, oLen_t, oNeg_i, truU_i, truU_l, truU_b, truU_n, lstU_l, lstU_f, oAppend_u, lstF_0, tupF_0, lstF_1, tupF_1, lstF_2, tupF_2, lstF_3, tupF_3, lstF_4, tupF_4, lstF_5, tupF_5, lstF_6, tupF_6, isi_NoneType_bool, isi_NoneType_int, isi_NoneType_str, isi_NoneType_list, isi_NoneType_tuple, isi_NoneType_dict, isi_bool_bool, isi_bool_int, isi_bool_str, isi_bool_list, isi_bool_tuple, isi_bool_dict, isi_int_bool, isi_int_int, isi_int_str, isi_int_list, isi_int_tuple, isi_int_dict, isi_str_bool, isi_str_int, isi_str_str, isi_str_list, isi_str_tuple, isi_str_dict, isi_list_bool, isi_list_int, isi_list_str, isi_list_list, isi_list_tuple, isi_list_dict, isi_tuple_bool, isi_tuple_int, isi_tuple_str, isi_tuple_list, isi_tuple_tuple, isi_tuple_dict, isi_dict_bool, isi_dict_int, isi_dict_str, isi_dict_list, isi_dict_tuple, isi_dict_dict, tyU_n, tyU_b, tyU_i, tyU_s, tyU_l, tyU_t, rngOk_i, zipU_map, intsU_map, blsU_map, oAll_l, oSum_l, cutU_1, cutU_m1, drop_map, reverse_map, length_map', dropLast_map, oEq_i, oNe_i, oEq_b, oNe_b, oEq_nn, oNe_nn, oEq_tt, oNe_tt, oEq_tn, oNe_tn, oEq_nt, oNe_nt, oEq_pp, oNe_pp, oEq_ii, oNe_ii, List.zip_cons_cons, List.zip_nil_left, mCallF_m, oMul_s, oPowX_i, mMakeS_m, mMakeL_m, mFld_m, mProp_m, mnSeq_m, mnS_m, mnF_m, at0_e, allX_const, seqU_l, seqU_f, seqU_t, pm_nil, pm_cons, List.mem_singleton, and_self, scV_b, scV_i, scV_s, scV_n, Option.isSome_some, tyU_d, mgTup_2, mgTup_3, mgTup_4, or_false, false_or, or_self, or_true, true_or, Nat.reduceBEq, bindEA_ok, bindEA_ex, unown, kills, cellAt, List.map_cons, List.map_nil, List.length_cons, List.length_nil, List.cons_append, List.nil_append, List.replicate, List.getElem?_cons_succ, List.getElem?_cons_zero, List.set_cons_zero, List.set_cons_succ, Option.map_some, Option.map_none, Option.bind_some, Option.bind_none, Nat.reduceAdd, Nat.reduceSub, Nat.reduceLeDiff, Int.reduceLT, Int.reduceLE, Int.reduceNeg, Int.reduceToNat, Int.reducePow, decide_eq_true_eq, reduceIte, eq_self, ite_true, ite_false, Bool.false_eq_true, reduceCtorEq, resolve, celJ, nCel, Slot.isC, List.filter, putJ, callM, callMF, List.append_eq, Nat.reduceLT, Int.reduceMul, Int.reduceAdd, Int.reduceSub, ne_eq, not_true_eq_false, not_false_eq_true, Bool.not_false, Bool.not_true, decide_true, decide_false, frF, Int.cast_ofNat_Int, Bool.and_true, Bool.true_and, Bool.false_and, Bool.and_false, Bool.or_false, Bool.false_or, Bool.true_or, Bool.or_true, G__law_all_rows_0, T__law_all_rows_1, E__law_all_rows_2, G__law_all_rows_3, G__law_all_rows_5, G__law_runs_0, G_is_run_0, T_is_run_1, E_is_run_2, G_are_runs_0, T_are_runs_1, E_are_runs_2, G_are_runs_3, T_are_runs_4, E_are_runs_5, G_Plain_signs_0, T_Plain_signs_1, E_Plain_signs_2, G_Next_signs_0, G_Single_signs_0, G_Block_signs_0, G_Later_signs_0, G_signs_of_0, T_signs_of_1, E_signs_of_2, G_value_of_0, T_value_of_1, E_value_of_2, G_are_values_0, T_are_values_1, E_are_values_2, G_are_values_3, T_are_values_4, E_are_values_5, G_count_agreeing_0, T_count_agreeing_1, E_count_agreeing_2, E_count_agreeing_3, G_count_agreeing_4, G_count_agreeing_6, G_count_agreeing_8, G__law_right_0, T__law_right_1, E__law_right_2, G__law_right_3, T__law_right_4, E__law_right_5, G__law_right_6, T__law_right_7, E__law_right_8, G__law_right_9, T__law_right_10, E__law_right_11, G__law_right_12, G__law_right_14, T__law_right_15, E__law_right_16, G__law_right_17, G__law_values_0, T__law_values_1, E__law_values_2, G_law_0]; try rfl))
def Well (n : Nat) (f : List U) : Prop := ∃ a b c : Int, f = [.int a, .int b, .int c] ∧ 0 ≤ b ∧ b < 10000000000000000000000000000000000000000 ∧ 0 ≤ c ∧ c ≤ (n : Int)
theorem Well.mono {n m : Nat} {f : List U} (h : Well n f) (l : n ≤ m) : Well m f := by
  obtain ⟨a, b, c, e, h1, h2, h3, h4⟩ := h
  exact ⟨a, b, c, e, h1, h2, h3, by omega⟩
theorem dip_k (own : Bool) (n : Nat) (f : List U) (wide : Int) (hf : Well n f) (hn : n < 1000000) (h1 : 0 < wide) (h2 : wide < 1000000000000000000000000000000000000000000000000000000000000000000000000) :
    ∃ d f', 0 ≤ d ∧ d < wide ∧ Well (n + 1) f' ∧ mf__law_dip K [.cel own f, .val (.int wide)] = some (.val (.int d) (some f')) := by
  obtain ⟨a, b, c, rfl, b0, b1, c0, c1⟩ := hf
  by_cases ha : 0 < a
  · refine ⟨a % wide, [.int (a / wide), .int b, .int c], Int.emod_nonneg _ (by omega), Int.emod_lt_of_pos _ h1, ⟨_, _, _, rfl, b0, b1, c0, by omega⟩, ?_⟩
    unfold mf__law_dip M__law_dip
    clear b0 b1 c0 c1 hn
    ac_rfl
  · have key : ∀ r, mf__law_dip K [.cel own [.int a, .int b, .int c], .val (.int wide)] = r → ∃ m, r = some (.val (.int (m % wide)) (some [.int a, .int b, .int (c + 1)])) := by
      intro r
      unfold mf__law_dip M__law_dip
      have c2 : 0 ≤ c + 1 := by omega
      have c3 : c + 1 ≤ 1000001 := by omega
      clear hn c0 c1
      trivial
      intro hr
      exact ⟨_, hr.symm⟩
    obtain ⟨m, e⟩ := key _ rfl
    exact ⟨m % wide, _, Int.emod_nonneg _ (by omega), Int.emod_lt_of_pos _ h1, ⟨_, _, _, rfl, b0, b1, by omega, by omega⟩, e⟩
theorem well_k (ns : List Int) (k : Int) (hk : 0 ≤ k) (hk2 : k < 1000) : ∃ f, Well 0 f ∧ mf__law_well K [.val (.frl (ns.map U.int)), .val (.int k)] = some (.cel f none) := by
  have key : ∃ x : Int, ∀ r, mf__law_well K [.val (.frl (ns.map U.int)), .val (.int k)] = r → ∃ a : Int, r = some (.cel [.int a, .int (x % 1000000000000000000000000000000000067 * 64 + k), .int 0] none) := by
    by_cases h : k < ns.length
    · obtain ⟨x, hx, _, e⟩ := atI_map U.int (xs := ns) hk h
      refine ⟨if x < 0 then -x else x, fun r => ?_⟩
      unfold mf__law_well M__law_well
      trivial
      intro hr
      exact ⟨_, hr.symm⟩
    · refine ⟨0, fun r => ?_⟩
      unfold mf__law_well M__law_well
      trivial
      intro hr
      exact ⟨_, hr.symm⟩
  obtain ⟨x, key⟩ := key
  obtain ⟨a, e⟩ := key _ rfl
  exact ⟨_, ⟨a, _, _, rfl, by omega, by omega, Int.le_refl 0, by omega⟩, e⟩
end Sg
set_option Elab.async false
set_option linter.all false
set_option maxRecDepth 100000
set_option maxHeartbeats 1000000
namespace Sg
open PySem L2
variable {K : PySem.W.Frag}
local macro_rules | `(tactic| trivial) => `(tactic| simp -implicitDefEqProofs (disch := omega) only [*, mC_m, mVar_m, mLook_m, mLet_m, mNil_m, msNil_m, msSeq_m, msAsgF_m, msDrop_m, msRet_m, msRetF_m, msRaise_m, msFor_m, mtYes_m, mLc_m, mcNil_m, mcCel_m, mCall_m, moNone_m, moSome_m, mSlL_m, mBi_m, mBiF_m, miList_m, miTup_m, miRng1_m, miEnum_m, miZip_m, mMeth_m, msSet_m, mCat_m, mRepeat_m, mChain_m, mIsi_m, mRev_m, mListRng_m, mCallF_m, msParVV_m, mMethD_m, mNew_m, mCMeth_m, mConC_m, msTry_m, mSup_m, okE_some, okE_none, opE_ok, opE_ex, opF_ok, opF_ex, mOp_e, mIx_e, unE_ok, mUn_e, coE_ok, coE_ex, coF_ok, coF_ex, mCons_e, bindAE_ok, bindAE_ex, mTup_e, tupF_e, mFr_e, lstF_ok, mLst_e, tsE_ok, tsE_ex, mTest_e, okT_some, truE_ok, truE_ex, mTru_e, anE_t, anE_f, anE_ok, orE_t, orE_f, orE_ok, mAnd_e, mOr_e, noE_ok, noE_ex, mNot_e, blV_ok, blV_ex, anV_t, anV_f, anV_ok, orV_t, orV_f, orV_ok, mAndV_e, mOrV_e, noV_ok, noV_ex, mNotV_e, ifV_t, ifV_f, ifV_ok, mIf_e, ifS_t, ifS_f, ifS_ok, ifS_ex, msIf_e, nxO_some, asE_ok, asE_ex, msAsg_e, gcE_some, mgCons_e, mgNil_e, mgTup_e, mgName_e, cvE_ok, cvE_ex, consC_ok, mcVal_e, thenS_nx, thenS_bk, thenS_ct, thenS_rt, thenS_ex, bindES_ok, bindES_ex, bindAS_ok, bindAS_ex, bindE_ok, bindE_ex, mfOf_e, mfOf0_e, noX_val, noX_cel, coM_some, fin_val, fin_cel, fin_nx, fin_ex, oAdd_i, oSub_i, oMul_l, oMul_r, oMod_i, oDiv_i, oPow_i, oLt_i, oLe_i, oGt_i, oGe_i, oEqI_i, oIx_l, oIx_f, oIx_t, at1_0, at2_0, at2_1, at3_0, at3_1, at3_2, at4_0, at4_1, at4_2, at4_3, ix3_0, ix3_1, ix3_2, oMax2_i, oMin2_i, oAbs_i, oInt_b, oLen_l, oLen_f, oLen_t, oNeg_i, truU_i, truU_l, truU_b, truU_n, lstU_l, lstU_f, oAppend_u, lstF_0, tupF_0, lstF_1, tupF_1, lstF_2, tupF_2, lstF_3, tupF_3, lstF_4, tupF_4, lstF_5, tupF_5, lstF_6, tupF_6, isi_NoneType_bool, isi_NoneType_int, isi_NoneType_str, isi_NoneType_list, isi_NoneType_tuple, isi_NoneType_dict, isi_bool_bool, isi_bool_int, isi_bool_str, isi_bool_list, isi_bool_tuple, isi_bool_dict, isi_int_bool, isi_int_int, isi_int_str, isi_int_list, isi_int_tuple, isi_int_dict, isi_str_bool, isi_str_int, isi_str_str, isi_str_list, isi_str_tuple, isi_str_dict, isi_list_bool, isi_list_int, isi_list_str, isi_list_list, isi_list_tuple, isi_list_dict, isi_tuple_bool, isi_tuple_int, isi_tuple_str, isi_tuple_list, isi_tuple_tuple, isi_tuple_dict, isi_dict_bool, isi_dict_int, isi_dict_str, isi_dict_list, isi_dict_tuple, isi_dict_dict, tyU_n, tyU_b, tyU_i, tyU_s, tyU_l, tyU_t, rngOk_i, zipU_map, intsU_map, blsU_map, oAll_l, oSum_l, cutU_1, cutU_m1, drop_map, reverse_map, length_map', dropLast_map, oEq_i, oNe_i, oEq_b, oNe_b, oEq_nn, oNe_nn, oEq_tt, oNe_tt, oEq_tn, oNe_tn, oEq_nt, oNe_nt, oEq_pp, oNe_pp, oEq_ii, oNe_ii, List.zip_cons_cons, List.zip_nil_left, mCallF_m, oMul_s, oPowX_i, mMakeS_m, mMakeL_m, mFld_m, mProp_m, mnSeq_m, mnS_m, mnF_m, at0_e, allX_const, seqU_l, seqU_f, seqU_t, pm_nil, pm_cons, List.mem_singleton, and_self, scV_b, scV_i, scV_s, scV_n, Option.isSome_some, tyU_d, mgTup_2, mgTup_3, mgTup_4, or_false, false_or, or_self, or_true, true_or, Nat.reduceBEq, bindEA_ok, bindEA_ex, unown, kills, cellAt, List.map_cons, List.map_nil, List.length_cons, List.length_nil, List.cons_append, List.nil_append, List.replicate, List.getElem?_cons_succ, List.getElem?_cons_zero, List.set_cons_zero, List.set_cons_succ, Option.map_some, Option.map_none, Option.bind_some, Option.bind_none, Nat.reduceAdd, Nat.reduceSub, Nat.reduceLeDiff, Int.reduceLT, Int.reduceLE, Int.reduceNeg, Int.reduceToNat, Int.reducePow, decide_eq_true_eq, reduceIte, eq_self, ite_true, ite_false, Bool.false_eq_true, reduceCtorEq, resolve, celJ, nCel, Slot.isC, List.filter, putJ, callM, callMF, List.append_eq, Nat.reduceLT, Int.reduceMul, Int.reduceAdd, Int.reduceSub, ne_eq, not_true_eq_false, not_false_eq_true, Bool.not_false, Bool.not_true, decide_true, decide_false, frF, Int.cast_ofNat_Int, Bool.and_true, Bool.true_and, Bool.false_and, Bool.and_false, Bool.or_false, Bool.false_or, Bool.true_or, Bool.or_true])
local macro_rules | `(tactic| ac_rfl) => `(tactic| (simp -implicitDefEqProofs (disch := omega) only [*, mC_m, mVar_m, mLook_m, mLet_m, mNil_m, msNil_m, msSeq_m, msAsgF_m, msDrop_m, msRet_m, msRetF_m, msRaise_m, msFor_m, mtYes_m, mLc_m, mcNil_m, mcCel_m, mCall_m, moNone_m, moSome_m, mSlL_m, mBi_m, mBiF_m, miList_m, miTup_m, miRng1_m, miEnum_m, miZip_m, mMeth_m, msSet_m, mCat_m, mRepeat_m, mChain_m, mIsi_m, mRev_m, mListRng_m, mCallF_m, msParVV_m, mMethD_m, mNew_m, mCMeth_m, mConC_m, msTry_m, mSup_m, okE_some, okE_none, opE_ok, opE_ex, opF_ok, opF_ex, mOp_e, mIx_e, unE_ok, mUn_e, coE_ok, coE_ex, coF_ok, coF_ex, mCons_e, bindAE_ok, bindAE_ex, mTup_e, tupF_e, mFr_e, lstF_ok, mLst_e, tsE_ok, tsE_ex, mTest_e, okT_some, truE_ok, truE_ex, mTru_e, anE_t, anE_f, anE_ok, orE_t, orE_f, orE_ok, mAnd_e, mOr_e, noE_ok, noE_ex, mNot_e, blV_ok, blV_ex, anV_t, anV_f, anV_ok, orV_t, orV_f, orV_ok, mAndV_e, mOrV_e, noV_ok, noV_ex, mNotV_e, ifV_t, ifV_f, ifV_ok, mIf_e, ifS_t, ifS_f, ifS_ok, ifS_ex, msIf_e, nxO_some, asE_ok, asE_ex, msAsg_e, gcE_some, mgCons_e, mgNil_e, mgTup_e, mgName_e, cvE_ok, cvE_ex, consC_ok, mcVal_e, thenS_nx, thenS_bk, thenS_ct, thenS_rt, thenS_ex, bindES_ok, bindES_ex, bindAS_ok, bindAS_ex, bindE_ok, bindE_ex, mfOf_e, mfOf0_e, noX_val, noX_cel, coM_some, fin_val, fin_cel, fin_nx, fin_ex, oAdd_i, oSub_i, oMul_l, oMul_r, oMod_i, oDiv_i, oPow_i, oLt_i, oLe_i, oGt_i, oGe_i, oEqI_i, oIx_l, oIx_f, oIx_t, at1_0, at2_0, at2_1, at3_0, at3_1, at3_2, at4_0, at4_1, at4_2, at4_3, ix3_0, ix3_1, ix3_2, oMax2_i, oMin2_i, oAbs_i, oInt_b, oLen_l, oLen_f, oLen_t, oNeg_i, truU_i, truU_l, truU_b, truU_n, lstU_l, lstU_f, oAppend_u, lstF_0, tupF_0, lstF_1, tupF_1, lstF_2, tupF_2, lstF_3, tupF_3, lstF_4, tupF_4, lstF_5, tupF_5, lstF_6, tupF_6, isi_NoneType_bool, isi_NoneType_int, isi_NoneType_str, isi_NoneType_list, isi_NoneType_tuple, isi_NoneType_dict, isi_bool_bool, isi_bool_int, isi_bool_str, isi_bool_list, isi_bool_tuple, isi_bool_dict, isi_int_bool, isi_int_int, isi_int_str, isi_int_list, isi_int_tuple, isi_int_dict, isi_str_bool, isi_str_int, isi_str_str, isi_str_list, isi_str_tuple, isi_str_dict, isi_list_bool, isi_list_int, isi_list_str, isi_list_list, isi_list_tuple, isi_list_dict, isi_tuple_bool, isi_tuple_int, isi_tuple_str, isi_tuple_list, isi_tuple_tuple, isi_tuple_dict, isi_dict_bool, isi_dict_int, isi_dict_str, isi_dict_list, isi_dict_tuple, isi_dict_dict, tyU_n, tyU_b, tyU_i, tyU_s, tyU_l, tyU_t, rngOk_i, zipU_map, intsU_map, blsU_map, oAll_l, oSum_l, cutU_1, cutU_m1, drop_map, reverse_map, length_map', dropLast_map, oEq_i, oNe_i, oEq_b, oNe_b, oEq_nn, oNe_nn, oEq_tt, oNe_tt, oEq_tn, oNe_tn, oEq_nt, oNe_nt, oEq_pp, oNe_pp, oEq_ii, oNe_ii, List.zip_cons_cons, List.zip_nil_left, mCallF_m, oMul_s, oPowX_i, mMakeS_m, mMakeL_m, mFld_m, mProp_m, mnSeq_m, mnS_m, mnF_m, at0_e, allX_const, seqU_l, seqU_f, seqU_t, pm_nil, pm_cons, List.mem_singleton, and_self, scV_b, scV_i, scV_s, scV_n, Option.isSome_some, tyU_d, mgTup_2, mgTup_3, mgTup_4, or_false, false_or, or_self, or_true, true_or, Nat.reduceBEq, bindEA_ok, bindEA_ex, unown, kills, cellAt, List.map_cons, List.map_nil, List.length_cons, List.length_nil, List.cons_append, List.nil_append, List.replicate, List.getElem?_cons_succ, List.getElem?_cons_zero, List.set_cons_zero, List.set_cons_succ, Option.map_some, Option.map_none, Option.bind_some, Option.bind_none, Nat.reduceAdd, Nat.reduceSub, Nat.reduceLeDiff, Int.reduceLT, Int.reduceLE, Int.reduceNeg, Int.reduceToNat, Int.reducePow, decide_eq_true_eq, reduceIte, eq_self, ite_true, ite_false, Bool.false_eq_true, reduceCtorEq, resolve, celJ, nCel, Slot.isC, List.filter, putJ, callM, callMF, List.append_eq, Nat.reduceLT, Int.reduceMul, Int.reduceAdd, Int.reduceSub, ne_eq, not_true_eq_false, not_false_eq_true, Bool.not_false, Bool.not_true, decide_true, decide_false, frF, Int.cast_ofNat_Int, Bool.and_true, Bool.true_and, Bool.false_and, Bool.and_false, Bool.or_false, Bool.false_or, Bool.true_or, Bool.or_true, G__law_all_rows_0, T__law_all_rows_1, E__law_all_rows_2, G__law_all_rows_3, G__law_all_rows_5, G__law_runs_0, G_is_run_0, T_is_run_1, E_is_run_2, G_are_runs_0, T_are_runs_1, E_are_runs_2, G_are_runs_3, T_are_runs_4, E_are_runs_5, G_Plain_signs_0, T_Plain_signs_1, E_Plain_signs_2, G_Next_signs_0, G_Single_signs_0, G_Block_signs_0, G_Later_signs_0, G_signs_of_0, T_signs_of_1, E_signs_of_2, G_value_of_0, T_value_of_1, E_value_of_2, G_are_values_0, T_are_values_1, E_are_values_2, G_are_values_3, T_are_values_4, E_are_values_5, G_count_agreeing_0, T_count_agreeing_1, E_count_agreeing_2, E_count_agreeing_3, G_count_agreeing_4, G_count_agreeing_6, G_count_agreeing_8, G__law_right_0, T__law_right_1, E__law_right_2, G__law_right_3, T__law_right_4, E__law_right_5, G__law_right_6, T__law_right_7, E__law_right_8, G__law_right_9, T__law_right_10, E__law_right_11, G__law_right_12, G__law_right_14, T__law_right_15, E__law_right_16, G__law_right_17, G__law_values_0, T__law_values_1, E__law_values_2, G_law_0]; try rfl))
theorem sortI_perm' : ∀ l : List Int, (sortI l).Perm l
  | [] => .refl _
  | x :: r => (insI_perm x (sortI r)).trans ((sortI_perm' r).cons x)
theorem sortI_le : ∀ l : List Int, (sortI l).Pairwise (· ≤ ·)
  | [] => List.Pairwise.nil
  | x :: r => insI_sorted x (sortI_le r)
theorem oSorted_l (is : List Int) : (oSorted (K := K)).f [.lst (is.map U.int)] = some ((sortI is).map U.int) := by
  show (intsU (is.map U.int)).map _ = _
  rw [intsU_map]
  rfl
theorem eraseIdx_map' {α : Type} (r : α → U) (xs : List α) (k : Nat) : (xs.map r).eraseIdx k = (xs.eraseIdx k).map r := by
  induction xs generalizing k with
  | nil => rfl
  | cons x xs ih =>
    cases k with
    | zero => rfl
    | succ k => simp [ih]
theorem oPopAt_l (xs : List Int) (i : Int) (h0 : 0 ≤ i) (h1 : i < xs.length) (h2 : xs.length < 1000000) : ∃ x ∈ xs, xs[i.toNat]? = some x ∧ (oPopAt (K := K)).f (xs.map U.int) [.int i] = some (.int x, (xs.eraseIdx i.toNat).map U.int) := by
  have hl : i.toNat < xs.length := by omega
  refine ⟨xs[i.toNat], List.getElem_mem hl, List.getElem?_eq_getElem hl, ?_⟩
  show (if -(2 ^ 63) ≤ i ∧ i < 2 ^ 63 then (seqIndex? i (xs.map U.int).length).bind fun k => (xs.map U.int)[k]?.map fun u => (u, (xs.map U.int).eraseIdx k) else none) = _
  rw [if_pos (by omega)]
  have e : seqIndex? i (xs.map U.int).length = some i.toNat := by
    have n0 : ¬ i < 0 := by omega
    unfold seqIndex?
    simp [n0, h0, h1]
  rw [e, Option.bind_some, List.getElem?_map, List.getElem?_eq_getElem hl, eraseIdx_map']
  rfl
theorem zip_asc : ∀ l : List Int, l.Pairwise (· ≤ ·) → l.Nodup → ∀ p ∈ l.zip (l.drop 1), p.1 < p.2
  | [], _, _, p, h => by simp at h
  | [x], _, _, p, h => by simp at h
  | x :: y :: r, h1, h2, p, h => by
    rw [List.drop_succ_cons, List.drop_zero, List.zip_cons_cons] at h
    rcases List.mem_cons.mp h with e | h
    · rw [e]
      have a := (List.pairwise_cons.mp h1).1 y List.mem_cons_self
      have b := (List.pairwise_cons.mp h2).1 y List.mem_cons_self
      show x < y
      have b' : x ≠ y := b
      have a' : x ≤ y := a
      omega
    · exact zip_asc (y :: r) (List.pairwise_cons.mp h1).2 (List.pairwise_cons.mp h2).2 p (by rw [List.drop_succ_cons, List.drop_zero]; exact h)
theorem values_k (own : Bool) (n : Nat) (f : List U) (top : Int) (hf : Well n f) (hn : n < 900000) (h1 : 1 ≤ top) (h3 : top ≤ 60) :
    ∃ (vs : List Int) (f' : List U), ValsOk vs ∧ (∀ x ∈ vs, x ≤ top) ∧ Well (n + 7) f' ∧ mf__law_values K [.cel own f, .val (.int top)] = some (.val (.lst (vs.map U.int)) (some f')) := by
  obtain ⟨d0, f0, p0, p1, hf0, e0⟩ := dip_k (K := K) false n f 6 hf (by omega) (by omega) (by omega)
  have hr : rgLok 1 (top + 1) = true := decide_eq_true ⟨by omega, by omega, by omega, by omega, by omega⟩
  generalize hsz : (if (1 + d0) < top then (1 + d0) else top) = sz
  have s1 : 1 ≤ sz ∧ sz ≤ 6 ∧ sz ≤ top := by rw [← hsz]; split <;> omega
  have hr2 : rngOk 0 sz = true := rngOk_i 0 sz (by omega) (by omega) (by omega) (by omega)
  have hrange : rangeU 1 (top + 1 - 1).toNat = ((List.range top.toNat).map fun i => (1 + (i : Nat) : Int)).map U.int := by
    rw [rangeU_map, List.map_map, show top + 1 - 1 = top from by omega]
    rfl
  have hnd : (((List.range top.toNat).map fun i => (1 + (i : Nat) : Int)) ++ []).Nodup := by
    rw [List.append_nil]
    exact List.Pairwise.map _ (fun x y (h : x ≠ y) => by omega) List.nodup_range
  have st := @lcM_inv (G__law_values_0 K).m (T__law_values_1 K).m (E__law_values_2 K).m [3]
    (fun us acc ρ => ∃ (g : List U) (l a : List Int), Well (n + 1 + a.length) g ∧ (us.length : Int) + a.length = sz ∧ (l.length : Int) + a.length = top ∧ (∀ n ∈ l, 1 ≤ n ∧ n ≤ top) ∧ (∀ n ∈ a, 1 ≤ n ∧ n ≤ top) ∧ (l ++ a).Nodup ∧ acc = a.map U.int ∧ ρ = [.cel false g, .val (.int top), .cel true (l.map U.int), .non])
  obtain ⟨acc', ρ', e2, g, l, a, hg, q1, q2, q3, q4, q5, rfl, rfl⟩ := st (by
    rintro u us acc ρ ⟨g, l, a, hg, q1, q2, q3, q4, q5, rfl, rfl⟩
    have q1' : (us.length : Int) + 1 + a.length = sz := by rw [List.length_cons] at q1; omega
    obtain ⟨d, g', d1, d2, hg', e⟩ := dip_k (K := K) false (n + 1 + a.length) g (l.length : Int) hg (by omega) (by omega) (by omega)
    obtain ⟨x, hx, hxi, ep⟩ := oPopAt_l (K := K) l d d1 d2 (by omega)
    have hlen : (l.eraseIdx d.toNat).length = l.length - 1 := List.length_eraseIdx_of_lt (by omega)
    clear st
    have e3 : (E__law_values_2 K).m [.cel false g, .val (.int top), .cel true (l.map U.int), .val u] = some (.ok (.int x) [.cel false g', .val (.int top), .cel true ((l.eraseIdx d.toNat).map U.int), .val u]) := by
      clear q1 q1' q2 q3 q4 q5 hlen hxi hsz hrange hnd s1
      ac_rfl
    refine ⟨[.cel false g, .val (.int top), .cel true (l.map U.int), .val u], rfl, .inr ⟨_, .int x, [.cel false g', .val (.int top), .cel true ((l.eraseIdx d.toNat).map U.int), .val u], rfl, e3, by rw [List.length_map]; omega,
      g', l.eraseIdx d.toNat, a ++ [x], by rw [List.length_append, List.length_singleton]; exact hg', ?_, ?_, fun n hn => q3 n (List.mem_of_mem_eraseIdx hn), fun n hn => ?_, ?_, by simp, rfl⟩⟩
    · rw [List.length_append, List.length_singleton]; omega
    · rw [List.length_append, List.length_singleton, hlen]; omega
    · rcases List.mem_append.mp hn with z | z
      · exact q4 n z
      · rw [List.mem_singleton.mp z]; exact q3 x hx
    · have p1 := L2.erase_perm l d.toNat x hxi
      have p2 : (l.eraseIdx d.toNat ++ (a ++ [x])).Perm (l ++ a) := by
        rw [← List.append_assoc]
        refine (List.perm_append_comm (l₁ := l.eraseIdx d.toNat ++ a) (l₂ := [x])).trans ?_
        exact (p1.append_right a)
      exact p2.nodup_iff.mpr q5)
    (rangeU 0 sz.toNat) [] [.cel false f0, .val (.int top), .cel true (((List.range top.toNat).map fun i => (1 + (i : Nat) : Int)).map U.int), .non]
    ⟨f0, (List.range top.toNat).map fun i => (1 + (i : Nat) : Int), [], hf0, by rw [rangeU_map]; simp; omega, by simp; omega, by simp; omega, by simp, hnd, rfl, rfl⟩
  clear st
  have la : (a.length : Int) = sz := by rw [List.length_nil] at q1; omega
  have nda : a.Nodup := (List.nodup_append.mp q5).2.1
  refine ⟨sortI a, g, ⟨?_, ?_, fun x hx => ?_, zip_asc _ (sortI_le a) ((sortI_perm' a).nodup_iff.mpr nda)⟩, fun x hx => (q4 x ((sortI_perm' a).mem_iff.mp hx)).2, hg.mono (by omega), ?_⟩
  · rw [(sortI_perm' a).length_eq]; omega
  · rw [(sortI_perm' a).length_eq]; omega
  · have := q4 x ((sortI_perm' a).mem_iff.mp hx); omega
  · have e5 := oSorted_l (K := K) a
    clear q1 q2 q3 q4 q5 la nda hg hf0 hf hnd p0 p1 hn h1 h3 s1
    unfold mf__law_values M__law_values
    trivial
end Sg
set_option Elab.async false
set_option linter.all false
set_option maxRecDepth 100000
set_option maxHeartbeats 1000000
namespace Sg
open PySem L2
variable {K : PySem.W.Frag}
theorem snl_n : (none : Option U).isSome = false := rfl
theorem tab_ky : List.lookup ("Tail" : Str) (tab_key K) = some (mf_Tail_key K) := rfl
theorem tab_mb : List.lookup ("Tail" : Str) (tab_minus_by K) = some (mf_Tail_minus_by K) := rfl
theorem tab_ws : List.lookup ("Tail" : Str) (tab_with_sign K) = some (mf_Tail_with_sign K) := rfl
abbrev T4 := Int × Bool × Bool × Int
abbrev tlF (x : T4) : List (Str × Fld) := [(("first_sign" : Str), .v (.int x.1)), (("next_minus" : Str), .v (.bl x.2.1)), (("block_minus" : Str), .v (.bl x.2.2.1)), (("top" : Str), .v (.int x.2.2.2))]
abbrev tlU (x : T4) : U := .ins "Tail" [(("first_sign" : Str), .int x.1), (("next_minus" : Str), .bl x.2.1), (("block_minus" : Str), .bl x.2.2.1), (("top" : Str), .int x.2.2.2)]
theorem pf0 (x : Fld) : putFl ("first_sign" : Str) x [] = [(("first_sign" : Str), x)] := rfl
theorem pf1 (a x : Fld) : putFl ("next_minus" : Str) x [(("first_sign" : Str), a)] = [(("first_sign" : Str), a), (("next_minus" : Str), x)] := rfl
theorem pf2 (a b x : Fld) : putFl ("block_minus" : Str) x [(("first_sign" : Str), a), (("next_minus" : Str), b)] = [(("first_sign" : Str), a), (("next_minus" : Str), b), (("block_minus" : Str), x)] := rfl
theorem pf3 (a b c x : Fld) : putFl ("top" : Str) x [(("first_sign" : Str), a), (("next_minus" : Str), b), (("block_minus" : Str), c)] = [(("first_sign" : Str), a), (("next_minus" : Str), b), (("block_minus" : Str), c), (("top" : Str), x)] := rfl
theorem lf (a b c d : U) : List.lookup ("first_sign" : Str) [(("first_sign" : Str), a), (("next_minus" : Str), b), (("block_minus" : Str), c), (("top" : Str), d)] = some a := rfl
theorem ln (a b c d : U) : List.lookup ("next_minus" : Str) [(("first_sign" : Str), a), (("next_minus" : Str), b), (("block_minus" : Str), c), (("top" : Str), d)] = some b := rfl
theorem lb (a b c d : U) : List.lookup ("block_minus" : Str) [(("first_sign" : Str), a), (("next_minus" : Str), b), (("block_minus" : Str), c), (("top" : Str), d)] = some c := rfl
theorem lt (a b c d : U) : List.lookup ("top" : Str) [(("first_sign" : Str), a), (("next_minus" : Str), b), (("block_minus" : Str), c), (("top" : Str), d)] = some d := rfl
theorem nky (a b c d : U) : List.lookup ("key" : Str) [(("first_sign" : Str), a), (("next_minus" : Str), b), (("block_minus" : Str), c), (("top" : Str), d)] = none := rfl
theorem nmb (a b c d : U) : List.lookup ("minus_by" : Str) [(("first_sign" : Str), a), (("next_minus" : Str), b), (("block_minus" : Str), c), (("top" : Str), d)] = none := rfl
theorem nws (a b c d : U) : List.lookup ("with_sign" : Str) [(("first_sign" : Str), a), (("next_minus" : Str), b), (("block_minus" : Str), c), (("top" : Str), d)] = none := rfl
def minus (k : Kd) (x : T4) (s : Int) : Bool := match k with
  | .block => decide (s < x.1) || (decide (s = x.1) && x.2.2.1)
  | .later => decide (s < x.2.2.2)
  | .plain => false
  | _ => decide (s < x.1)
def wth (x : T4) (s : Int) : T4 := (s, decide (s < x.1), minus .block x s, if x.2.2.2 > s then x.2.2.2 else s)
theorem in_sn (k : Kd) : (oIn (K := K) false).f (.str k.s) (.tup [.str "single", .str "next"]) = some (.bl (decide (k = .single ∨ k = .next))) := by cases k <;> rfl
theorem in_sk (a b : Kd) : (oIn (K := K) false).f (.str "single") (.tup [.str a.s, .str b.s]) = some (.bl (decide (a = .single ∨ b = .single))) := by cases a <;> cases b <;> rfl
local macro_rules | `(tactic| trivial) => `(tactic| simp -implicitDefEqProofs (disch := omega) only [*, mC_m, mVar_m, mLook_m, mLet_m, mNil_m, msNil_m, msSeq_m, msAsgF_m, msDrop_m, msRet_m, msRetF_m, msRaise_m, msFor_m, mtYes_m, mLc_m, mcNil_m, mcCel_m, mCall_m, moNone_m, moSome_m, mSlL_m, mBi_m, mBiF_m, miList_m, miTup_m, miRng1_m, miEnum_m, miZip_m, mMeth_m, msSet_m, mCat_m, mRepeat_m, mChain_m, mIsi_m, mRev_m, mListRng_m, mCallF_m, msParVV_m, mMethD_m, mNew_m, mCMeth_m, mConC_m, msTry_m, mSup_m, okE_some, okE_none, opE_ok, opE_ex, opF_ok, opF_ex, mOp_e, mIx_e, unE_ok, mUn_e, coE_ok, coE_ex, coF_ok, coF_ex, mCons_e, bindAE_ok, bindAE_ex, mTup_e, tupF_e, mFr_e, lstF_ok, mLst_e, tsE_ok, tsE_ex, mTest_e, okT_some, truE_ok, truE_ex, mTru_e, anE_t, anE_f, anE_ok, orE_t, orE_f, orE_ok, mAnd_e, mOr_e, noE_ok, noE_ex, mNot_e, blV_ok, blV_ex, anV_t, anV_f, anV_ok, orV_t, orV_f, orV_ok, mAndV_e, mOrV_e, noV_ok, noV_ex, mNotV_e, ifV_t, ifV_f, ifV_ok, mIf_e, ifS_t, ifS_f, ifS_ok, ifS_ex, msIf_e, nxO_some, asE_ok, asE_ex, msAsg_e, gcE_some, mgCons_e, mgNil_e, mgTup_e, mgName_e, cvE_ok, cvE_ex, consC_ok, mcVal_e, thenS_nx, thenS_bk, thenS_ct, thenS_rt, thenS_ex, bindES_ok, bindES_ex, bindAS_ok, bindAS_ex, bindE_ok, bindE_ex, mfOf_e, mfOf0_e, noX_val, noX_cel, coM_some, fin_val, fin_cel, fin_nx, fin_ex, oAdd_i, oSub_i, oMul_l, oMul_r, oMod_i, oDiv_i, oPow_i, oLt_i, oLe_i, oGt_i, oGe_i, oEqI_i, oIx_l, oIx_f, oIx_t, at1_0, at2_0, at2_1, at3_0, at3_1, at3_2, at4_0, at4_1, at4_2, at4_3, ix3_0, ix3_1, ix3_2, oMax2_i, oMin2_i, oAbs_i, oInt_b, oLen_l, oLen_f, oLen_t, oNeg_i, truU_i, truU_l, truU_b, truU_n, lstU_l, lstU_f, oAppend_u, lstF_0, tupF_0, lstF_1, tupF_1, lstF_2, tupF_2, lstF_3, tupF_3, lstF_4, tupF_4, lstF_5, tupF_5, lstF_6, tupF_6, isi_NoneType_bool, isi_NoneType_int, isi_NoneType_str, isi_NoneType_list, isi_NoneType_tuple, isi_NoneType_dict, isi_bool_bool, isi_bool_int, isi_bool_str, isi_bool_list, isi_bool_tuple, isi_bool_dict, isi_int_bool, isi_int_int, isi_int_str, isi_int_list, isi_int_tuple, isi_int_dict, isi_str_bool, isi_str_int, isi_str_str, isi_str_list, isi_str_tuple, isi_str_dict, isi_list_bool, isi_list_int, isi_list_str, isi_list_list, isi_list_tuple, isi_list_dict, isi_tuple_bool, isi_tuple_int, isi_tuple_str, isi_tuple_list, isi_tuple_tuple, isi_tuple_dict, isi_dict_bool, isi_dict_int, isi_dict_str, isi_dict_list, isi_dict_tuple, isi_dict_dict, tyU_n, tyU_b, tyU_i, tyU_s, tyU_l, tyU_t, rngOk_i, zipU_map, intsU_map, blsU_map, oAll_l, oSum_l, cutU_1, cutU_m1, drop_map, reverse_map, length_map', dropLast_map, oEq_i, oNe_i, oEq_b, oNe_b, oEq_nn, oNe_nn, oEq_tt, oNe_tt, oEq_tn, oNe_tn, oEq_nt, oNe_nt, oEq_pp, oNe_pp, oEq_ii, oNe_ii, List.zip_cons_cons, List.zip_nil_left, mCallF_m, oMul_s, oPowX_i, mMakeS_m, mMakeL_m, mFld_m, mProp_m, mnSeq_m, mnS_m, mnF_m, at0_e, allX_const, seqU_l, seqU_f, seqU_t, pm_nil, pm_cons, List.mem_singleton, and_self, scV_b, scV_i, scV_s, scV_n, Option.isSome_some, tyU_d, mgTup_2, mgTup_3, mgTup_4, or_false, false_or, or_self, or_true, true_or, Nat.reduceBEq, bindEA_ok, bindEA_ex, unown, kills, cellAt, List.map_cons, List.map_nil, List.length_cons, List.length_nil, List.cons_append, List.nil_append, List.replicate, List.getElem?_cons_succ, List.getElem?_cons_zero, List.set_cons_zero, List.set_cons_succ, Option.map_some, Option.map_none, Option.bind_some, Option.bind_none, Nat.reduceAdd, Nat.reduceSub, Nat.reduceLeDiff, Int.reduceLT, Int.reduceLE, Int.reduceNeg, Int.reduceToNat, Int.reducePow, decide_eq_true_eq, reduceIte, eq_self, ite_true, ite_false, Bool.false_eq_true, reduceCtorEq, resolve, celJ, nCel, Slot.isC, List.filter, putJ, callM, callMF, List.append_eq, Nat.reduceLT, Int.reduceMul, Int.reduceAdd, Int.reduceSub, ne_eq, not_true_eq_false, not_false_eq_true, Bool.not_false, Bool.not_true, decide_true, decide_false, frF, Int.cast_ofNat_Int, Bool.and_true, Bool.true_and, Bool.false_and, Bool.and_false, Bool.or_false, Bool.false_or, Bool.true_or, Bool.or_true, oList_l, oLen_l, snl_n, Option.getD_none, Option.getD_some, pf0, pf1, pf2, pf3, lf, ln, lb, lt, nky, nmb, nws, tab_ky, tab_mb, tab_ws, tab_wr, mMkV_m, mMkO_m, mMkV_m, msOF_m, mMkO_m, mfG_e, finG_nx, finG_val, finG_ex, retG_nil, retG_cons, nodup_0, nodup_1, unownG, Slot.withFlag, Slot.lent, Slot.kd, valsOf])
local macro_rules | `(tactic| ac_rfl) => `(tactic| (simp -implicitDefEqProofs (disch := omega) only [*, mC_m, mVar_m, mLook_m, mLet_m, mNil_m, msNil_m, msSeq_m, msAsgF_m, msDrop_m, msRet_m, msRetF_m, msRaise_m, msFor_m, mtYes_m, mLc_m, mcNil_m, mcCel_m, mCall_m, moNone_m, moSome_m, mSlL_m, mBi_m, mBiF_m, miList_m, miTup_m, miRng1_m, miEnum_m, miZip_m, mMeth_m, msSet_m, mCat_m, mRepeat_m, mChain_m, mIsi_m, mRev_m, mListRng_m, mCallF_m, msParVV_m, mMethD_m, mNew_m, mCMeth_m, mConC_m, msTry_m, mSup_m, okE_some, okE_none, opE_ok, opE_ex, opF_ok, opF_ex, mOp_e, mIx_e, unE_ok, mUn_e, coE_ok, coE_ex, coF_ok, coF_ex, mCons_e, bindAE_ok, bindAE_ex, mTup_e, tupF_e, mFr_e, lstF_ok, mLst_e, tsE_ok, tsE_ex, mTest_e, okT_some, truE_ok, truE_ex, mTru_e, anE_t, anE_f, anE_ok, orE_t, orE_f, orE_ok, mAnd_e, mOr_e, noE_ok, noE_ex, mNot_e, blV_ok, blV_ex, anV_t, anV_f, anV_ok, orV_t, orV_f, orV_ok, mAndV_e, mOrV_e, noV_ok, noV_ex, mNotV_e, ifV_t, ifV_f, ifV_ok, mIf_e, ifS_t, ifS_f, ifS_ok, ifS_ex, msIf_e, nxO_some, asE_ok, asE_ex, msAsg_e, gcE_some, mgCons_e, mgNil_e, mgTup_e, mgName_e, cvE_ok, cvE_ex, consC_ok, mcVal_e, thenS_nx, thenS_bk, thenS_ct, thenS_rt, thenS_ex, bindES_ok, bindES_ex, bindAS_ok, bindAS_ex, bindE_ok, bindE_ex, mfOf_e, mfOf0_e, noX_val, noX_cel, coM_some, fin_val, fin_cel, fin_nx, fin_ex, oAdd_i, oSub_i, oMul_l, oMul_r, oMod_i, oDiv_i, oPow_i, oLt_i, oLe_i, oGt_i, oGe_i, oEqI_i, oIx_l, oIx_f, oIx_t, at1_0, at2_0, at2_1, at3_0, at3_1, at3_2, at4_0, at4_1, at4_2, at4_3, ix3_0, ix3_1, ix3_2, oMax2_i, oMin2_i, oAbs_i, oInt_b, oLen_l, oLen_f, oLen_t, oNeg_i, truU_i, truU_l, truU_b, truU_n, lstU_l, lstU_f, oAppend_u, lstF_0, tupF_0, lstF_1, tupF_1, lstF_2, tupF_2, lstF_3, tupF_3, lstF_4, tupF_4, lstF_5, tupF_5, lstF_6, tupF_6, isi_NoneType_bool, isi_NoneType_int, isi_NoneType_str, isi_NoneType_list, isi_NoneType_tuple, isi_NoneType_dict, isi_bool_bool, isi_bool_int, isi_bool_str, isi_bool_list, isi_bool_tuple, isi_bool_dict, isi_int_bool, isi_int_int, isi_int_str, isi_int_list, isi_int_tuple, isi_int_dict, isi_str_bool, isi_str_int, isi_str_str, isi_str_list, isi_str_tuple, isi_str_dict, isi_list_bool, isi_list_int, isi_list_str, isi_list_list, isi_list_tuple, isi_list_dict, isi_tuple_bool, isi_tuple_int, isi_tuple_str, isi_tuple_list, isi_tuple_tuple, isi_tuple_dict, isi_dict_bool, isi_dict_int, isi_dict_str, isi_dict_list, isi_dict_tuple, isi_dict_dict, tyU_n, tyU_b, tyU_i, tyU_s, tyU_l, tyU_t, rngOk_i, zipU_map, intsU_map, blsU_map, oAll_l, oSum_l, cutU_1, cutU_m1, drop_map, reverse_map, length_map', dropLast_map, oEq_i, oNe_i, oEq_b, oNe_b, oEq_nn, oNe_nn, oEq_tt, oNe_tt, oEq_tn, oNe_tn, oEq_nt, oNe_nt, oEq_pp, oNe_pp, oEq_ii, oNe_ii, List.zip_cons_cons, List.zip_nil_left, mCallF_m, oMul_s, oPowX_i, mMakeS_m, mMakeL_m, mFld_m, mProp_m, mnSeq_m, mnS_m, mnF_m, at0_e, allX_const, seqU_l, seqU_f, seqU_t, pm_nil, pm_cons, List.mem_singleton, and_self, scV_b, scV_i, scV_s, scV_n, Option.isSome_some, tyU_d, mgTup_2, mgTup_3, mgTup_4, or_false, false_or, or_self, or_true, true_or, Nat.reduceBEq, bindEA_ok, bindEA_ex, unown, kills, cellAt, List.map_cons, List.map_nil, List.length_cons, List.length_nil, List.cons_append, List.nil_append, List.replicate, List.getElem?_cons_succ, List.getElem?_cons_zero, List.set_cons_zero, List.set_cons_succ, Option.map_some, Option.map_none, Option.bind_some, Option.bind_none, Nat.reduceAdd, Nat.reduceSub, Nat.reduceLeDiff, Int.reduceLT, Int.reduceLE, Int.reduceNeg, Int.reduceToNat, Int.reducePow, decide_eq_true_eq, reduceIte, eq_self, ite_true, ite_false, Bool.false_eq_true, reduceCtorEq, resolve, celJ, nCel, Slot.isC, List.filter, putJ, callM, callMF, List.append_eq, Nat.reduceLT, Int.reduceMul, Int.reduceAdd, Int.reduceSub, ne_eq, not_true_eq_false, not_false_eq_true, Bool.not_false, Bool.not_true, decide_true, decide_false, frF, Int.cast_ofNat_Int, Bool.and_true, Bool.true_and, Bool.false_and, Bool.and_false, Bool.or_false, Bool.false_or, Bool.true_or, Bool.or_true, G__law_all_rows_0, T__law_all_rows_1, E__law_all_rows_2, G__law_all_rows_3, G__law_all_rows_5, G__law_runs_0, G_is_run_0, T_is_run_1, E_is_run_2, G_are_runs_0, T_are_runs_1, E_are_runs_2, G_are_runs_3, T_are_runs_4, E_are_runs_5, G_Plain_signs_0, T_Plain_signs_1, E_Plain_signs_2, G_Next_signs_0, G_Single_signs_0, G_Block_signs_0, G_Later_signs_0, G_signs_of_0, T_signs_of_1, E_signs_of_2, G_value_of_0, T_value_of_1, E_value_of_2, G_are_values_0, T_are_values_1, E_are_values_2, G_are_values_3, T_are_values_4, E_are_values_5, G_count_agreeing_0, T_count_agreeing_1, E_count_agreeing_2, E_count_agreeing_3, G_count_agreeing_4, G_count_agreeing_6, G_count_agreeing_8, G__law_right_0, T__law_right_1, E__law_right_2, G__law_right_3, T__law_right_4, E__law_right_5, G__law_right_6, T__law_right_7, E__law_right_8, G__law_right_9, T__law_right_10, E__law_right_11, G__law_right_12, G__law_right_14, T__law_right_15, E__law_right_16, G__law_right_17, G__law_values_0, T__law_values_1, E__law_values_2, G_law_0, oList_l, oLen_l, snl_n, Option.getD_none, Option.getD_some, pf0, pf1, pf2, pf3, lf, ln, lb, lt, nky, nmb, nws, tab_ky, tab_mb, tab_ws, tab_wr, mMkV_m, mMkO_m, mMkV_m, msOF_m, mMkO_m, mfG_e, finG_nx, finG_val, finG_ex, retG_nil, retG_cons, nodup_0, nodup_1, unownG, Slot.withFlag, Slot.lent, Slot.kd, valsOf]; try rfl))
theorem init_Tail (x : T4) : mf_Tail___init__ K [.obj true "Tail" [], .val (.int x.1), .val (.bl x.2.1), .val (.bl x.2.2.1), .val (.int x.2.2.2)] = some (.val .non [.obj false "Tail" (tlF x), .non, .non, .non, .non]) := by
  have em : (M_Tail___init__ K).m [.obj false "Tail" [], .val (.int x.1), .val (.bl x.2.1), .val (.bl x.2.2.1), .val (.int x.2.2.2)] = some (.nx [.obj false "Tail" (tlF x), .val (.int x.1), .val (.bl x.2.1), .val (.bl x.2.2.1), .val (.int x.2.2.2)]) := by
    unfold M_Tail___init__
    trivial
  unfold mf_Tail___init__
  rw [mfG_e]
  show finG _ ((M_Tail___init__ K).m [.obj false "Tail" [], .val (.int x.1), .val (.bl x.2.1), .val (.bl x.2.2.1), .val (.int x.2.2.2)]) = _
  rw [em]
  rfl
theorem make_Tail (a : Int) (b c : Bool) (d : Int) : makeM "Tail" 5 (mf_Tail___init__ K) [.int a, .bl b, .bl c, .int d] = some (.inl (tlF (a, b, c, d))) := by
  have e := init_Tail (K := K) (a, b, c, d)
  unfold makeM
  simp only [List.map_cons, List.map_nil, e]
  rfl
theorem key_k (x : T4) : mf_Tail_key K [.val (tlU x)] = some (.val (.tup [.int x.1, .bl x.2.1, .bl x.2.2.1, .int x.2.2.2]) none) := by
  unfold mf_Tail_key M_Tail_key
  trivial
theorem minus_k (k : Kd) (x : T4) (s : Int) : mf_Tail_minus_by K [.val (tlU x), .val (.str k.s), .val (.int s)] = some (.val (.bl (minus k x s)) none) := by
  have e1 := in_sn (K := K) k
  have e2 := kd_block (K := K) k
  have e3 := kd_later (K := K) k
  by_cases c1 : k = .single ∨ k = .next
  · rw [decide_eq_true c1] at e1
    have : minus k x s = decide (s < x.1) := by rcases c1 with c | c <;> (rw [c]; rfl)
    rw [this]
    clear this c1 e2 e3
    generalize k.s = ks at *
    unfold mf_Tail_minus_by M_Tail_minus_by
    trivial
  · rw [decide_eq_false c1] at e1
    by_cases c2 : k = .block
    · rw [decide_eq_true c2] at e2
      have : minus k x s = (decide (s < x.1) || (decide (s = x.1) && x.2.2.1)) := by rw [c2]; rfl
      rw [this]
      clear this c1 c2 e3
      generalize k.s = ks at *
      cases d1 : decide (s < x.1)
      · cases d2 : decide (s = x.1)
        · unfold mf_Tail_minus_by M_Tail_minus_by
          trivial
        · unfold mf_Tail_minus_by M_Tail_minus_by
          trivial
      · unfold mf_Tail_minus_by M_Tail_minus_by
        trivial
    · rw [decide_eq_false c2] at e2
      by_cases c3 : k = .later
      · rw [decide_eq_true c3] at e3
        have : minus k x s = decide (s < x.2.2.2) := by rw [c3]; rfl
        rw [this]
        clear this c1 c2 c3
        generalize k.s = ks at *
        unfold mf_Tail_minus_by M_Tail_minus_by
        trivial
      · rw [decide_eq_false c3] at e3
        have : minus k x s = false := by
          cases k with
          | plain => rfl
          | single => exact absurd (.inl rfl) c1
          | next => exact absurd (.inr rfl) c1
          | block => exact absurd rfl c2
          | later => exact absurd rfl c3
        rw [this]
        clear this c1 c2 c3
        generalize k.s = ks at *
        unfold mf_Tail_minus_by M_Tail_minus_by
        trivial
theorem with_sign_k (x : T4) (s : Int) : mf_Tail_with_sign K [.val (tlU x), .val (.int s)] = some (.val (tlU (wth x s)) none) := by
  have e1 := minus_k (K := K) .next x s
  have e2 := minus_k (K := K) .block x s
  have e3 := make_Tail (K := K) s (minus .next x s) (minus .block x s) (if x.2.2.2 > s then x.2.2.2 else s)
  have e4 : U.ins "Tail" (fsU (tlF (s, minus .next x s, minus .block x s, if x.2.2.2 > s then x.2.2.2 else s))) = tlU (wth x s) := rfl
  rw [← e4]
  simp only [Kd.s] at e1 e2
  unfold mf_Tail_with_sign M_Tail_with_sign
  trivial
def fits (a b : Kd) (x : T4) (s : Int) : Bool := !(decide (a = .single ∨ b = .single) && (x.2.1 && decide (s < x.1))) && decide (minus a x s = minus b x s)
theorem fits_k (a b : Kd) (x : T4) (s : Int) : mf_fits_before K [.val (tlU x), .val (.int s), .val (.tup [.str a.s, .str b.s])] = some (.val (.bl (fits a b x s)) none) := by
  have e0 := in_sk (K := K) a b
  have e1 := minus_k (K := K) a x s
  have e2 := minus_k (K := K) b x s
  unfold fits
  generalize a.s = as at *
  generalize b.s = bs at *
  generalize minus a x s = ma at *
  generalize minus b x s = mb at *
  obtain ⟨f, n, bl, t⟩ := x
  have eq := oEq_b (K := K) ma mb
  cases c0 : decide (a = .single ∨ b = .single)
  · rw [c0] at e0
    clear c0
    unfold mf_fits_before M_fits_before
    trivial
  · rw [c0] at e0
    clear c0
    cases n
    · unfold mf_fits_before M_fits_before
      trivial
    · cases c2 : decide (s < f)
      · unfold mf_fits_before M_fits_before
        trivial
      · unfold mf_fits_before M_fits_before
        trivial
end Sg
set_option Elab.async false
set_option linter.all false
set_option maxRecDepth 100000
set_option maxHeartbeats 1000000
namespace Sg
open PySem L2
variable {K : PySem.W.Frag}
def kt4 (x : T4) : KT := .tup [.int x.1, .bl x.2.1, .bl x.2.2.1, .int x.2.2.2]
theorem bl_num (b b' : Bool) (h : (if b = true then (1 : Int) else 0) = if b' = true then 1 else 0) : b = b' := by
  cases b <;> cases b' <;> first | rfl | (simp at h)
theorem kt4_inj {x y : T4} : (kt4 x).key = (kt4 y).key ↔ x = y := by
  obtain ⟨a, b, c, d⟩ := x
  obtain ⟨a', b', c', d'⟩ := y
  constructor
  · intro h
    have h : NestedKey.tup [.num a, .num (if b = true then 1 else 0), .num (if c = true then 1 else 0), .num d] = NestedKey.tup [.num a', .num (if b' = true then 1 else 0), .num (if c' = true then 1 else 0), .num d'] := h
    injection h with h
    injection h with h1 h
    injection h with h2 h
    injection h with h3 h
    injection h with h4 _
    injection h1 with h1
    injection h2 with h2
    injection h3 with h3
    injection h4 with h4
    have q2 := bl_num b b' h2
    have q3 := bl_num c c' h3
    subst h1 q2 q3 h4
    rfl
  · intro h; rw [h]
def dctC (D : List (T4 × Int)) : List (KT × U) := D.map fun p => (kt4 p.1, .int p.2)
def putC (D : List (T4 × Int)) (x : T4) (m : Int) : List (T4 × Int) := if (D.any fun p => decide (p.1 = x)) = true then D.map (fun p => if p.1 = x then (p.1, m) else p) else D ++ [(x, m)]
def getC : List (T4 × Int) → T4 → Option Int
  | [], _ => none
  | p :: D, x => if p.1 = x then some p.2 else getC D x
theorem dec_kt (y x : T4) : decide ((kt4 y).key = (kt4 x).key) = decide (y = x) := by
  by_cases c : y = x
  · rw [decide_eq_true c, decide_eq_true (kt4_inj.mpr c)]
  · rw [decide_eq_false c, decide_eq_false (fun h => c (kt4_inj.mp h))]
theorem dctC_any (x : T4) : ∀ D : List (T4 × Int), ((dctC D).any fun kv => decide (kv.1.key = (kt4 x).key)) = D.any fun p => decide (p.1 = x)
  | [] => rfl
  | p :: D => by
    rw [List.any_cons, ← dctC_any x D, ← dec_kt p.1 x]
    rfl
theorem putN_C (D : List (T4 × Int)) (x : T4) (m : Int) : putN (dctC D) (kt4 x) (.int m) = dctC (putC D x m) := by
  unfold putN putC
  rw [dctC_any]
  split
  · unfold dctC
    rw [List.map_map, List.map_map]
    refine List.map_congr_left fun p _ => ?_
    show (if (kt4 p.1).key = (kt4 x).key then (kt4 p.1, U.int m) else (kt4 p.1, U.int p.2)) = (kt4 (if p.1 = x then (p.1, m) else p).1, U.int (if p.1 = x then (p.1, m) else p).2)
    by_cases c : p.1 = x
    · rw [if_pos (kt4_inj.mpr c), if_pos c]
    · rw [if_neg (fun h => c (kt4_inj.mp h)), if_neg c]
  · unfold dctC
    rw [List.map_append]
    rfl
theorem valN_C (x : T4) : ∀ D : List (T4 × Int), valN (dctC D) (kt4 x).key = (getC D x).map U.int
  | [] => rfl
  | p :: D => by
    show (if (kt4 p.1).key = (kt4 x).key then some (U.int p.2) else valN (dctC D) (kt4 x).key) = (if p.1 = x then some p.2 else getC D x).map U.int
    by_cases c : p.1 = x
    · rw [if_pos (kt4_inj.mpr c), if_pos c]; rfl
    · rw [if_neg (fun h => c (kt4_inj.mp h)), if_neg c, valN_C x D]
theorem getD_map (o : Option Int) : (o.map U.int).getD (.int 0) = .int (o.getD 0) := by cases o <;> rfl
def addC (D : List (T4 × Int)) (x : T4) (m : Int) : List (T4 × Int) := putC D x ((getC D x).getD 0 + m)
theorem putC_len (D : List (T4 × Int)) (x : T4) (m : Int) : (putC D x m).length ≤ D.length + 1 := by
  unfold putC; split <;> simp
theorem dctC_len (D : List (T4 × Int)) : (dctC D).length = D.length := by unfold dctC; rw [List.length_map]
def stC (a b : Kd) (x : T4) (m : Int) (D : List (T4 × Int)) (s : Int) : List (T4 × Int) := if fits a b x s = true then addC D (wth x s) m else D
theorem stC_len (a b : Kd) (x : T4) (m : Int) (D : List (T4 × Int)) (s : Int) : (stC a b x m D s).length ≤ D.length + 1 := by
  unfold stC; split
  · exact putC_len _ _ _
  · omega
def stsC (a b : Kd) (vs : List Int) (D : List (T4 × Int)) (p : T4 × Int) : List (T4 × Int) := vs.foldl (stC a b p.1 p.2) D
def nextC (a b : Kd) (vs : List Int) (F : List (T4 × Int)) : List (T4 × Int) := F.foldl (stsC a b vs) []
theorem foldC_len {α : Type} (g : List (T4 × Int) → α → List (T4 × Int)) (n : Nat) (h : ∀ L a, (g L a).length ≤ L.length + n) : ∀ (l : List α) (L : List (T4 × Int)), (l.foldl g L).length ≤ L.length + n * l.length
  | [], L => by simp
  | a :: l, L => by
    have := foldC_len g n h l (g L a)
    have := h L a
    rw [List.foldl_cons, List.length_cons, Nat.mul_succ]; omega
theorem stsC_len (a b : Kd) (vs : List Int) (D : List (T4 × Int)) (p : T4 × Int) : (stsC a b vs D p).length ≤ D.length + vs.length := by
  have := foldC_len (stC a b p.1 p.2) 1 (stC_len a b p.1 p.2) vs D
  unfold stsC; omega
theorem nextC_len (a b : Kd) (vs : List Int) (F : List (T4 × Int)) : (nextC a b vs F).length ≤ vs.length * F.length := by
  have := foldC_len (stsC a b vs) vs.length (stsC_len a b vs) F []
  rw [List.length_nil] at this
  unfold nextC; omega
def D1C (vs : List Int) : List (T4 × Int) := vs.foldl (fun D v => putC D (v, false, false, v) 1) []
def endC (a b : Kd) (vs : List Int) : Nat → List (T4 × Int)
  | 0 => D1C vs
  | n + 1 => nextC a b vs (endC a b vs n)
theorem endC_len (a b : Kd) {vs : List Int} (h : vs.length ≤ 6) : ∀ n, (endC a b vs n).length ≤ 6 ^ (n + 1)
  | 0 => by
    have := foldC_len (fun D v => putC D (v, false, false, v) 1) 1 (fun D v => putC_len D _ _) vs []
    rw [List.length_nil] at this
    show (D1C vs).length ≤ 6
    unfold D1C; omega
  | n + 1 => by
    have h1 := nextC_len a b vs (endC a b vs n)
    have h2 := endC_len a b h n
    have : vs.length * (endC a b vs n).length ≤ 6 * 6 ^ (n + 1) := Nat.mul_le_mul h h2
    show (nextC a b vs (endC a b vs n)).length ≤ 6 ^ (n + 1 + 1)
    rw [Nat.pow_succ 6 (n + 1)]
    omega
theorem endC_small (a b : Kd) {vs : List Int} (h : vs.length ≤ 6) {n : Nat} (hn : n ≤ 5) : (endC a b vs n).length ≤ 46656 := by
  have h1 := endC_len a b h n
  have : 6 ^ (n + 1) ≤ 6 ^ 6 := Nat.pow_le_pow_right (by omega) (by omega)
  omega
def cntA (a b : Kd) (vs : List Int) (n : Nat) : Int := ((endC a b vs (n - 1)).map (·.2)).sum
theorem fold_putC : ∀ (vs : List Int) (L : List (T4 × Int)), vs.foldl (fun a v => putN a (kt4 (v, false, false, v)) (.int 1)) (dctC L) = dctC (vs.foldl (fun D v => putC D (v, false, false, v) 1) L)
  | [], _ => rfl
  | v :: vs, L => by rw [List.foldl_cons, List.foldl_cons, putN_C, fold_putC vs]
theorem keyN_c (a : Int) (b c : Bool) (d : Int) : keyN (.tup [.int a, .bl b, .bl c, .int d]) = some (kt4 (a, b, c, d)) := rfl
theorem isTupU_t (l : List U) : (isTupU (.tup l) = true) = True := by simp [isTupU]
theorem kt4_d8 (x : T4) : ((kt4 x).key.depth ≤ 8) = True := eq_true (Nat.le_of_ble_eq_true (by rfl))
local macro_rules | `(tactic| trivial) => `(tactic| simp -implicitDefEqProofs (disch := omega) only [*, mC_m, mVar_m, mLook_m, mLet_m, mNil_m, msNil_m, msSeq_m, msAsgF_m, msDrop_m, msRet_m, msRetF_m, msRaise_m, msFor_m, mtYes_m, mLc_m, mcNil_m, mcCel_m, mCall_m, moNone_m, moSome_m, mSlL_m, mBi_m, mBiF_m, miList_m, miTup_m, miRng1_m, miEnum_m, miZip_m, mMeth_m, msSet_m, mCat_m, mRepeat_m, mChain_m, mIsi_m, mRev_m, mListRng_m, mCallF_m, msParVV_m, mMethD_m, mNew_m, mCMeth_m, mConC_m, msTry_m, mSup_m, okE_some, okE_none, opE_ok, opE_ex, opF_ok, opF_ex, mOp_e, mIx_e, unE_ok, mUn_e, coE_ok, coE_ex, coF_ok, coF_ex, mCons_e, bindAE_ok, bindAE_ex, mTup_e, tupF_e, mFr_e, lstF_ok, mLst_e, tsE_ok, tsE_ex, mTest_e, okT_some, truE_ok, truE_ex, mTru_e, anE_t, anE_f, anE_ok, orE_t, orE_f, orE_ok, mAnd_e, mOr_e, noE_ok, noE_ex, mNot_e, blV_ok, blV_ex, anV_t, anV_f, anV_ok, orV_t, orV_f, orV_ok, mAndV_e, mOrV_e, noV_ok, noV_ex, mNotV_e, ifV_t, ifV_f, ifV_ok, mIf_e, ifS_t, ifS_f, ifS_ok, ifS_ex, msIf_e, nxO_some, asE_ok, asE_ex, msAsg_e, gcE_some, mgCons_e, mgNil_e, mgTup_e, mgName_e, cvE_ok, cvE_ex, consC_ok, mcVal_e, thenS_nx, thenS_bk, thenS_ct, thenS_rt, thenS_ex, bindES_ok, bindES_ex, bindAS_ok, bindAS_ex, bindE_ok, bindE_ex, mfOf_e, mfOf0_e, noX_val, noX_cel, coM_some, fin_val, fin_cel, fin_nx, fin_ex, oAdd_i, oSub_i, oMul_l, oMul_r, oMod_i, oDiv_i, oPow_i, oLt_i, oLe_i, oGt_i, oGe_i, oEqI_i, oIx_l, oIx_f, oIx_t, at1_0, at2_0, at2_1, at3_0, at3_1, at3_2, at4_0, at4_1, at4_2, at4_3, ix3_0, ix3_1, ix3_2, oMax2_i, oMin2_i, oAbs_i, oInt_b, oLen_l, oLen_f, oLen_t, oNeg_i, truU_i, truU_l, truU_b, truU_n, lstU_l, lstU_f, oAppend_u, lstF_0, tupF_0, lstF_1, tupF_1, lstF_2, tupF_2, lstF_3, tupF_3, lstF_4, tupF_4, lstF_5, tupF_5, lstF_6, tupF_6, isi_NoneType_bool, isi_NoneType_int, isi_NoneType_str, isi_NoneType_list, isi_NoneType_tuple, isi_NoneType_dict, isi_bool_bool, isi_bool_int, isi_bool_str, isi_bool_list, isi_bool_tuple, isi_bool_dict, isi_int_bool, isi_int_int, isi_int_str, isi_int_list, isi_int_tuple, isi_int_dict, isi_str_bool, isi_str_int, isi_str_str, isi_str_list, isi_str_tuple, isi_str_dict, isi_list_bool, isi_list_int, isi_list_str, isi_list_list, isi_list_tuple, isi_list_dict, isi_tuple_bool, isi_tuple_int, isi_tuple_str, isi_tuple_list, isi_tuple_tuple, isi_tuple_dict, isi_dict_bool, isi_dict_int, isi_dict_str, isi_dict_list, isi_dict_tuple, isi_dict_dict, tyU_n, tyU_b, tyU_i, tyU_s, tyU_l, tyU_t, rngOk_i, zipU_map, intsU_map, blsU_map, oAll_l, oSum_l, cutU_1, cutU_m1, drop_map, reverse_map, length_map', dropLast_map, oEq_i, oNe_i, oEq_b, oNe_b, oEq_nn, oNe_nn, oEq_tt, oNe_tt, oEq_tn, oNe_tn, oEq_nt, oNe_nt, oEq_pp, oNe_pp, oEq_ii, oNe_ii, List.zip_cons_cons, List.zip_nil_left, mCallF_m, oMul_s, oPowX_i, mMakeS_m, mMakeL_m, mFld_m, mProp_m, mnSeq_m, mnS_m, mnF_m, at0_e, allX_const, seqU_l, seqU_f, seqU_t, pm_nil, pm_cons, List.mem_singleton, and_self, scV_b, scV_i, scV_s, scV_n, Option.isSome_some, tyU_d, mgTup_2, mgTup_3, mgTup_4, or_false, false_or, or_self, or_true, true_or, Nat.reduceBEq, bindEA_ok, bindEA_ex, unown, kills, cellAt, List.map_cons, List.map_nil, List.length_cons, List.length_nil, List.cons_append, List.nil_append, List.replicate, List.getElem?_cons_succ, List.getElem?_cons_zero, List.set_cons_zero, List.set_cons_succ, Option.map_some, Option.map_none, Option.bind_some, Option.bind_none, Nat.reduceAdd, Nat.reduceSub, Nat.reduceLeDiff, Int.reduceLT, Int.reduceLE, Int.reduceNeg, Int.reduceToNat, Int.reducePow, decide_eq_true_eq, reduceIte, eq_self, ite_true, ite_false, Bool.false_eq_true, reduceCtorEq, resolve, celJ, nCel, Slot.isC, List.filter, putJ, callM, callMF, List.append_eq, Nat.reduceLT, Int.reduceMul, Int.reduceAdd, Int.reduceSub, ne_eq, not_true_eq_false, not_false_eq_true, Bool.not_false, Bool.not_true, decide_true, decide_false, frF, Int.cast_ofNat_Int, Bool.and_true, Bool.true_and, Bool.false_and, Bool.and_false, Bool.or_false, Bool.false_or, Bool.true_or, Bool.or_true, oList_l, oLen_l, snl_n, Option.getD_none, Option.getD_some, ptab_row_S, ptab_rule_S, look_hv, look_hr, tab_wr, look_wr, pf0, pf1, pf2, pf3, lf, ln, lb, lt, nky, nmb, nws, tab_ky, tab_mb, tab_ws, mMkV_m, mMkO_m, msNPut_m, msAsgNN_m, mLetF_m, keyN_c, isTupU_t, kt4_d8, putN_C, valN_C, miItemsN_m, mListVN_m, mGetNC_m, getD_map, fldU, mDcN_m, mMkV_m, msOF_m, mMkO_m, mfG_e, finG_nx, finG_val, finG_ex, retG_nil, retG_cons, nodup_0, nodup_1, unownG, Slot.withFlag, Slot.lent, Slot.kd, valsOf])
local macro_rules | `(tactic| ac_rfl) => `(tactic| (simp -implicitDefEqProofs (disch := omega) only [*, mC_m, mVar_m, mLook_m, mLet_m, mNil_m, msNil_m, msSeq_m, msAsgF_m, msDrop_m, msRet_m, msRetF_m, msRaise_m, msFor_m, mtYes_m, mLc_m, mcNil_m, mcCel_m, mCall_m, moNone_m, moSome_m, mSlL_m, mBi_m, mBiF_m, miList_m, miTup_m, miRng1_m, miEnum_m, miZip_m, mMeth_m, msSet_m, mCat_m, mRepeat_m, mChain_m, mIsi_m, mRev_m, mListRng_m, mCallF_m, msParVV_m, mMethD_m, mNew_m, mCMeth_m, mConC_m, msTry_m, mSup_m, okE_some, okE_none, opE_ok, opE_ex, opF_ok, opF_ex, mOp_e, mIx_e, unE_ok, mUn_e, coE_ok, coE_ex, coF_ok, coF_ex, mCons_e, bindAE_ok, bindAE_ex, mTup_e, tupF_e, mFr_e, lstF_ok, mLst_e, tsE_ok, tsE_ex, mTest_e, okT_some, truE_ok, truE_ex, mTru_e, anE_t, anE_f, anE_ok, orE_t, orE_f, orE_ok, mAnd_e, mOr_e, noE_ok, noE_ex, mNot_e, blV_ok, blV_ex, anV_t, anV_f, anV_ok, orV_t, orV_f, orV_ok, mAndV_e, mOrV_e, noV_ok, noV_ex, mNotV_e, ifV_t, ifV_f, ifV_ok, mIf_e, ifS_t, ifS_f, ifS_ok, ifS_ex, msIf_e, nxO_some, asE_ok, asE_ex, msAsg_e, gcE_some, mgCons_e, mgNil_e, mgTup_e, mgName_e, cvE_ok, cvE_ex, consC_ok, mcVal_e, thenS_nx, thenS_bk, thenS_ct, thenS_rt, thenS_ex, bindES_ok, bindES_ex, bindAS_ok, bindAS_ex, bindE_ok, bindE_ex, mfOf_e, mfOf0_e, noX_val, noX_cel, coM_some, fin_val, fin_cel, fin_nx, fin_ex, oAdd_i, oSub_i, oMul_l, oMul_r, oMod_i, oDiv_i, oPow_i, oLt_i, oLe_i, oGt_i, oGe_i, oEqI_i, oIx_l, oIx_f, oIx_t, at1_0, at2_0, at2_1, at3_0, at3_1, at3_2, at4_0, at4_1, at4_2, at4_3, ix3_0, ix3_1, ix3_2, oMax2_i, oMin2_i, oAbs_i, oInt_b, oLen_l, oLen_f, oLen_t, oNeg_i, truU_i, truU_l, truU_b, truU_n, lstU_l, lstU_f, oAppend_u, lstF_0, tupF_0, lstF_1, tupF_1, lstF_2, tupF_2, lstF_3, tupF_3, lstF_4, tupF_4, lstF_5, tupF_5, lstF_6, tupF_6, isi_NoneType_bool, isi_NoneType_int, isi_NoneType_str, isi_NoneType_list, isi_NoneType_tuple, isi_NoneType_dict, isi_bool_bool, isi_bool_int, isi_bool_str, isi_bool_list, isi_bool_tuple, isi_bool_dict, isi_int_bool, isi_int_int, isi_int_str, isi_int_list, isi_int_tuple, isi_int_dict, isi_str_bool, isi_str_int, isi_str_str, isi_str_list, isi_str_tuple, isi_str_dict, isi_list_bool, isi_list_int, isi_list_str, isi_list_list, isi_list_tuple, isi_list_dict, isi_tuple_bool, isi_tuple_int, isi_tuple_str, isi_tuple_list, isi_tuple_tuple, isi_tuple_dict, isi_dict_bool, isi_dict_int, isi_dict_str, isi_dict_list, isi_dict_tuple, isi_dict_dict, tyU_n, tyU_b, tyU_i, tyU_s, tyU_l, tyU_t, rngOk_i, zipU_map, intsU_map, blsU_map, oAll_l, oSum_l, cutU_1, cutU_m1, drop_map, reverse_map, length_map', dropLast_map, oEq_i, oNe_i, oEq_b, oNe_b, oEq_nn, oNe_nn, oEq_tt, oNe_tt, oEq_tn, oNe_tn, oEq_nt, oNe_nt, oEq_pp, oNe_pp, oEq_ii, oNe_ii, List.zip_cons_cons, List.zip_nil_left, mCallF_m, oMul_s, oPowX_i, mMakeS_m, mMakeL_m, mFld_m, mProp_m, mnSeq_m, mnS_m, mnF_m, at0_e, allX_const, seqU_l, seqU_f, seqU_t, pm_nil, pm_cons, List.mem_singleton, and_self, scV_b, scV_i, scV_s, scV_n, Option.isSome_some, tyU_d, mgTup_2, mgTup_3, mgTup_4, or_false, false_or, or_self, or_true, true_or, Nat.reduceBEq, bindEA_ok, bindEA_ex, unown, kills, cellAt, List.map_cons, List.map_nil, List.length_cons, List.length_nil, List.cons_append, List.nil_append, List.replicate, List.getElem?_cons_succ, List.getElem?_cons_zero, List.set_cons_zero, List.set_cons_succ, Option.map_some, Option.map_none, Option.bind_some, Option.bind_none, Nat.reduceAdd, Nat.reduceSub, Nat.reduceLeDiff, Int.reduceLT, Int.reduceLE, Int.reduceNeg, Int.reduceToNat, Int.reducePow, decide_eq_true_eq, reduceIte, eq_self, ite_true, ite_false, Bool.false_eq_true, reduceCtorEq, resolve, celJ, nCel, Slot.isC, List.filter, putJ, callM, callMF, List.append_eq, Nat.reduceLT, Int.reduceMul, Int.reduceAdd, Int.reduceSub, ne_eq, not_true_eq_false, not_false_eq_true, Bool.not_false, Bool.not_true, decide_true, decide_false, frF, Int.cast_ofNat_Int, Bool.and_true, Bool.true_and, Bool.false_and, Bool.and_false, Bool.or_false, Bool.false_or, Bool.true_or, Bool.or_true, G__law_all_rows_0, T__law_all_rows_1, E__law_all_rows_2, G__law_all_rows_3, G__law_all_rows_5, G__law_runs_0, G_is_run_0, T_is_run_1, E_is_run_2, G_are_runs_0, T_are_runs_1, E_are_runs_2, G_are_runs_3, T_are_runs_4, E_are_runs_5, G_Plain_signs_0, T_Plain_signs_1, E_Plain_signs_2, G_Next_signs_0, G_Single_signs_0, G_Block_signs_0, G_Later_signs_0, G_signs_of_0, T_signs_of_1, E_signs_of_2, G_value_of_0, T_value_of_1, E_value_of_2, G_are_values_0, T_are_values_1, E_are_values_2, G_are_values_3, T_are_values_4, E_are_values_5, G_count_agreeing_0, T_count_agreeing_1, E_count_agreeing_2, E_count_agreeing_3, G_count_agreeing_4, G_count_agreeing_6, G_count_agreeing_8, G__law_right_0, T__law_right_1, E__law_right_2, G__law_right_3, T__law_right_4, E__law_right_5, G__law_right_6, T__law_right_7, E__law_right_8, G__law_right_9, T__law_right_10, E__law_right_11, G__law_right_12, G__law_right_14, T__law_right_15, E__law_right_16, G__law_right_17, G__law_values_0, T__law_values_1, E__law_values_2, G_law_0, oList_l, oLen_l, snl_n, Option.getD_none, Option.getD_some, ptab_row_S, ptab_rule_S, look_hv, look_hr, tab_wr, look_wr, pf0, pf1, pf2, pf3, lf, ln, lb, lt, nky, nmb, nws, tab_ky, tab_mb, tab_ws, mMkV_m, mMkO_m, msNPut_m, msAsgNN_m, mLetF_m, keyN_c, isTupU_t, kt4_d8, putN_C, valN_C, miItemsN_m, mListVN_m, mGetNC_m, getD_map, fldU, mDcN_m, mMkV_m, msOF_m, mMkO_m, mfG_e, finG_nx, finG_val, finG_ex, retG_nil, retG_cons, nodup_0, nodup_1, unownG, Slot.withFlag, Slot.lent, Slot.kd, valsOf]; try rfl))
theorem ca_step (V0 V1 V2 V4 V5 : Slot) (a b : Kd) (x : T4) (m : Int) (KU : U) (s : Int) (D : List (T4 × Int)) (hl : D.length < 16777216) :
    ∃ y, (B_count_agreeing_5 K).m [V0, V1, V2, .val (.tup [.str a.s, .str b.s]), V4, V5, .fld true (.dn (dctC D)), .val KU, .val (.int m), .val (tlU x), .val (.int s), .non] =
      some (.nx [V0, V1, V2, .val (.tup [.str a.s, .str b.s]), V4, V5, .fld true (.dn (dctC (stC a b x m D s))), .val KU, .val (.int m), .val (tlU x), .val (.int s), y]) := by
  have e1 := fits_k (K := K) a b x s
  have e2 := with_sign_k (K := K) x s
  have e3 := key_k (K := K) (wth x s)
  have hl2 : (dctC D).length < 16777216 := by rw [dctC_len]; exact hl
  unfold stC
  cases c : fits a b x s
  · rw [c] at e1
    refine ⟨.non, ?_⟩
    rw [if_neg (by decide)]
    clear c hl e2 e3
    generalize a.s = as at *
    generalize b.s = bs at *
    unfold B_count_agreeing_5
    trivial
  · rw [c] at e1
    refine ⟨.val (.tup [.int (wth x s).1, .bl (wth x s).2.1, .bl (wth x s).2.2.1, .int (wth x s).2.2.2]), ?_⟩
    rw [if_pos rfl]
    unfold addC
    clear c hl
    generalize wth x s = w at *
    obtain ⟨w1, w2, w3, w4⟩ := w
    generalize a.s = as at *
    generalize b.s = bs at *
    unfold B_count_agreeing_5
    trivial
theorem ca_loop (V0 V1 V2 V4 V5 : Slot) (a b : Kd) (x : T4) (m : Int) (KU : U) : ∀ (l : List Int) (D : List (T4 × Int)), D.length + l.length < 16777216 →
    loopM (G_count_agreeing_4 K).m (B_count_agreeing_5 K).m [10, 11] (l.map U.int) [V0, V1, V2, .val (.tup [.str a.s, .str b.s]), V4, V5, .fld true (.dn (dctC D)), .val KU, .val (.int m), .val (tlU x), .non, .non] =
      some (.nx [V0, V1, V2, .val (.tup [.str a.s, .str b.s]), V4, V5, .fld true (.dn (dctC (l.foldl (stC a b x m) D))), .val KU, .val (.int m), .val (tlU x), .non, .non])
  | [], D, _ => rfl
  | s :: l, D, hl => by
    rw [List.length_cons] at hl
    have h := stC_len a b x m D s
    obtain ⟨y, st⟩ := ca_step (K := K) V0 V1 V2 V4 V5 a b x m KU s D (by omega)
    have ih := ca_loop V0 V1 V2 V4 V5 a b x m KU l (stC a b x m D s) (by omega)
    rw [List.map_cons, List.foldl_cons]
    unfold loopM
    rw [show (G_count_agreeing_4 K).m (.int s) [V0, V1, V2, .val (.tup [.str a.s, .str b.s]), V4, V5, .fld true (.dn (dctC D)), .val KU, .val (.int m), .val (tlU x), .non, .non] = some [V0, V1, V2, .val (.tup [.str a.s, .str b.s]), V4, V5, .fld true (.dn (dctC D)), .val KU, .val (.int m), .val (tlU x), .val (.int s), .non] from rfl]
    dsimp only
    rw [st]
    exact ih
theorem ca_state (V1 V2 V4 V5 : Slot) (vs : List Int) (k a b : Kd) (p : T4 × Int) (D : List (T4 × Int)) (hl : D.length + vs.length < 16777216) :
    ∃ y9, (B_count_agreeing_7 K).m [.val (sysU vs k), V1, V2, .val (.tup [.str a.s, .str b.s]), V4, V5, .fld true (.dn (dctC D)), .val (ktU (kt4 p.1)), .val (.int p.2), .non, .non, .non] =
      some (.nx [.val (sysU vs k), V1, V2, .val (.tup [.str a.s, .str b.s]), V4, V5, .fld true (.dn (dctC (stsC a b vs D p))), .val (ktU (kt4 p.1)), .val (.int p.2), y9, .non, .non]) := by
  have lp := ca_loop (K := K) (.val (sysU vs k)) V1 V2 V4 V5 a b p.1 p.2 (ktU (kt4 p.1)) vs D hl
  have er := row_k (K := K) vs k
  obtain ⟨⟨x1, x2, x3, x4⟩, m⟩ := p
  have ek : ktU (kt4 (x1, x2, x3, x4)) = .tup [.int x1, .bl x2, .bl x3, .int x4] := rfl
  have em := make_Tail (K := K) x1 x2 x3 x4
  have e4 : U.ins "Tail" (fsU (tlF (x1, x2, x3, x4))) = tlU (x1, x2, x3, x4) := rfl
  have a0 : ∀ p q r s : U, atI [p, q, r, s] 0 = some p := fun _ _ _ _ => rfl
  have a1 : ∀ p q r s : U, atI [p, q, r, s] 1 = some q := fun _ _ _ _ => rfl
  have a2 : ∀ p q r s : U, atI [p, q, r, s] 2 = some r := fun _ _ _ _ => rfl
  have a3 : ∀ p q r s : U, atI [p, q, r, s] 3 = some s := fun _ _ _ _ => rfl
  refine ⟨.val (tlU (x1, x2, x3, x4)), ?_⟩
  unfold stsC
  dsimp only at lp ⊢
  rw [ek] at lp ⊢
  clear hl ek
  generalize dctC (vs.foldl (stC a b (x1, x2, x3, x4) m) D) = D2 at *
  generalize dctC D = D0 at *
  generalize hS : sysU vs k = S at *
  generalize vs.map U.int = VU at *
  generalize a.s = as at *
  generalize b.s = bs at *
  generalize hT : tlU (x1, x2, x3, x4) = T at *
  subst hS
  unfold B_count_agreeing_7
  trivial
end Sg
set_option Elab.async false
set_option linter.all false
set_option maxRecDepth 100000
set_option maxHeartbeats 1000000
namespace Sg
open PySem L2
variable {K : PySem.W.Frag}
local macro_rules | `(tactic| trivial) => `(tactic| simp -implicitDefEqProofs (disch := omega) only [*, mC_m, mVar_m, mLook_m, mLet_m, mNil_m, msNil_m, msSeq_m, msAsgF_m, msDrop_m, msRet_m, msRetF_m, msRaise_m, msFor_m, mtYes_m, mLc_m, mcNil_m, mcCel_m, mCall_m, moNone_m, moSome_m, mSlL_m, mBi_m, mBiF_m, miList_m, miTup_m, miRng1_m, miEnum_m, miZip_m, mMeth_m, msSet_m, mCat_m, mRepeat_m, mChain_m, mIsi_m, mRev_m, mListRng_m, mCallF_m, msParVV_m, mMethD_m, mNew_m, mCMeth_m, mConC_m, msTry_m, mSup_m, okE_some, okE_none, opE_ok, opE_ex, opF_ok, opF_ex, mOp_e, mIx_e, unE_ok, mUn_e, coE_ok, coE_ex, coF_ok, coF_ex, mCons_e, bindAE_ok, bindAE_ex, mTup_e, tupF_e, mFr_e, lstF_ok, mLst_e, tsE_ok, tsE_ex, mTest_e, okT_some, truE_ok, truE_ex, mTru_e, anE_t, anE_f, anE_ok, orE_t, orE_f, orE_ok, mAnd_e, mOr_e, noE_ok, noE_ex, mNot_e, blV_ok, blV_ex, anV_t, anV_f, anV_ok, orV_t, orV_f, orV_ok, mAndV_e, mOrV_e, noV_ok, noV_ex, mNotV_e, ifV_t, ifV_f, ifV_ok, mIf_e, ifS_t, ifS_f, ifS_ok, ifS_ex, msIf_e, nxO_some, asE_ok, asE_ex, msAsg_e, gcE_some, mgCons_e, mgNil_e, mgTup_e, mgName_e, cvE_ok, cvE_ex, consC_ok, mcVal_e, thenS_nx, thenS_bk, thenS_ct, thenS_rt, thenS_ex, bindES_ok, bindES_ex, bindAS_ok, bindAS_ex, bindE_ok, bindE_ex, mfOf_e, mfOf0_e, noX_val, noX_cel, coM_some, fin_val, fin_cel, fin_nx, fin_ex, oAdd_i, oSub_i, oMul_l, oMul_r, oMod_i, oDiv_i, oPow_i, oLt_i, oLe_i, oGt_i, oGe_i, oEqI_i, oIx_l, oIx_f, oIx_t, at1_0, at2_0, at2_1, at3_0, at3_1, at3_2, at4_0, at4_1, at4_2, at4_3, ix3_0, ix3_1, ix3_2, oMax2_i, oMin2_i, oAbs_i, oInt_b, oLen_l, oLen_f, oLen_t, oNeg_i, truU_i, truU_l, truU_b, truU_n, lstU_l, lstU_f, oAppend_u, lstF_0, tupF_0, lstF_1, tupF_1, lstF_2, tupF_2, lstF_3, tupF_3, lstF_4, tupF_4, lstF_5, tupF_5, lstF_6, tupF_6, isi_NoneType_bool, isi_NoneType_int, isi_NoneType_str, isi_NoneType_list, isi_NoneType_tuple, isi_NoneType_dict, isi_bool_bool, isi_bool_int, isi_bool_str, isi_bool_list, isi_bool_tuple, isi_bool_dict, isi_int_bool, isi_int_int, isi_int_str, isi_int_list, isi_int_tuple, isi_int_dict, isi_str_bool, isi_str_int, isi_str_str, isi_str_list, isi_str_tuple, isi_str_dict, isi_list_bool, isi_list_int, isi_list_str, isi_list_list, isi_list_tuple, isi_list_dict, isi_tuple_bool, isi_tuple_int, isi_tuple_str, isi_tuple_list, isi_tuple_tuple, isi_tuple_dict, isi_dict_bool, isi_dict_int, isi_dict_str, isi_dict_list, isi_dict_tuple, isi_dict_dict, tyU_n, tyU_b, tyU_i, tyU_s, tyU_l, tyU_t, rngOk_i, zipU_map, intsU_map, blsU_map, oAll_l, oSum_l, cutU_1, cutU_m1, drop_map, reverse_map, length_map', dropLast_map, oEq_i, oNe_i, oEq_b, oNe_b, oEq_nn, oNe_nn, oEq_tt, oNe_tt, oEq_tn, oNe_tn, oEq_nt, oNe_nt, oEq_pp, oNe_pp, oEq_ii, oNe_ii, List.zip_cons_cons, List.zip_nil_left, mCallF_m, oMul_s, oPowX_i, mMakeS_m, mMakeL_m, mFld_m, mProp_m, mnSeq_m, mnS_m, mnF_m, at0_e, allX_const, seqU_l, seqU_f, seqU_t, pm_nil, pm_cons, List.mem_singleton, and_self, scV_b, scV_i, scV_s, scV_n, Option.isSome_some, tyU_d, mgTup_2, mgTup_3, mgTup_4, or_false, false_or, or_self, or_true, true_or, Nat.reduceBEq, bindEA_ok, bindEA_ex, unown, kills, cellAt, List.map_cons, List.map_nil, List.length_cons, List.length_nil, List.cons_append, List.nil_append, List.replicate, List.getElem?_cons_succ, List.getElem?_cons_zero, List.set_cons_zero, List.set_cons_succ, Option.map_some, Option.map_none, Option.bind_some, Option.bind_none, Nat.reduceAdd, Nat.reduceSub, Nat.reduceLeDiff, Int.reduceLT, Int.reduceLE, Int.reduceNeg, Int.reduceToNat, Int.reducePow, decide_eq_true_eq, reduceIte, eq_self, ite_true, ite_false, Bool.false_eq_true, reduceCtorEq, resolve, celJ, nCel, Slot.isC, List.filter, putJ, callM, callMF, List.append_eq, Nat.reduceLT, Int.reduceMul, Int.reduceAdd, Int.reduceSub, ne_eq, not_true_eq_false, not_false_eq_true, Bool.not_false, Bool.not_true, decide_true, decide_false, frF, Int.cast_ofNat_Int, Bool.and_true, Bool.true_and, Bool.false_and, Bool.and_false, Bool.or_false, Bool.false_or, Bool.true_or, Bool.or_true, oList_l, oLen_l, snl_n, Option.getD_none, Option.getD_some, ptab_row_S, ptab_rule_S, look_hv, look_hr, tab_wr, look_wr, pf0, pf1, pf2, pf3, lf, ln, lb, lt, nky, nmb, nws, tab_ky, tab_mb, tab_ws, mMkV_m, mMkO_m, msNPut_m, msAsgNN_m, mLetF_m, keyN_c, isTupU_t, kt4_d8, putN_C, valN_C, miItemsN_m, mListVN_m, mGetNC_m, getD_map, fldU, mDcN_m, mMkV_m, msOF_m, mMkO_m, mfG_e, finG_nx, finG_val, finG_ex, retG_nil, retG_cons, nodup_0, nodup_1, unownG, Slot.withFlag, Slot.lent, Slot.kd, valsOf])
local macro_rules | `(tactic| ac_rfl) => `(tactic| (simp -implicitDefEqProofs (disch := omega) only [*, mC_m, mVar_m, mLook_m, mLet_m, mNil_m, msNil_m, msSeq_m, msAsgF_m, msDrop_m, msRet_m, msRetF_m, msRaise_m, msFor_m, mtYes_m, mLc_m, mcNil_m, mcCel_m, mCall_m, moNone_m, moSome_m, mSlL_m, mBi_m, mBiF_m, miList_m, miTup_m, miRng1_m, miEnum_m, miZip_m, mMeth_m, msSet_m, mCat_m, mRepeat_m, mChain_m, mIsi_m, mRev_m, mListRng_m, mCallF_m, msParVV_m, mMethD_m, mNew_m, mCMeth_m, mConC_m, msTry_m, mSup_m, okE_some, okE_none, opE_ok, opE_ex, opF_ok, opF_ex, mOp_e, mIx_e, unE_ok, mUn_e, coE_ok, coE_ex, coF_ok, coF_ex, mCons_e, bindAE_ok, bindAE_ex, mTup_e, tupF_e, mFr_e, lstF_ok, mLst_e, tsE_ok, tsE_ex, mTest_e, okT_some, truE_ok, truE_ex, mTru_e, anE_t, anE_f, anE_ok, orE_t, orE_f, orE_ok, mAnd_e, mOr_e, noE_ok, noE_ex, mNot_e, blV_ok, blV_ex, anV_t, anV_f, anV_ok, orV_t, orV_f, orV_ok, mAndV_e, mOrV_e, noV_ok, noV_ex, mNotV_e, ifV_t, ifV_f, ifV_ok, mIf_e, ifS_t, ifS_f, ifS_ok, ifS_ex, msIf_e, nxO_some, asE_ok, asE_ex, msAsg_e, gcE_some, mgCons_e, mgNil_e, mgTup_e, mgName_e, cvE_ok, cvE_ex, consC_ok, mcVal_e, thenS_nx, thenS_bk, thenS_ct, thenS_rt, thenS_ex, bindES_ok, bindES_ex, bindAS_ok, bindAS_ex, bindE_ok, bindE_ex, mfOf_e, mfOf0_e, noX_val, noX_cel, coM_some, fin_val, fin_cel, fin_nx, fin_ex, oAdd_i, oSub_i, oMul_l, oMul_r, oMod_i, oDiv_i, oPow_i, oLt_i, oLe_i, oGt_i, oGe_i, oEqI_i, oIx_l, oIx_f, oIx_t, at1_0, at2_0, at2_1, at3_0, at3_1, at3_2, at4_0, at4_1, at4_2, at4_3, ix3_0, ix3_1, ix3_2, oMax2_i, oMin2_i, oAbs_i, oInt_b, oLen_l, oLen_f, oLen_t, oNeg_i, truU_i, truU_l, truU_b, truU_n, lstU_l, lstU_f, oAppend_u, lstF_0, tupF_0, lstF_1, tupF_1, lstF_2, tupF_2, lstF_3, tupF_3, lstF_4, tupF_4, lstF_5, tupF_5, lstF_6, tupF_6, isi_NoneType_bool, isi_NoneType_int, isi_NoneType_str, isi_NoneType_list, isi_NoneType_tuple, isi_NoneType_dict, isi_bool_bool, isi_bool_int, isi_bool_str, isi_bool_list, isi_bool_tuple, isi_bool_dict, isi_int_bool, isi_int_int, isi_int_str, isi_int_list, isi_int_tuple, isi_int_dict, isi_str_bool, isi_str_int, isi_str_str, isi_str_list, isi_str_tuple, isi_str_dict, isi_list_bool, isi_list_int, isi_list_str, isi_list_list, isi_list_tuple, isi_list_dict, isi_tuple_bool, isi_tuple_int, isi_tuple_str, isi_tuple_list, isi_tuple_tuple, isi_tuple_dict, isi_dict_bool, isi_dict_int, isi_dict_str, isi_dict_list, isi_dict_tuple, isi_dict_dict, tyU_n, tyU_b, tyU_i, tyU_s, tyU_l, tyU_t, rngOk_i, zipU_map, intsU_map, blsU_map, oAll_l, oSum_l, cutU_1, cutU_m1, drop_map, reverse_map, length_map', dropLast_map, oEq_i, oNe_i, oEq_b, oNe_b, oEq_nn, oNe_nn, oEq_tt, oNe_tt, oEq_tn, oNe_tn, oEq_nt, oNe_nt, oEq_pp, oNe_pp, oEq_ii, oNe_ii, List.zip_cons_cons, List.zip_nil_left, mCallF_m, oMul_s, oPowX_i, mMakeS_m, mMakeL_m, mFld_m, mProp_m, mnSeq_m, mnS_m, mnF_m, at0_e, allX_const, seqU_l, seqU_f, seqU_t, pm_nil, pm_cons, List.mem_singleton, and_self, scV_b, scV_i, scV_s, scV_n, Option.isSome_some, tyU_d, mgTup_2, mgTup_3, mgTup_4, or_false, false_or, or_self, or_true, true_or, Nat.reduceBEq, bindEA_ok, bindEA_ex, unown, kills, cellAt, List.map_cons, List.map_nil, List.length_cons, List.length_nil, List.cons_append, List.nil_append, List.replicate, List.getElem?_cons_succ, List.getElem?_cons_zero, List.set_cons_zero, List.set_cons_succ, Option.map_some, Option.map_none, Option.bind_some, Option.bind_none, Nat.reduceAdd, Nat.reduceSub, Nat.reduceLeDiff, Int.reduceLT, Int.reduceLE, Int.reduceNeg, Int.reduceToNat, Int.reducePow, decide_eq_true_eq, reduceIte, eq_self, ite_true, ite_false, Bool.false_eq_true, reduceCtorEq, resolve, celJ, nCel, Slot.isC, List.filter, putJ, callM, callMF, List.append_eq, Nat.reduceLT, Int.reduceMul, Int.reduceAdd, Int.reduceSub, ne_eq, not_true_eq_false, not_false_eq_true, Bool.not_false, Bool.not_true, decide_true, decide_false, frF, Int.cast_ofNat_Int, Bool.and_true, Bool.true_and, Bool.false_and, Bool.and_false, Bool.or_false, Bool.false_or, Bool.true_or, Bool.or_true, G__law_all_rows_0, T__law_all_rows_1, E__law_all_rows_2, G__law_all_rows_3, G__law_all_rows_5, G__law_runs_0, G_is_run_0, T_is_run_1, E_is_run_2, G_are_runs_0, T_are_runs_1, E_are_runs_2, G_are_runs_3, T_are_runs_4, E_are_runs_5, G_Plain_signs_0, T_Plain_signs_1, E_Plain_signs_2, G_Next_signs_0, G_Single_signs_0, G_Block_signs_0, G_Later_signs_0, G_signs_of_0, T_signs_of_1, E_signs_of_2, G_value_of_0, T_value_of_1, E_value_of_2, G_are_values_0, T_are_values_1, E_are_values_2, G_are_values_3, T_are_values_4, E_are_values_5, G_count_agreeing_0, T_count_agreeing_1, E_count_agreeing_2, E_count_agreeing_3, G_count_agreeing_4, G_count_agreeing_6, G_count_agreeing_8, G__law_right_0, T__law_right_1, E__law_right_2, G__law_right_3, T__law_right_4, E__law_right_5, G__law_right_6, T__law_right_7, E__law_right_8, G__law_right_9, T__law_right_10, E__law_right_11, G__law_right_12, G__law_right_14, T__law_right_15, E__law_right_16, G__law_right_17, G__law_values_0, T__law_values_1, E__law_values_2, G_law_0, oList_l, oLen_l, snl_n, Option.getD_none, Option.getD_some, ptab_row_S, ptab_rule_S, look_hv, look_hr, tab_wr, look_wr, pf0, pf1, pf2, pf3, lf, ln, lb, lt, nky, nmb, nws, tab_ky, tab_mb, tab_ws, mMkV_m, mMkO_m, msNPut_m, msAsgNN_m, mLetF_m, keyN_c, isTupU_t, kt4_d8, putN_C, valN_C, miItemsN_m, mListVN_m, mGetNC_m, getD_map, fldU, mDcN_m, mMkV_m, msOF_m, mMkO_m, mfG_e, finG_nx, finG_val, finG_ex, retG_nil, retG_cons, nodup_0, nodup_1, unownG, Slot.withFlag, Slot.lent, Slot.kd, valsOf]; try rfl))
theorem ca_states (V1 V2 V4 V5 : Slot) (vs : List Int) (k a b : Kd) : ∀ (F D : List (T4 × Int)), D.length + (F.length + 1) * (vs.length + 1) < 16777216 →
    loopM (G_count_agreeing_6 K).m (B_count_agreeing_7 K).m [7, 8, 9, 11] ((dctC F).map fun p => U.tup [ktU p.1, p.2]) [.val (sysU vs k), V1, V2, .val (.tup [.str a.s, .str b.s]), V4, V5, .fld true (.dn (dctC D)), .non, .non, .non, .non, .non] =
      some (.nx [.val (sysU vs k), V1, V2, .val (.tup [.str a.s, .str b.s]), V4, V5, .fld true (.dn (dctC (F.foldl (stsC a b vs) D))), .non, .non, .non, .non, .non])
  | [], D, _ => rfl
  | p :: F, D, hl => by
    rw [List.length_cons, Nat.succ_mul] at hl
    have h := stsC_len a b vs D p
    obtain ⟨y9, st⟩ := ca_state (K := K) V1 V2 V4 V5 vs k a b p D (by omega)
    have ih := ca_states V1 V2 V4 V5 vs k a b F (stsC a b vs D p) (by omega)
    rw [List.foldl_cons]
    show loopM (G_count_agreeing_6 K).m (B_count_agreeing_7 K).m [7, 8, 9, 11] (U.tup [ktU (kt4 p.1), .int p.2] :: (dctC F).map fun p => U.tup [ktU p.1, p.2]) _ = _
    unfold loopM
    rw [show (G_count_agreeing_6 K).m (U.tup [ktU (kt4 p.1), .int p.2]) [.val (sysU vs k), V1, V2, .val (.tup [.str a.s, .str b.s]), V4, V5, .fld true (.dn (dctC D)), .non, .non, .non, .non, .non] = some [.val (sysU vs k), V1, V2, .val (.tup [.str a.s, .str b.s]), V4, V5, .fld true (.dn (dctC D)), .val (ktU (kt4 p.1)), .val (.int p.2), .non, .non, .non] from rfl]
    dsimp only
    rw [st]
    exact ih
theorem ca_turn (V1 V2 V5 : Slot) (vs : List Int) (k a b : Kd) (F : List (T4 × Int)) (hl : (F.length + 1) * (vs.length + 1) < 16777216) :
    ∃ y6, (B_count_agreeing_9 K).m [.val (sysU vs k), V1, V2, .val (.tup [.str a.s, .str b.s]), .val (.ndc (dctC F)), V5, .non, .non, .non, .non, .non, .non] =
      some (.nx [.val (sysU vs k), V1, V2, .val (.tup [.str a.s, .str b.s]), .val (.ndc (dctC (nextC a b vs F))), V5, y6, .non, .non, .non, .non, .non]) := by
  have lp := ca_states (K := K) V1 V2 (.val (.ndc (dctC F))) V5 vs k a b F [] (by rw [List.length_nil]; omega)
  rw [show dctC [] = [] from rfl] at lp
  refine ⟨.val (.ndc (dctC (nextC a b vs F))), ?_⟩
  unfold nextC
  clear hl
  generalize dctC (F.foldl (stsC a b vs) []) = D2 at *
  generalize dctC F = D0 at *
  generalize sysU vs k = S at *
  generalize a.s = as at *
  generalize b.s = bs at *
  unfold B_count_agreeing_9
  trivial
theorem ca_turns (V1 V2 : Slot) (vs : List Int) (h : vs.length ≤ 6) (k a b : Kd) : ∀ (us : List U) (n : Nat), n + us.length ≤ 5 →
    loopM (G_count_agreeing_8 K).m (B_count_agreeing_9 K).m [5, 6, 7, 8, 9, 11] us [.val (sysU vs k), V1, V2, .val (.tup [.str a.s, .str b.s]), .val (.ndc (dctC (endC a b vs n))), .non, .non, .non, .non, .non, .non, .non] =
      some (.nx [.val (sysU vs k), V1, V2, .val (.tup [.str a.s, .str b.s]), .val (.ndc (dctC (endC a b vs (n + us.length)))), .non, .non, .non, .non, .non, .non, .non])
  | [], n, _ => rfl
  | u :: us, n, hn => by
    rw [List.length_cons] at hn
    have sm := endC_small a b h (n := n) (by omega)
    obtain ⟨y6, st⟩ := ca_turn (K := K) V1 V2 (.val u) vs k a b (endC a b vs n) (by
      have : ((endC a b vs n).length + 1) * (vs.length + 1) ≤ 46657 * 7 := Nat.mul_le_mul (by omega) (by omega)
      omega)
    have ih := ca_turns V1 V2 vs h k a b us (n + 1) (by omega)
    rw [List.length_cons, show n + (us.length + 1) = n + 1 + us.length from by omega]
    unfold loopM
    rw [show (G_count_agreeing_8 K).m u [.val (sysU vs k), V1, V2, .val (.tup [.str a.s, .str b.s]), .val (.ndc (dctC (endC a b vs n))), .non, .non, .non, .non, .non, .non, .non] = some [.val (sysU vs k), V1, V2, .val (.tup [.str a.s, .str b.s]), .val (.ndc (dctC (endC a b vs n))), .val u, .non, .non, .non, .non, .non, .non] from rfl]
    dsimp only
    rw [st]
    exact ih
theorem ca_first (V0 V1 V2 V3 : Slot) (vs : List Int) (h : vs.length ≤ 6) : dcMN (G_count_agreeing_0 K).m (T_count_agreeing_1 K).m (E_count_agreeing_2 K).m (E_count_agreeing_3 K).m [10] (vs.map U.int) [] [V0, V1, V2, V3, .non, .non, .non, .non, .non, .non, .non, .non] = some (.ok (.ndc (dctC (D1C vs))) [V0, V1, V2, V3, .non, .non, .non, .non, .non, .non, .non, .non]) := by
  have e := dcMN_fold (g := (G_count_agreeing_0 K).m) (tt := (T_count_agreeing_1 K).m) (ek := (E_count_agreeing_2 K).m) (ev := (E_count_agreeing_3 K).m) (vs := [10]) (ρ := [V0, V1, V2, V3, .non, .non, .non, .non, .non, .non, .non, .non]) U.int (fun v => kt4 (v, false, false, v)) (fun _ => U.int 1) vs [] (by rw [List.length_nil]; omega) fun v _ => by
    have d8 : (kt4 (v, false, false, v)).key.depth ≤ 8 := by rw [kt4_d8]; trivial
    exact ⟨_, _, _, _, .tup [.int v, .bl false, .bl false, .int v], (by ac_rfl), (by ac_rfl), (by ac_rfl), rfl, rfl, d8, (by ac_rfl), rfl⟩
  rw [e]
  show some (EO.ok (.ndc (vs.foldl (fun a v => putN a (kt4 (v, false, false, v)) (.int 1)) (dctC []))) _) = _
  rw [fold_putC]
  rfl
theorem count_k (vs : List Int) (a b : Kd) (h : ValsOk vs) (n : Nat) (n1 : 1 ≤ n) (n5 : n ≤ 5) : mf_count_agreeing K [.val (sysU vs a), .val (.str b.s), .val (.int n)] = some (.val (.int (cntA a b vs n)) none) := by
  have wr := with_rule_k (K := K) vs a b h
  have er1 := ruleP_k (K := K) vs a
  have er2 := ruleP_k (K := K) vs b
  have ero := row_k (K := K) vs a
  have ei := is_integer_i (K := K) n 1
  rw [decide_eq_true (show (1 : Int) ≤ n by omega)] at ei
  have c5 : decide ((n : Int) > 5) = false := decide_eq_false (by omega)
  have fst := fun V0 V1 V2 V3 => ca_first (K := K) V0 V1 V2 V3 vs h.top
  have lp := ca_turns (K := K) (.val (.str b.s)) (.val (.int n)) vs h.top a a b (rangeU 0 ((n : Int) - 1).toNat) 0 (by
    unfold rangeU
    rw [List.length_map, List.length_range]; omega)
  have lr : (rangeU 0 ((n : Int) - 1).toNat).length = n - 1 := by
    unfold rangeU
    rw [List.length_map, List.length_range]; omega
  rw [lr, Nat.zero_add, show endC a b vs 0 = D1C vs from rfl] at lp
  have hr : rngOk 0 ((n : Int) - 1) = true := rngOk_i 0 _ (by omega) (by omega) (by omega) (by omega)
  have em : (dctC (endC a b vs (n - 1))).map (fun p => p.2) = ((endC a b vs (n - 1)).map (·.2)).map U.int := by
    unfold dctC
    rw [List.map_map, List.map_map]
    rfl
  have es := oSum_l (K := K) ((endC a b vs (n - 1)).map (·.2))
  unfold cntA
  clear h n1 n5 lr
  generalize ((endC a b vs (n - 1)).map (·.2)) = Z at *
  generalize dctC (endC a b vs (n - 1)) = D2 at *
  generalize dctC (D1C vs) = D1 at *
  generalize vs.map U.int = VU at *
  generalize a.s = as at *
  generalize b.s = bs at *
  unfold mf_count_agreeing M_count_agreeing
  trivial
end Sg
set_option Elab.async false
set_option linter.all false
set_option maxRecDepth 100000
set_option maxHeartbeats 1000000
namespace Sg
open PySem L2
variable {K : PySem.W.Frag}
def hdB (s : Int) : List Int → Bool
  | [] => false
  | x :: _ => decide (s < x)
def lessB (k : Kd) (s : Int) (r : List Int) : Bool := match k with
  | .plain => false
  | .later => r.any fun x => decide (s < x)
  | .block => hdB s (r.filter fun x => !decide (x = s))
  | _ => hdB s r
def rd (k : Kd) : List Int → List Int
  | [] => []
  | s :: r => (if lessB k s r = true then 0 - s else s) :: rd k r
theorem less_mem {k : Kd} {s : Int} {r : List Int} (h : lessB k s r = true) : k ≠ .plain ∧ ∃ x ∈ r, s < x := by
  cases k with
  | plain => cases h
  | later =>
    obtain ⟨x, hx, e⟩ := List.any_eq_true.mp h
    exact ⟨by decide, x, hx, of_decide_eq_true e⟩
  | block =>
    refine ⟨by decide, ?_⟩
    have h : hdB s (r.filter fun x => !decide (x = s)) = true := h
    cases e : r.filter (fun x => !decide (x = s)) with
    | nil => rw [e] at h; cases h
    | cons x t =>
      rw [e] at h
      have hx : x ∈ r.filter (fun x => !decide (x = s)) := by rw [e]; exact List.mem_cons_self
      exact ⟨x, (List.mem_filter.mp hx).1, of_decide_eq_true h⟩
  | single =>
    refine ⟨by decide, ?_⟩
    cases r with
    | nil => cases h
    | cons x t => exact ⟨x, List.mem_cons_self, of_decide_eq_true h⟩
  | next =>
    refine ⟨by decide, ?_⟩
    cases r with
    | nil => cases h
    | cons x t => exact ⟨x, List.mem_cons_self, of_decide_eq_true h⟩
end Sg
set_option Elab.async false
set_option linter.all false
set_option maxRecDepth 100000
set_option maxHeartbeats 1000000
namespace Sg
open PySem L2
variable {K : PySem.W.Frag}
def llU (l : List Int) : U := .lst (l.map U.int)
local macro_rules | `(tactic| trivial) => `(tactic| simp -implicitDefEqProofs (disch := omega) only [*, mC_m, mVar_m, mLook_m, mLet_m, mNil_m, msNil_m, msSeq_m, msAsgF_m, msDrop_m, msRet_m, msRetF_m, msRaise_m, msFor_m, mtYes_m, mLc_m, mcNil_m, mcCel_m, mCall_m, moNone_m, moSome_m, mSlL_m, mBi_m, mBiF_m, miList_m, miTup_m, miRng1_m, miEnum_m, miZip_m, mMeth_m, msSet_m, mCat_m, mRepeat_m, mChain_m, mIsi_m, mRev_m, mListRng_m, mCallF_m, msParVV_m, mMethD_m, mNew_m, mCMeth_m, mConC_m, msTry_m, mSup_m, okE_some, okE_none, opE_ok, opE_ex, opF_ok, opF_ex, mOp_e, mIx_e, unE_ok, mUn_e, coE_ok, coE_ex, coF_ok, coF_ex, mCons_e, bindAE_ok, bindAE_ex, mTup_e, tupF_e, mFr_e, lstF_ok, mLst_e, tsE_ok, tsE_ex, mTest_e, okT_some, truE_ok, truE_ex, mTru_e, anE_t, anE_f, anE_ok, orE_t, orE_f, orE_ok, mAnd_e, mOr_e, noE_ok, noE_ex, mNot_e, blV_ok, blV_ex, anV_t, anV_f, anV_ok, orV_t, orV_f, orV_ok, mAndV_e, mOrV_e, noV_ok, noV_ex, mNotV_e, ifV_t, ifV_f, ifV_ok, mIf_e, ifS_t, ifS_f, ifS_ok, ifS_ex, msIf_e, nxO_some, asE_ok, asE_ex, msAsg_e, gcE_some, mgCons_e, mgNil_e, mgTup_e, mgName_e, cvE_ok, cvE_ex, consC_ok, mcVal_e, thenS_nx, thenS_bk, thenS_ct, thenS_rt, thenS_ex, bindES_ok, bindES_ex, bindAS_ok, bindAS_ex, bindE_ok, bindE_ex, mfOf_e, mfOf0_e, noX_val, noX_cel, coM_some, fin_val, fin_cel, fin_nx, fin_ex, oAdd_i, oSub_i, oMul_l, oMul_r, oMod_i, oDiv_i, oPow_i, oLt_i, oLe_i, oGt_i, oGe_i, oEqI_i, oIx_l, oIx_f, oIx_t, at1_0, at2_0, at2_1, at3_0, at3_1, at3_2, at4_0, at4_1, at4_2, at4_3, ix3_0, ix3_1, ix3_2, oMax2_i, oMin2_i, oAbs_i, oInt_b, oLen_l, oLen_f, oLen_t, oNeg_i, truU_i, truU_l, truU_b, truU_n, lstU_l, lstU_f, oAppend_u, lstF_0, tupF_0, lstF_1, tupF_1, lstF_2, tupF_2, lstF_3, tupF_3, lstF_4, tupF_4, lstF_5, tupF_5, lstF_6, tupF_6, isi_NoneType_bool, isi_NoneType_int, isi_NoneType_str, isi_NoneType_list, isi_NoneType_tuple, isi_NoneType_dict, isi_bool_bool, isi_bool_int, isi_bool_str, isi_bool_list, isi_bool_tuple, isi_bool_dict, isi_int_bool, isi_int_int, isi_int_str, isi_int_list, isi_int_tuple, isi_int_dict, isi_str_bool, isi_str_int, isi_str_str, isi_str_list, isi_str_tuple, isi_str_dict, isi_list_bool, isi_list_int, isi_list_str, isi_list_list, isi_list_tuple, isi_list_dict, isi_tuple_bool, isi_tuple_int, isi_tuple_str, isi_tuple_list, isi_tuple_tuple, isi_tuple_dict, isi_dict_bool, isi_dict_int, isi_dict_str, isi_dict_list, isi_dict_tuple, isi_dict_dict, tyU_n, tyU_b, tyU_i, tyU_s, tyU_l, tyU_t, rngOk_i, zipU_map, intsU_map, blsU_map, oAll_l, oSum_l, cutU_1, cutU_m1, drop_map, reverse_map, length_map', dropLast_map, oEq_i, oNe_i, oEq_b, oNe_b, oEq_nn, oNe_nn, oEq_tt, oNe_tt, oEq_tn, oNe_tn, oEq_nt, oNe_nt, oEq_pp, oNe_pp, oEq_ii, oNe_ii, List.zip_cons_cons, List.zip_nil_left, mCallF_m, oMul_s, oPowX_i, mMakeS_m, mMakeL_m, mFld_m, mProp_m, mnSeq_m, mnS_m, mnF_m, at0_e, allX_const, seqU_l, seqU_f, seqU_t, pm_nil, pm_cons, List.mem_singleton, and_self, scV_b, scV_i, scV_s, scV_n, Option.isSome_some, tyU_d, mgTup_2, mgTup_3, mgTup_4, or_false, false_or, or_self, or_true, true_or, Nat.reduceBEq, bindEA_ok, bindEA_ex, unown, kills, cellAt, List.map_cons, List.map_nil, List.length_cons, List.length_nil, List.cons_append, List.nil_append, List.replicate, List.getElem?_cons_succ, List.getElem?_cons_zero, List.set_cons_zero, List.set_cons_succ, Option.map_some, Option.map_none, Option.bind_some, Option.bind_none, Nat.reduceAdd, Nat.reduceSub, Nat.reduceLeDiff, Int.reduceLT, Int.reduceLE, Int.reduceNeg, Int.reduceToNat, Int.reducePow, decide_eq_true_eq, reduceIte, eq_self, ite_true, ite_false, Bool.false_eq_true, reduceCtorEq, resolve, celJ, nCel, Slot.isC, List.filter, putJ, callM, callMF, List.append_eq, Nat.reduceLT, Int.reduceMul, Int.reduceAdd, Int.reduceSub, ne_eq, not_true_eq_false, not_false_eq_true, Bool.not_false, Bool.not_true, decide_true, decide_false, frF, Int.cast_ofNat_Int, Bool.and_true, Bool.true_and, Bool.false_and, Bool.and_false, Bool.or_false, Bool.false_or, Bool.true_or, Bool.or_true, oList_l, oLen_l, snl_n, Option.getD_none, Option.getD_some, mMkV_m, msOF_m, mMkO_m, mfG_e, finG_nx, finG_val, finG_ex, retG_nil, retG_cons, nodup_0, nodup_1, unownG, Slot.withFlag, Slot.lent, Slot.kd, valsOf])
local macro_rules | `(tactic| ac_rfl) => `(tactic| (simp -implicitDefEqProofs (disch := omega) only [*, mC_m, mVar_m, mLook_m, mLet_m, mNil_m, msNil_m, msSeq_m, msAsgF_m, msDrop_m, msRet_m, msRetF_m, msRaise_m, msFor_m, mtYes_m, mLc_m, mcNil_m, mcCel_m, mCall_m, moNone_m, moSome_m, mSlL_m, mBi_m, mBiF_m, miList_m, miTup_m, miRng1_m, miEnum_m, miZip_m, mMeth_m, msSet_m, mCat_m, mRepeat_m, mChain_m, mIsi_m, mRev_m, mListRng_m, mCallF_m, msParVV_m, mMethD_m, mNew_m, mCMeth_m, mConC_m, msTry_m, mSup_m, okE_some, okE_none, opE_ok, opE_ex, opF_ok, opF_ex, mOp_e, mIx_e, unE_ok, mUn_e, coE_ok, coE_ex, coF_ok, coF_ex, mCons_e, bindAE_ok, bindAE_ex, mTup_e, tupF_e, mFr_e, lstF_ok, mLst_e, tsE_ok, tsE_ex, mTest_e, okT_some, truE_ok, truE_ex, mTru_e, anE_t, anE_f, anE_ok, orE_t, orE_f, orE_ok, mAnd_e, mOr_e, noE_ok, noE_ex, mNot_e, blV_ok, blV_ex, anV_t, anV_f, anV_ok, orV_t, orV_f, orV_ok, mAndV_e, mOrV_e, noV_ok, noV_ex, mNotV_e, ifV_t, ifV_f, ifV_ok, mIf_e, ifS_t, ifS_f, ifS_ok, ifS_ex, msIf_e, nxO_some, asE_ok, asE_ex, msAsg_e, gcE_some, mgCons_e, mgNil_e, mgTup_e, mgName_e, cvE_ok, cvE_ex, consC_ok, mcVal_e, thenS_nx, thenS_bk, thenS_ct, thenS_rt, thenS_ex, bindES_ok, bindES_ex, bindAS_ok, bindAS_ex, bindE_ok, bindE_ex, mfOf_e, mfOf0_e, noX_val, noX_cel, coM_some, fin_val, fin_cel, fin_nx, fin_ex, oAdd_i, oSub_i, oMul_l, oMul_r, oMod_i, oDiv_i, oPow_i, oLt_i, oLe_i, oGt_i, oGe_i, oEqI_i, oIx_l, oIx_f, oIx_t, at1_0, at2_0, at2_1, at3_0, at3_1, at3_2, at4_0, at4_1, at4_2, at4_3, ix3_0, ix3_1, ix3_2, oMax2_i, oMin2_i, oAbs_i, oInt_b, oLen_l, oLen_f, oLen_t, oNeg_i, truU_i, truU_l, truU_b, truU_n, lstU_l, lstU_f, oAppend_u, lstF_0, tupF_0, lstF_1, tupF_1, lstF_2, tupF_2, lstF_3, tupF_3, lstF_4, tupF_4, lstF_5, tupF_5, lstF_6, tupF_6, isi_NoneType_bool, isi_NoneType_int, isi_NoneType_str, isi_NoneType_list, isi_NoneType_tuple, isi_NoneType_dict, isi_bool_bool, isi_bool_int, isi_bool_str, isi_bool_list, isi_bool_tuple, isi_bool_dict, isi_int_bool, isi_int_int, isi_int_str, isi_int_list, isi_int_tuple, isi_int_dict, isi_str_bool, isi_str_int, isi_str_str, isi_str_list, isi_str_tuple, isi_str_dict, isi_list_bool, isi_list_int, isi_list_str, isi_list_list, isi_list_tuple, isi_list_dict, isi_tuple_bool, isi_tuple_int, isi_tuple_str, isi_tuple_list, isi_tuple_tuple, isi_tuple_dict, isi_dict_bool, isi_dict_int, isi_dict_str, isi_dict_list, isi_dict_tuple, isi_dict_dict, tyU_n, tyU_b, tyU_i, tyU_s, tyU_l, tyU_t, rngOk_i, zipU_map, intsU_map, blsU_map, oAll_l, oSum_l, cutU_1, cutU_m1, drop_map, reverse_map, length_map', dropLast_map, oEq_i, oNe_i, oEq_b, oNe_b, oEq_nn, oNe_nn, oEq_tt, oNe_tt, oEq_tn, oNe_tn, oEq_nt, oNe_nt, oEq_pp, oNe_pp, oEq_ii, oNe_ii, List.zip_cons_cons, List.zip_nil_left, mCallF_m, oMul_s, oPowX_i, mMakeS_m, mMakeL_m, mFld_m, mProp_m, mnSeq_m, mnS_m, mnF_m, at0_e, allX_const, seqU_l, seqU_f, seqU_t, pm_nil, pm_cons, List.mem_singleton, and_self, scV_b, scV_i, scV_s, scV_n, Option.isSome_some, tyU_d, mgTup_2, mgTup_3, mgTup_4, or_false, false_or, or_self, or_true, true_or, Nat.reduceBEq, bindEA_ok, bindEA_ex, unown, kills, cellAt, List.map_cons, List.map_nil, List.length_cons, List.length_nil, List.cons_append, List.nil_append, List.replicate, List.getElem?_cons_succ, List.getElem?_cons_zero, List.set_cons_zero, List.set_cons_succ, Option.map_some, Option.map_none, Option.bind_some, Option.bind_none, Nat.reduceAdd, Nat.reduceSub, Nat.reduceLeDiff, Int.reduceLT, Int.reduceLE, Int.reduceNeg, Int.reduceToNat, Int.reducePow, decide_eq_true_eq, reduceIte, eq_self, ite_true, ite_false, Bool.false_eq_true, reduceCtorEq, resolve, celJ, nCel, Slot.isC, List.filter, putJ, callM, callMF, List.append_eq, Nat.reduceLT, Int.reduceMul, Int.reduceAdd, Int.reduceSub, ne_eq, not_true_eq_false, not_false_eq_true, Bool.not_false, Bool.not_true, decide_true, decide_false, frF, Int.cast_ofNat_Int, Bool.and_true, Bool.true_and, Bool.false_and, Bool.and_false, Bool.or_false, Bool.false_or, Bool.true_or, Bool.or_true, G__law_all_rows_0, T__law_all_rows_1, E__law_all_rows_2, G__law_all_rows_3, G__law_all_rows_5, G__law_runs_0, G_is_run_0, T_is_run_1, E_is_run_2, G_are_runs_0, T_are_runs_1, E_are_runs_2, G_are_runs_3, T_are_runs_4, E_are_runs_5, G_Plain_signs_0, T_Plain_signs_1, E_Plain_signs_2, G_Next_signs_0, G_Single_signs_0, G_Block_signs_0, G_Later_signs_0, G_signs_of_0, T_signs_of_1, E_signs_of_2, G_value_of_0, T_value_of_1, E_value_of_2, G_are_values_0, T_are_values_1, E_are_values_2, G_are_values_3, T_are_values_4, E_are_values_5, G_count_agreeing_0, T_count_agreeing_1, E_count_agreeing_2, E_count_agreeing_3, G_count_agreeing_4, G_count_agreeing_6, G_count_agreeing_8, G__law_right_0, T__law_right_1, E__law_right_2, G__law_right_3, T__law_right_4, E__law_right_5, G__law_right_6, T__law_right_7, E__law_right_8, G__law_right_9, T__law_right_10, E__law_right_11, G__law_right_12, G__law_right_14, T__law_right_15, E__law_right_16, G__law_right_17, G__law_values_0, T__law_values_1, E__law_values_2, G_law_0, oList_l, oLen_l, snl_n, Option.getD_none, Option.getD_some, mMkV_m, msOF_m, mMkO_m, mfG_e, finG_nx, finG_val, finG_ex, retG_nil, retG_cons, nodup_0, nodup_1, unownG, Slot.withFlag, Slot.lent, Slot.kd, valsOf]; try rfl))
def evS (vs : List Int) (ls : List (List Int)) : List (List Int) := ls.flatMap fun l => vs.map fun s => l ++ [s]
def evN (vs : List Int) : Nat → List (List Int)
  | 0 => [[]]
  | n + 1 => evS vs (evN vs n)
theorem evN_mem (vs : List Int) : ∀ (n : Nat) (l : List Int), l ∈ evN vs n ↔ l.length = n ∧ ∀ x ∈ l, x ∈ vs
  | 0, l => by
    show l ∈ [[]] ↔ _
    rw [List.mem_singleton]
    constructor
    · intro e; rw [e]; exact ⟨rfl, by simp⟩
    · intro e; exact List.eq_nil_of_length_eq_zero e.1
  | n + 1, l => by
    show l ∈ (evN vs n).flatMap _ ↔ _
    rw [List.mem_flatMap]
    constructor
    · rintro ⟨a, ha, hl⟩
      obtain ⟨s, hs, e⟩ := List.mem_map.mp hl
      obtain ⟨a1, a2⟩ := (evN_mem vs n a).mp ha
      rw [← e]
      refine ⟨by rw [List.length_append, List.length_singleton, a1], fun x hx => ?_⟩
      rcases List.mem_append.mp hx with z | z
      · exact a2 x z
      · rw [List.mem_singleton.mp z]; exact hs
    · rintro ⟨h1, h2⟩
      have hne : l ≠ [] := fun z => by rw [z] at h1; cases h1
      have e := List.dropLast_concat_getLast hne
      refine ⟨l.dropLast, (evN_mem vs n _).mpr ⟨by rw [List.length_dropLast, h1]; rfl, fun x hx => h2 x (List.dropLast_subset l hx)⟩, List.mem_map.mpr ⟨l.getLast hne, h2 _ (List.getLast_mem hne), e⟩⟩
theorem evS_len (vs : List Int) (ls : List (List Int)) : (evS vs ls).length = ls.length * vs.length := by
  unfold evS
  induction ls with
  | nil => simp
  | cons l r ih => rw [List.flatMap_cons, List.length_append, ih, List.length_map, List.length_cons, Nat.succ_mul]; omega
theorem ev_lc (MU FU : U) (n t : Int) (X : List U) (vs : List Int) (hM : MU = .lst (vs.map U.int)) (l : List Int) (h1 : vs.length ≤ 6) (h2 : l.length ≤ 1000) :
    lcM (G__law_all_rows_0 K).m (T__law_all_rows_1 K).m (E__law_all_rows_2 K).m [6] (vs.map U.int) [] [.val MU, .val (.int n), .val FU, .val (.int t), .cel true X, .val (llU l), .non] = some (.ok (vs.map fun s => llU (l ++ [s])) [.val MU, .val (.int n), .val FU, .val (.int t), .cel true X, .val (llU l), .non]) := by
  refine lcM_all U.int (fun s => llU (l ++ [s])) vs (by omega) fun s _ => ?_
  have h3 : (l.map U.int).length ≤ 16777215 := by rw [List.length_map]; omega
  have e : llU (l ++ [s]) = .lst (l.map U.int ++ [U.int s]) := by show U.lst _ = _; rw [List.map_append]; rfl
  rw [e]
  clear h1 h2 e hM
  unfold llU
  generalize l.map U.int = lu at *
  exact ⟨_, _, _, (by ac_rfl), (by ac_rfl), (by ac_rfl), rfl⟩
theorem ev_step (MU FU : U) (n t : Int) (X : List U) (vs : List Int) (hM : MU = .lst (vs.map U.int)) (l : List Int) (h1 : vs.length ≤ 6) (h2 : l.length ≤ 1000) (h3 : X.length < 100000) :
    (B__law_all_rows_4 K).m [.val MU, .val (.int n), .val FU, .val (.int t), .cel true X, .val (llU l), .non] = some (.nx [.val MU, .val (.int n), .val FU, .val (.int t), .cel true (X ++ (vs.map fun s => l ++ [s]).map llU), .val (llU l), .non]) := by
  have lc := ev_lc (K := K) MU FU n t X vs hM l h1 h2
  have e1 : (vs.map fun s => llU (l ++ [s])) = (vs.map fun s => l ++ [s]).map llU := by rw [List.map_map]; rfl
  rw [e1] at lc
  have ex : (oExtend (K := K)).f X [.lst ((vs.map fun s => l ++ [s]).map llU)] = some (.non, X ++ (vs.map fun s => l ++ [s]).map llU) := if_pos (by rw [List.length_map, List.length_map]; omega)
  subst hM
  clear e1 h1 h2 h3
  generalize (vs.map fun s => l ++ [s]).map llU = Y at *
  generalize vs.map U.int = V at *
  generalize llU l = lu at *
  unfold B__law_all_rows_4
  trivial
theorem ev_loop (MU FU : U) (n t : Int) (vs : List Int) (hM : MU = .lst (vs.map U.int)) (h1 : vs.length ≤ 6) : ∀ (ls X : List (List Int)), (∀ l ∈ ls, l.length ≤ 1000) → X.length + 6 * ls.length < 90000 →
    loopM (G__law_all_rows_3 K).m (B__law_all_rows_4 K).m [5, 6] (ls.map llU) [.val MU, .val (.int n), .val FU, .val (.int t), .cel true (X.map llU), .non, .non] = some (.nx [.val MU, .val (.int n), .val FU, .val (.int t), .cel true ((X ++ evS vs ls).map llU), .non, .non])
  | [], X, _, _ => by rw [show evS vs [] = [] from rfl, List.append_nil]; rfl
  | l :: ls, X, hl, hX => by
    rw [List.length_cons] at hX
    have st := ev_step (K := K) MU FU n t (X.map llU) vs hM l h1 (hl l List.mem_cons_self) (by rw [List.length_map]; omega)
    rw [← List.map_append] at st
    have ih := ev_loop MU FU n t vs hM h1 ls (X ++ vs.map fun s => l ++ [s]) (fun x hx => hl x (List.mem_cons_of_mem _ hx)) (by rw [List.length_append, List.length_map]; omega)
    rw [List.append_assoc] at ih
    rw [List.map_cons]
    unfold loopM
    rw [show (G__law_all_rows_3 K).m (llU l) [.val MU, .val (.int n), .val FU, .val (.int t), .cel true (X.map llU), .non, .non] = some [.val MU, .val (.int n), .val FU, .val (.int t), .cel true (X.map llU), .val (llU l), .non] from rfl]
    dsimp only
    rw [st]
    exact ih
theorem ev_turn (MU : U) (n t : Int) (vs : List Int) (hM : MU = .lst (vs.map U.int)) (h1 : vs.length ≤ 6) (ls : List (List Int)) (hl : ∀ l ∈ ls, l.length ≤ 1000) (hX : ls.length ≤ 10000) :
    (B__law_all_rows_6 K).m [.val MU, .val (.int n), .val (.lst (ls.map llU)), .val (.int t), .non, .non, .non] = some (.nx [.val MU, .val (.int n), .val (.lst ((evS vs ls).map llU)), .val (.int t), .val (.lst ((evS vs ls).map llU)), .non, .non]) := by
  have e := ev_loop (K := K) MU (.lst (ls.map llU)) n t vs hM h1 ls [] hl (by rw [List.length_nil]; omega)
  rw [List.nil_append, show [].map llU = [] from rfl] at e
  clear hl hX hM h1
  generalize (evS vs ls).map llU = R at *
  generalize ls.map llU = L at *
  unfold B__law_all_rows_6
  trivial
theorem ev_outer (MU : U) (n : Int) (vs : List Int) (hM : MU = .lst (vs.map U.int)) (h1 : vs.length ≤ 6) : ∀ (us : List U) (j : Nat), (∀ u ∈ us, ∃ i : Int, u = .int i) → j + us.length ≤ 6 → (∀ m, m < j + us.length → (evN vs m).length ≤ 10000) →
    loopM (G__law_all_rows_5 K).m (B__law_all_rows_6 K).m [3, 4, 5, 6] us [.val MU, .val (.int n), .val (.lst ((evN vs j).map llU)), .non, .non, .non, .non] = some (.nx [.val MU, .val (.int n), .val (.lst ((evN vs (j + us.length)).map llU)), .non, .non, .non, .non])
  | [], j, _, _, _ => rfl
  | u :: us, j, hu, hj, hb => by
    obtain ⟨i, rfl⟩ := hu u List.mem_cons_self
    rw [List.length_cons] at hj
    have hlen := hb j (by rw [List.length_cons]; omega)
    have st := ev_turn (K := K) MU n i vs hM h1 (evN vs j) (fun l hl => by have := ((evN_mem vs j l).mp hl).1; omega) (by omega)
    have ih := ev_outer MU n vs hM h1 us (j + 1) (fun v hv => hu v (List.mem_cons_of_mem _ hv)) (by omega) (fun m hm => hb m (by rw [List.length_cons]; omega))
    rw [List.length_cons, show j + (us.length + 1) = j + 1 + us.length from by omega]
    unfold loopM
    rw [show (G__law_all_rows_5 K).m (.int i) [.val MU, .val (.int n), .val (.lst ((evN vs j).map llU)), .non, .non, .non, .non] = some [.val MU, .val (.int n), .val (.lst ((evN vs j).map llU)), .val (.int i), .non, .non, .non] from rfl]
    dsimp only
    rw [st]
    exact ih
theorem rows_k (vs : List Int) (h1 : vs.length ≤ 6) (n : Nat) (hn : n ≤ 6) (hb : ∀ m, m < n → (evN vs m).length ≤ 10000) : mf__law_all_rows K [.val (.lst (vs.map U.int)), .val (.int n)] = some (.val (.lst ((evN vs n).map llU)) none) := by
  have e := ev_outer (K := K) (.lst (vs.map U.int)) (n : Int) vs rfl h1 (rangeU 0 n) 0 (fun u hu => by
    rw [rangeU_map] at hu
    obtain ⟨i, _, e⟩ := List.mem_map.mp hu
    exact ⟨_, e.symm⟩) (by rw [rangeU_map, List.length_map, List.length_range]; omega) (fun m hm => hb m (by rw [rangeU_map, List.length_map, List.length_range] at hm; omega))
  have hr : rngOk 0 (n : Int) = true := rngOk_i 0 n (by omega) (by omega) (by omega) (by omega)
  rw [show (rangeU 0 n).length = n from by rw [rangeU_map, List.length_map, List.length_range], Nat.zero_add, show (evN vs 0).map llU = [U.lst []] from rfl] at e
  have en : ((n : Int)).toNat = n := Int.toNat_natCast n
  clear hn h1 hb
  generalize (evN vs n).map llU = R at *
  generalize vs.map U.int = V at *
  unfold mf__law_all_rows M__law_all_rows
  trivial
end Sg
set_option Elab.async false
set_option linter.all false
set_option maxRecDepth 100000
set_option maxHeartbeats 1000000
namespace Sg
open PySem L2
variable {K : PySem.W.Frag}
def bad (l : List Int) : Bool := (l.zip (l.drop 1)).any fun p => decide (p.1 < 0) && decide (p.2 < 0)
theorem bad_cons (x y : Int) (l : List Int) : bad (x :: y :: l) = (decide (x < 0) && decide (y < 0) || bad (y :: l)) := rfl
theorem rd_cons (k : Kd) (s : Int) (r : List Int) : rd k (s :: r) = (if lessB k s r = true then 0 - s else s) :: rd k r := rfl
def stT : List Int → T4
  | [] => (0, false, false, 0)
  | [s] => (s, false, false, s)
  | s :: t :: r => wth (stT (t :: r)) s
structure StI (s : Int) (r : List Int) (x : T4) : Prop where
  hd : x.1 = s
  nx : x.2.1 = lessB .next s r
  bk : x.2.2.1 = lessB .block s r
  mx : (∀ y ∈ s :: r, y ≤ x.2.2.2) ∧ x.2.2.2 ∈ s :: r
theorem minus_less {k : Kd} {s t : Int} {r : List Int} {x : T4} (h : StI t r x) : minus k x s = lessB k s (t :: r) := by
  obtain ⟨h1, h2, h3, h4, h5⟩ := h
  cases k with
  | plain => rfl
  | single => show decide (s < x.1) = decide (s < t); rw [h1]
  | next => show decide (s < x.1) = decide (s < t); rw [h1]
  | block =>
    show (decide (s < x.1) || (decide (s = x.1) && x.2.2.1)) = hdB s ((t :: r).filter fun y => !decide (y = s))
    rw [h1, h3]
    by_cases c : t = s
    · subst c
      rw [List.filter_cons_of_neg (by rw [decide_eq_true rfl]; decide), decide_eq_false (Int.lt_irrefl t), decide_eq_true rfl]
      rfl
    · rw [List.filter_cons_of_pos (by rw [decide_eq_false c]; rfl), decide_eq_false (show ¬ s = t from fun e => c e.symm)]
      show (decide (s < t) || false) = decide (s < t)
      rw [Bool.or_false]
  | later =>
    show decide (s < x.2.2.2) = (t :: r).any fun y => decide (s < y)
    by_cases c : s < x.2.2.2
    · rw [decide_eq_true c]
      exact (List.any_eq_true.mpr ⟨x.2.2.2, h5, decide_eq_true c⟩).symm
    · rw [decide_eq_false c]
      exact (List.any_eq_false.mpr fun y hy => by have := h4 y hy; simp; omega).symm
theorem stT_ok : ∀ (r : List Int) (s : Int), StI s r (stT (s :: r))
  | [], s => ⟨rfl, rfl, rfl, fun y hy => by rw [List.mem_singleton.mp hy]; exact Int.le_refl s, List.mem_cons_self⟩
  | t :: r, s => by
    have h := stT_ok r t
    refine ⟨rfl, ?_, (show minus .block (stT (t :: r)) s = _ from minus_less h), ?_, ?_⟩
    · show decide (s < (stT (t :: r)).1) = decide (s < t)
      rw [h.hd]
    · intro y hy
      show y ≤ if (stT (t :: r)).2.2.2 > s then (stT (t :: r)).2.2.2 else s
      rcases List.mem_cons.mp hy with z | z
      · split <;> omega
      · have := h.mx.1 y z; split <;> omega
    · show (if (stT (t :: r)).2.2.2 > s then (stT (t :: r)).2.2.2 else s) ∈ s :: t :: r
      split
      · exact List.mem_cons_of_mem _ h.mx.2
      · exact List.mem_cons_self
def okW (a b : Kd) : List Int → Bool
  | [] => true
  | [_] => true
  | s :: t :: r => okW a b (t :: r) && fits a b (stT (t :: r)) s
theorem okW_iff {a b : Kd} : ∀ l : List Int, (∀ x ∈ l, 1 ≤ x) → (okW a b l = true ↔ (a = .single ∨ b = .single → bad (rd .single l) = false) ∧ rd a l = rd b l)
  | [], _ => ⟨fun _ => ⟨fun _ => rfl, rfl⟩, fun _ => rfl⟩
  | [s], _ => by
    have e : ∀ k, rd k [s] = [s] := fun k => by
      have : lessB k s [] = false := by cases k <;> rfl
      rw [rd_cons, this, if_neg (by decide)]; rfl
    refine ⟨fun _ => ⟨fun _ => ?_, ?_⟩, fun _ => rfl⟩
    · rw [e]; rfl
    · rw [e, e]
  | s :: t :: r, h => by
    have ih := okW_iff (a := a) (b := b) (t :: r) fun x hx => h x (List.mem_cons_of_mem _ hx)
    have st := stT_ok r t
    have hs := h s List.mem_cons_self
    have ht := h t (List.mem_cons_of_mem _ List.mem_cons_self)
    have hbad : bad (rd .single (s :: t :: r)) = ((decide (s < t) && lessB .single t r) || bad (rd .single (t :: r))) := by
      rw [rd_cons .single s, rd_cons .single t, bad_cons]
      congr 1
      have e : lessB .single s (t :: r) = decide (s < t) := rfl
      rw [e]
      by_cases c : s < t
      · rw [if_pos (decide_eq_true c), decide_eq_true c, decide_eq_true (show 0 - s < 0 by omega)]
        cases lessB .single t r
        · rw [if_neg (by decide), decide_eq_false (show ¬ t < 0 by omega)]
        · rw [if_pos rfl, decide_eq_true (show 0 - t < 0 by omega)]
      · rw [if_neg (by rw [decide_eq_false c]; decide), decide_eq_false c, decide_eq_false (show ¬ s < 0 by omega)]
        rfl
    have hf : fits a b (stT (t :: r)) s = (!(decide (a = .single ∨ b = .single) && (lessB .single t r && decide (s < t))) && decide (lessB a s (t :: r) = lessB b s (t :: r))) := by
      unfold fits
      rw [minus_less st, minus_less st, st.nx, st.hd]
      rfl
    show (okW a b (t :: r) && fits a b (stT (t :: r)) s) = true ↔ _
    rw [Bool.and_eq_true, ih, hf, Bool.and_eq_true, hbad, rd_cons a s, rd_cons b s]
    have hel : ∀ p q : Bool, (if p = true then 0 - s else s) = (if q = true then 0 - s else s) ↔ p = q := fun p q => by
      cases p <;> cases q <;> simp <;> omega
    constructor
    · rintro ⟨⟨h1, h2⟩, h3, h4⟩
      have h4 := of_decide_eq_true h4
      refine ⟨fun c => ?_, ?_⟩
      · rw [h1 c, Bool.or_false]
        rw [decide_eq_true c, Bool.true_and] at h3
        cases x : lessB .single t r
        · rw [Bool.and_false]
        · cases y : decide (s < t)
          · rfl
          · rw [x, y] at h3; cases h3
      · rw [h2, (hel _ _).mpr h4]
    · rintro ⟨h1, h2⟩
      injection h2 with e1 e2
      refine ⟨⟨fun c => ?_, e2⟩, ?_, decide_eq_true ((hel _ _).mp e1)⟩
      · exact ((Bool.or_eq_false_iff).mp (h1 c)).2
      · cases x : decide (a = .single ∨ b = .single)
        · rfl
        · have := ((Bool.or_eq_false_iff).mp (h1 (of_decide_eq_true x))).1
          rw [Bool.and_comm] at this
          rw [this]; rfl
def rank : Kd → Nat
  | .plain => 0 | .single => 1 | .next => 1 | .block => 2 | .later => 3
theorem less_up {a b : Kd} (h : rank a ≤ rank b) {s : Int} {r : List Int} (l : lessB a s r = true) : lessB b s r = true := by
  have later : lessB .later s r = true := by
    obtain ⟨_, x, hx, lt⟩ := less_mem l
    exact List.any_eq_true.mpr ⟨x, hx, decide_eq_true lt⟩
  have block : hdB s r = true → lessB .block s r = true := fun q => by
    cases r with
    | nil => cases q
    | cons x r =>
      have q : s < x := of_decide_eq_true q
      show hdB s ((x :: r).filter fun y => !decide (y = s)) = true
      rw [List.filter_cons_of_pos (by rw [decide_eq_false (show ¬ x = s by omega)]; rfl)]
      exact decide_eq_true q
  cases a with
  | plain => cases l
  | single =>
    cases b with
    | plain => exact absurd h (by decide)
    | single => exact l
    | next => exact l
    | block => exact block l
    | later => exact later
  | next =>
    cases b with
    | plain => exact absurd h (by decide)
    | single => exact l
    | next => exact l
    | block => exact block l
    | later => exact later
  | block =>
    cases b with
    | plain => exact absurd h (by decide)
    | single => exact absurd h (by decide)
    | next => exact absurd h (by decide)
    | block => exact l
    | later => exact later
  | later =>
    cases b with
    | plain => exact absurd h (by decide)
    | single => exact absurd h (by decide)
    | next => exact absurd h (by decide)
    | block => exact absurd h (by decide)
    | later => exact l
theorem rd_nest {a b : Kd} (h : rank a ≤ rank b) : ∀ l : List Int, (∀ x ∈ l, 1 ≤ x) → (rd b l).sum ≤ (rd a l).sum ∧ ((rd b l).sum = (rd a l).sum → rd b l = rd a l)
  | [], _ => ⟨Int.le_refl _, fun _ => rfl⟩
  | s :: r, hl => by
    obtain ⟨i1, i2⟩ := rd_nest h r fun x hx => hl x (List.mem_cons_of_mem _ hx)
    have hs := hl s List.mem_cons_self
    have up := less_up h (s := s) (r := r)
    rw [rd_cons, rd_cons, List.sum_cons, List.sum_cons]
    cases p : lessB a s r
    · cases q : lessB b s r
      · rw [if_neg (by decide)]
        exact ⟨by omega, fun e => by rw [i2 (by omega)]⟩
      · rw [if_pos rfl, if_neg (by decide)]
        exact ⟨by omega, fun e => by omega⟩
    · rw [up p, if_pos rfl]
      exact ⟨by omega, fun e => by rw [i2 (by omega)]⟩
theorem rd_sums (a b : Kd) {l : List Int} (h : ∀ x ∈ l, 1 ≤ x) : rd a l = rd b l ↔ (rd a l).sum = (rd b l).sum := by
  constructor
  · intro e; rw [e]
  · intro e
    rcases Nat.le_total (rank a) (rank b) with c | c
    · exact ((rd_nest c l h).2 e.symm).symm
    · exact (rd_nest c l h).2 e
def iv (b : Bool) : Int := if b = true then 1 else 0
def W (f : T4 → Int) (D : List (T4 × Int)) : Int := (D.map fun p => p.2 * f p.1).sum
theorem W_app (f : T4 → Int) (A B : List (T4 × Int)) : W f (A ++ B) = W f A + W f B := by unfold W; rw [List.map_append, List.sum_append]
theorem W_cons (f : T4 → Int) (p : T4 × Int) (B : List (T4 × Int)) : W f (p :: B) = p.2 * f p.1 + W f B := by unfold W; rw [List.map_cons, List.sum_cons]
theorem map_id' {x : T4} {m : Int} : ∀ {D : List (T4 × Int)}, (∀ p ∈ D, p.1 ≠ x) → D.map (fun p => if p.1 = x then (p.1, m) else p) = D
  | [], _ => rfl
  | p :: D, h => by
    rw [List.map_cons, if_neg (h p List.mem_cons_self), map_id' fun q hq => h q (List.mem_cons_of_mem _ hq)]
theorem addC_W (f : T4 → Int) (x : T4) (m : Int) : ∀ {D : List (T4 × Int)}, (D.map (·.1)).Nodup → W f (addC D x m) = W f D + m * f x := by
  intro D hn
  unfold addC putC
  split
  · rename_i hany
    have key : ∀ {D : List (T4 × Int)}, (D.map (·.1)).Nodup → (D.any fun p => decide (p.1 = x)) = true → W f (D.map (fun p => if p.1 = x then (p.1, (getC D x).getD 0 + m) else p)) = W f D + m * f x := by
      intro D
      induction D with
      | nil => intro _ h; cases h
      | cons p D ih =>
        intro hn hany
        obtain ⟨n1, n2⟩ := List.nodup_cons.mp (by rw [List.map_cons] at hn; exact hn)
        by_cases c : p.1 = x
        · have no : ∀ q ∈ D, q.1 ≠ x := fun q hq e => n1 (by rw [c, ← e]; exact List.mem_map.mpr ⟨q, hq, rfl⟩)
          have eg : getC (p :: D) x = some p.2 := by show (if p.1 = x then some p.2 else _) = _; rw [if_pos c]
          rw [eg, List.map_cons, if_pos c, map_id' no, W_cons, W_cons]
          show (p.2 + m) * f p.1 + W f D = _
          rw [c, Int.add_mul]; omega
        · have eg : getC (p :: D) x = getC D x := by show (if p.1 = x then some p.2 else getC D x) = _; rw [if_neg c]
          have ha : (D.any fun p => decide (p.1 = x)) = true := by
            rw [List.any_cons, decide_eq_false c, Bool.false_or] at hany
            exact hany
          rw [eg, List.map_cons, if_neg c, W_cons, W_cons, ih n2 ha]
          omega
    exact key hn hany
  · rename_i hany
    have no : ∀ D : List (T4 × Int), ¬ (D.any fun p => decide (p.1 = x)) = true → getC D x = none := by
      intro D
      induction D with
      | nil => intro _; rfl
      | cons p D ih =>
        intro h
        rw [List.any_cons, Bool.or_eq_true] at h
        have c : ¬ p.1 = x := fun e => h (.inl (decide_eq_true e))
        show (if p.1 = x then some p.2 else getC D x) = none
        rw [if_neg c]
        exact ih fun z => h (.inr z)
    rw [no D hany, W_app, W_cons]
    show W f D + ((0 + m) * f x + 0) = _
    rw [Int.zero_add]; omega
theorem putC_nd {D : List (T4 × Int)} (h : (D.map (·.1)).Nodup) (x : T4) (m : Int) : ((putC D x m).map (·.1)).Nodup := by
  unfold putC
  split
  · rw [List.map_map]
    have : ((fun p : T4 × Int => p.1) ∘ fun p => if p.1 = x then (p.1, m) else p) = fun p => p.1 := by
      funext p
      show (if p.1 = x then (p.1, m) else p).1 = p.1
      split <;> rfl
    rw [this]; exact h
  · rename_i hn
    rw [List.map_append]
    refine List.nodup_append.mpr ⟨h, by simp, fun a ha b hb e => hn ?_⟩
    obtain ⟨p, hp, rfl⟩ := List.mem_map.mp ha
    have hb : b = x := by simpa using hb
    exact List.any_eq_true.mpr ⟨p, hp, decide_eq_true (by rw [← hb]; exact e)⟩
theorem stsC_W (f : T4 → Int) (a b : Kd) (x : T4) (m : Int) : ∀ (l : List Int) (D : List (T4 × Int)), (D.map (·.1)).Nodup → ((l.foldl (stC a b x m) D).map (·.1)).Nodup ∧ W f (l.foldl (stC a b x m) D) = W f D + m * (l.map fun s => iv (fits a b x s) * f (wth x s)).sum
  | [], D, h => ⟨h, by show W f D = W f D + m * 0; rw [Int.mul_zero, Int.add_zero]⟩
  | s :: l, D, h => by
    have hd : ((stC a b x m D s).map (·.1)).Nodup := by
      unfold stC; split
      · exact putC_nd h _ _
      · exact h
    have hw : W f (stC a b x m D s) = W f D + m * (iv (fits a b x s) * f (wth x s)) := by
      unfold stC iv; split
      · rw [addC_W f _ _ h, Int.one_mul]
      · rw [Int.zero_mul, Int.mul_zero, Int.add_zero]
    obtain ⟨i1, i2⟩ := stsC_W f a b x m l _ hd
    refine ⟨i1, ?_⟩
    rw [List.foldl_cons, i2, hw, List.map_cons, List.sum_cons, Int.mul_add]
    omega
theorem nextC_W (f : T4 → Int) (a b : Kd) (vs : List Int) : ∀ (F D : List (T4 × Int)), (D.map (·.1)).Nodup → ((F.foldl (stsC a b vs) D).map (·.1)).Nodup ∧ W f (F.foldl (stsC a b vs) D) = W f D + W (fun x => (vs.map fun s => iv (fits a b x s) * f (wth x s)).sum) F
  | [], D, h => ⟨h, by show W f D = W f D + 0; omega⟩
  | p :: F, D, h => by
    obtain ⟨h1, h2⟩ := stsC_W f a b p.1 p.2 vs D h
    obtain ⟨i1, i2⟩ := nextC_W f a b vs F _ h1
    refine ⟨i1, ?_⟩
    rw [List.foldl_cons]
    refine i2.trans ?_
    rw [h2, W_cons]; omega
def Sm (vs : List Int) : Nat → (List Int → Int) → Int
  | 0, f => f []
  | n + 1, f => (vs.map fun s => Sm vs n fun l => f (s :: l)).sum
theorem sum_congr {α : Type} {l : List α} {f g : α → Int} (h : ∀ x ∈ l, f x = g x) : (l.map f).sum = (l.map g).sum := by rw [List.map_congr_left h]
theorem Sm_congr (vs : List Int) : ∀ (n : Nat) (f g : List Int → Int), (∀ l, l.length = n → (∀ x ∈ l, x ∈ vs) → f l = g l) → Sm vs n f = Sm vs n g
  | 0, f, g, h => h [] rfl (fun x hx => by cases hx)
  | n + 1, f, g, h => sum_congr fun s hs => Sm_congr vs n _ _ fun l hl hm => h (s :: l) (by rw [List.length_cons, hl]) fun x hx => by
      rcases List.mem_cons.mp hx with z | z
      · rw [z]; exact hs
      · exact hm x z
theorem sum_add {α : Type} (f g : α → Int) : ∀ l : List α, (l.map fun x => f x + g x).sum = (l.map f).sum + (l.map g).sum
  | [] => rfl
  | x :: l => by rw [List.map_cons, List.sum_cons, List.map_cons, List.sum_cons, List.map_cons, List.sum_cons, sum_add f g l]; omega
theorem Sm_add (vs : List Int) : ∀ (n : Nat) (f g : List Int → Int), Sm vs n (fun l => f l + g l) = Sm vs n f + Sm vs n g
  | 0, f, g => rfl
  | n + 1, f, g => by
    show (vs.map fun s => Sm vs n fun l => f (s :: l) + g (s :: l)).sum = _
    rw [sum_congr (fun s _ => Sm_add vs n (fun l => f (s :: l)) fun l => g (s :: l)), sum_add]
    rfl
theorem Sm_zero (vs : List Int) : ∀ n : Nat, Sm vs n (fun _ => 0) = 0
  | 0 => rfl
  | n + 1 => by
    show (vs.map fun _ => Sm vs n fun _ => 0).sum = 0
    rw [sum_congr (fun _ _ => Sm_zero vs n)]
    induction vs with
    | nil => rfl
    | cons v vs ih =>
      rw [List.map_cons, List.sum_cons, Int.zero_add]
      clear ih
      induction vs with
      | nil => rfl
      | cons w ws ih => rw [List.map_cons, List.sum_cons, ih]; rfl
theorem Sm_sum (vs : List Int) (n : Nat) (f : Int → List Int → Int) : ∀ us : List Int, Sm vs n (fun l => (us.map fun s => f s l).sum) = (us.map fun s => Sm vs n (f s)).sum
  | [] => Sm_zero vs n
  | u :: us => by
    rw [List.map_cons, List.sum_cons, ← Sm_sum vs n f us, ← Sm_add]
    exact Sm_congr vs n _ _ fun l _ _ => by rw [List.map_cons, List.sum_cons]
theorem Sm_snoc (vs : List Int) : ∀ (n : Nat) (f : List Int → Int), Sm vs (n + 1) f = Sm vs n fun l => (vs.map fun s => f (l ++ [s])).sum
  | 0, f => rfl
  | n + 1, f => sum_congr fun t _ => Sm_snoc vs n fun l => f (t :: l)
theorem evN_sum (vs : List Int) : ∀ (n : Nat) (f : List Int → Int), ((evN vs n).map f).sum = Sm vs n f
  | 0, f => by show f [] + 0 = f []; omega
  | n + 1, f => by
    rw [Sm_snoc, ← evN_sum vs n]
    show ((evS vs (evN vs n)).map f).sum = _
    unfold evS
    generalize evN vs n = E
    induction E with
    | nil => rfl
    | cons l E ih =>
      rw [List.flatMap_cons, List.map_append, List.sum_append, ih, List.map_cons, List.sum_cons, List.map_map]
      rfl
theorem D1C_W (f : T4 → Int) : ∀ (vs : List Int) (D : List (T4 × Int)), (D.map (·.1)).Nodup → (∀ v ∈ vs, ∀ p ∈ D, p.1 ≠ (v, false, false, v)) → vs.Nodup → ((vs.foldl (fun D v => putC D (v, false, false, v) 1) D).map (·.1)).Nodup ∧ W f (vs.foldl (fun D v => putC D (v, false, false, v) 1) D) = W f D + (vs.map fun v => f (v, false, false, v)).sum
  | [], D, h, _, _ => ⟨h, by show W f D = W f D + 0; omega⟩
  | v :: vs, D, h, hne, hv => by
    obtain ⟨v1, v2⟩ := List.nodup_cons.mp hv
    have no : ¬ (D.any fun p => decide (p.1 = (v, false, false, v))) = true := fun z => by
      obtain ⟨p, hp, e⟩ := List.any_eq_true.mp z
      exact hne v List.mem_cons_self p hp (of_decide_eq_true e)
    have e : putC D (v, false, false, v) 1 = D ++ [((v, false, false, v), 1)] := by unfold putC; rw [if_neg no]
    obtain ⟨i1, i2⟩ := D1C_W f vs _ (putC_nd h (v, false, false, v) 1) (fun w hw p hp => by
      rw [e] at hp
      rcases List.mem_append.mp hp with z | z
      · exact hne w (List.mem_cons_of_mem _ hw) p z
      · have hp2 : p = ((v, false, false, v), 1) := by simpa using z
        rw [hp2]
        intro q
        have : v = w := congrArg (fun x : T4 => x.1) q
        exact v1 (by rw [this]; exact hw)) v2
    refine ⟨i1, ?_⟩
    rw [List.foldl_cons, i2, e, W_app, W_cons, List.map_cons, List.sum_cons]
    show W f D + (1 * f (v, false, false, v) + 0) + _ = _
    rw [Int.one_mul]; omega
theorem endC_W (a b : Kd) (vs : List Int) (hv : vs.Nodup) : ∀ (n : Nat), ((endC a b vs n).map (·.1)).Nodup ∧ ∀ f : T4 → Int, W f (endC a b vs n) = Sm vs (n + 1) fun l => iv (okW a b l) * f (stT l)
  | 0 => by
    have h := fun f => D1C_W f vs [] List.nodup_nil (fun v _ p hp => by cases hp) hv
    refine ⟨(h fun _ => 0).1, fun f => ?_⟩
    show W f (D1C vs) = (vs.map fun s => iv (okW a b [s]) * f (stT [s])).sum
    have e := (h f).2
    have e0 : W f [] = 0 := rfl
    rw [e0, Int.zero_add] at e
    refine e.trans (sum_congr fun s _ => ?_)
    show f (s, false, false, s) = 1 * f (s, false, false, s)
    rw [Int.one_mul]
  | n + 1 => by
    obtain ⟨i1, i2⟩ := endC_W a b vs hv n
    have h := fun f => nextC_W f a b vs (endC a b vs n) [] List.nodup_nil
    refine ⟨(h fun _ => 0).1, fun f => ?_⟩
    have e := (h f).2
    have e0 : W f [] = 0 := rfl
    rw [e0, Int.zero_add, i2] at e
    refine e.trans ?_
    show _ = (vs.map fun s => Sm vs (n + 1) fun l => iv (okW a b (s :: l)) * f (stT (s :: l))).sum
    rw [← Sm_sum vs (n + 1) (fun s l => iv (okW a b (s :: l)) * f (stT (s :: l)))]
    refine Sm_congr vs (n + 1) _ _ fun l hl _ => ?_
    match l, hl with
    | t :: r, _ =>
      have hz : iv (okW a b (t :: r)) * (vs.map fun s => iv (fits a b (stT (t :: r)) s) * f (wth (stT (t :: r)) s)).sum = (vs.map fun s => iv (okW a b (t :: r)) * (iv (fits a b (stT (t :: r)) s) * f (wth (stT (t :: r)) s))).sum := by
        generalize iv (okW a b (t :: r)) = c
        induction vs with
        | nil => exact Int.mul_zero c
        | cons v vs _ =>
          clear i1 i2 h e e0 hv
          have : ∀ ws : List Int, c * (ws.map fun s => iv (fits a b (stT (t :: r)) s) * f (wth (stT (t :: r)) s)).sum = (ws.map fun s => c * (iv (fits a b (stT (t :: r)) s) * f (wth (stT (t :: r)) s))).sum := by
            intro ws
            induction ws with
            | nil => exact Int.mul_zero c
            | cons w ws ih => rw [List.map_cons, List.sum_cons, List.map_cons, List.sum_cons, Int.mul_add, ih]
          exact this (v :: vs)
      rw [hz]
      refine sum_congr fun s _ => ?_
      show iv (okW a b (t :: r)) * (iv (fits a b (stT (t :: r)) s) * f (wth (stT (t :: r)) s)) = iv (okW a b (t :: r) && fits a b (stT (t :: r)) s) * f (wth (stT (t :: r)) s)
      cases okW a b (t :: r) <;> cases fits a b (stT (t :: r)) s <;> simp [iv]
theorem cntA_eq (a b : Kd) {vs : List Int} (hv : vs.Nodup) {n : Nat} (n1 : 1 ≤ n) : cntA a b vs n = ((evN vs n).map fun l => iv (okW a b l)).sum := by
  have h := (endC_W a b vs hv (n - 1)).2 fun _ => 1
  rw [show n - 1 + 1 = n from by omega, ← evN_sum] at h
  unfold cntA
  have e : ((endC a b vs (n - 1)).map (·.2)).sum = W (fun _ => 1) (endC a b vs (n - 1)) := by
    unfold W
    exact sum_congr fun p _ => (Int.mul_one p.2).symm
  rw [e, h]
  exact sum_congr fun l _ => Int.mul_one _
end Sg
set_option Elab.async false
set_option linter.all false
set_option maxRecDepth 100000
set_option maxHeartbeats 1000000
namespace Sg
open PySem L2
variable {K : PySem.W.Frag}
def rg (v : Int) : Nat → List Int → List (Int × Int)
  | c, [] => [(v, (c : Int))]
  | c, s :: l => if v = s then rg v (c + 1) l else (v, (c : Int)) :: rg s 1 l
def rn : List Int → List (Int × Int)
  | [] => []
  | s :: l => rg s 1 l
def mns (k : Kd) (v c : Int) (B : List Int) : Int := match k with
  | .later => c * iv (B.any fun x => decide (v < x))
  | .block => c * iv (hdB v B)
  | .plain => 0
  | _ => iv (hdB v B)
def rr (k : Kd) : List (Int × Int) → List (Int × Int × Int)
  | [] => []
  | p :: R => (p.1, p.2 - mns k p.1 p.2 (R.map (·.1)), mns k p.1 p.2 (R.map (·.1))) :: rr k R
def valR (T : List (Int × Int × Int)) : Int := (T.map fun x => x.1 * (x.2.1 - x.2.2)).sum
def badR (T : List (Int × Int × Int)) : Bool := (T.zip (T.drop 1)).any fun q => decide (q.1.2.2 = 1) && decide (q.2.2.1 = 0)
theorem valR_cons (x : Int × Int × Int) (T : List (Int × Int × Int)) : valR (x :: T) = x.1 * (x.2.1 - x.2.2) + valR T := by unfold valR; rw [List.map_cons, List.sum_cons]
theorem badR_cons (x y : Int × Int × Int) (T : List (Int × Int × Int)) : badR (x :: y :: T) = (decide (x.2.2 = 1) && decide (y.2.1 = 0) || badR (y :: T)) := rfl
theorem rg_mem : ∀ (l : List Int) (v : Int) (c : Nat) (x : Int), x ∈ (rg v c l).map (·.1) ↔ x = v ∨ x ∈ l
  | [], v, c, x => by unfold rg; simp
  | s :: l, v, c, x => by
    unfold rg
    by_cases e : v = s
    · rw [if_pos e, rg_mem l, List.mem_cons, ← e]
      constructor
      · rintro (h | h)
        · exact .inl h
        · exact .inr (.inr h)
      · rintro (h | h | h)
        · exact .inl h
        · exact .inl h
        · exact .inr h
    · rw [if_neg e, List.map_cons, List.mem_cons, rg_mem l, List.mem_cons]
theorem rg_head : ∀ (l : List Int) (v : Int) (c : Nat), ∃ d R, rg v c l = (v, d) :: R
  | [], v, c => ⟨_, [], rfl⟩
  | s :: l, v, c => by
    unfold rg
    by_cases e : v = s
    · rw [if_pos e]; exact rg_head l v (c + 1)
    · rw [if_neg e]; exact ⟨_, _, rfl⟩
theorem rg_hd (l : List Int) (s : Int) (c : Nat) (v : Int) : hdB v ((rg s c l).map (·.1)) = decide (v < s) := by
  obtain ⟨d, R, e⟩ := rg_head l s c
  rw [e]; rfl
theorem blk_rd (k : Kd) {v s : Int} (h : v ≠ s) (l : List Int) : ∀ c : Nat, 1 ≤ c → (rd k (List.replicate c v ++ s :: l)).sum = v * ((c : Int) - mns k v c ((rg s 1 l).map (·.1)) - mns k v c ((rg s 1 l).map (·.1))) + (rd k (s :: l)).sum
  | 0, h1 => absurd h1 (by omega)
  | 1, _ => by
    show (rd k (v :: s :: l)).sum = _
    rw [rd_cons, List.sum_cons]
    have key : mns k v ((1 : Nat) : Int) ((rg s 1 l).map (·.1)) = iv (lessB k v (s :: l)) := by
      cases k with
      | plain => rfl
      | single => show iv _ = iv _; rw [rg_hd]; rfl
      | next => show iv _ = iv _; rw [rg_hd]; rfl
      | block =>
        show ((1 : Nat) : Int) * iv _ = iv (hdB v ((s :: l).filter fun y => !decide (y = v)))
        rw [rg_hd, List.filter_cons_of_pos (by rw [decide_eq_false (fun e => h e.symm)]; rfl)]
        show 1 * iv _ = iv _
        rw [Int.one_mul]; rfl
      | later =>
        show ((1 : Nat) : Int) * iv _ = iv _
        have : ((rg s 1 l).map (·.1)).any (fun x => decide (v < x)) = (s :: l).any fun x => decide (v < x) := by
          rw [Bool.eq_iff_iff, List.any_eq_true, List.any_eq_true]
          constructor
          · rintro ⟨x, hx, e⟩; exact ⟨x, List.mem_cons.mpr ((rg_mem l s 1 x).mp hx), e⟩
          · rintro ⟨x, hx, e⟩; exact ⟨x, (rg_mem l s 1 x).mpr (List.mem_cons.mp hx), e⟩
        rw [this]
        show 1 * iv _ = iv _
        rw [Int.one_mul]; rfl
    rw [key]
    cases lessB k v (s :: l)
    · rw [if_neg (by decide)]; show v + _ = v * (1 - 0 - 0) + _; omega
    · rw [if_pos rfl]; show 0 - v + _ = v * (1 - 1 - 1) + _; omega
  | c + 2, _ => by
    have ih := blk_rd k h l (c + 1) (by omega)
    rw [List.replicate_succ, List.cons_append, rd_cons, List.sum_cons, ih]
    generalize hB : (rg s 1 l).map (·.1) = B
    have hhd : hdB v B = decide (v < s) := by rw [← hB]; exact rg_hd l s 1 v
    have hmem : ∀ x, x ∈ B ↔ x = s ∨ x ∈ l := fun x => by rw [← hB]; exact rg_mem l s 1 x
    have e2 : (((c + 2 : Nat) : Nat) : Int) = ((c + 1 : Nat) : Int) + 1 := by omega
    have key : mns k v ((c + 2 : Nat) : Int) B = iv (lessB k v (List.replicate (c + 1) v ++ s :: l)) + mns k v ((c + 1 : Nat) : Int) B := by
      have nl : hdB v (List.replicate (c + 1) v ++ s :: l) = false := by
        rw [List.replicate_succ, List.cons_append]
        exact decide_eq_false (Int.lt_irrefl v)
      cases k with
      | plain => rfl
      | single =>
        show iv (hdB v B) = iv (hdB v (List.replicate (c + 1) v ++ s :: l)) + iv (hdB v B)
        rw [nl]; show iv (hdB v B) = 0 + iv (hdB v B); omega
      | next =>
        show iv (hdB v B) = iv (hdB v (List.replicate (c + 1) v ++ s :: l)) + iv (hdB v B)
        rw [nl]; show iv (hdB v B) = 0 + iv (hdB v B); omega
      | block =>
        show ((c + 2 : Nat) : Int) * iv (hdB v B) = iv (hdB v ((List.replicate (c + 1) v ++ s :: l).filter fun y => !decide (y = v))) + ((c + 1 : Nat) : Int) * iv (hdB v B)
        have ef : (List.replicate (c + 1) v ++ s :: l).filter (fun y => !decide (y = v)) = (s :: l).filter fun y => !decide (y = v) := by
          rw [List.filter_append]
          have : (List.replicate (c + 1) v).filter (fun y => !decide (y = v)) = [] := List.filter_eq_nil_iff.mpr fun y hy => by
            rw [(List.mem_replicate.mp hy).2, decide_eq_true rfl]; decide
          rw [this]; rfl
        rw [ef, List.filter_cons_of_pos (by rw [decide_eq_false (fun e => h e.symm)]; rfl), hhd, e2, Int.add_mul, Int.one_mul]
        show _ + iv (decide (v < s)) = iv (decide (v < s)) + _
        omega
      | later =>
        show ((c + 2 : Nat) : Int) * iv (B.any fun x => decide (v < x)) = iv ((List.replicate (c + 1) v ++ s :: l).any fun x => decide (v < x)) + ((c + 1 : Nat) : Int) * iv (B.any fun x => decide (v < x))
        have ea : (List.replicate (c + 1) v ++ s :: l).any (fun x => decide (v < x)) = B.any fun x => decide (v < x) := by
          rw [Bool.eq_iff_iff, List.any_eq_true, List.any_eq_true]
          constructor
          · rintro ⟨x, hx, e⟩
            rcases List.mem_append.mp hx with z | z
            · rw [(List.mem_replicate.mp z).2] at e
              have := of_decide_eq_true e
              omega
            · exact ⟨x, (hmem x).mpr (List.mem_cons.mp z), e⟩
          · rintro ⟨x, hx, e⟩
            exact ⟨x, List.mem_append_right _ (List.mem_cons.mpr ((hmem x).mp hx)), e⟩
        rw [ea, e2, Int.add_mul, Int.one_mul]
        omega
    rw [key, e2]
    generalize mns k v ((c + 1 : Nat) : Int) B = m
    generalize ((c + 1 : Nat) : Int) = n
    cases lessB k v (List.replicate (c + 1) v ++ s :: l)
    · rw [if_neg (by decide)]
      show v + (v * (n - m - m) + _) = v * (n + 1 - (0 + m) - (0 + m)) + _
      rw [show n + 1 - (0 + m) - (0 + m) = (n - m - m) + 1 from by omega, Int.mul_add v (n - m - m) 1, Int.mul_one]; omega
    · rw [if_pos rfl]
      show 0 - v + (v * (n - m - m) + _) = v * (n + 1 - (1 + m) - (1 + m)) + _
      rw [show n + 1 - (1 + m) - (1 + m) = (n - m - m) - 1 from by omega, Int.mul_sub v (n - m - m) 1, Int.mul_one]; omega
theorem rep_rd (k : Kd) (v : Int) : ∀ c : Nat, (rd k (List.replicate c v)).sum = v * c
  | 0 => by show (0 : Int) = v * 0; omega
  | c + 1 => by
    rw [List.replicate_succ, rd_cons, List.sum_cons, rep_rd k v c, if_neg, Int.natCast_add, Int.mul_add]
    · show v + v * c = v * c + v * 1; omega
    · intro z
      obtain ⟨_, x, hx, lt⟩ := less_mem z
      rw [(List.mem_replicate.mp hx).2] at lt
      omega
theorem rep_mns (k : Kd) (v c : Int) : mns k v c [] = 0 := by
  cases k <;> first | rfl | (show c * 0 = 0; exact Int.mul_zero c)
theorem rg_val (k : Kd) : ∀ (l : List Int) (v : Int) (c : Nat), 1 ≤ c → valR (rr k (rg v c l)) = (rd k (List.replicate c v ++ l)).sum
  | [], v, c, _ => by
    show valR [(v, (c : Int) - mns k v c [], mns k v c [])] = _
    rw [List.append_nil, rep_rd, rep_mns]
    show v * ((c : Int) - 0 - 0) + 0 = v * c
    rw [Int.sub_zero, Int.sub_zero, Int.add_zero]
  | s :: l, v, c, h => by
    by_cases e : v = s
    · subst e
      have := rg_val k l v (c + 1) (by omega)
      rw [List.replicate_succ', List.append_assoc, List.singleton_append] at this
      unfold rg
      rw [if_pos rfl]
      exact this
    · have ih := rg_val k l s 1 (by omega)
      unfold rg
      rw [if_neg e, rr, valR_cons, ih, blk_rd k e l c h]
      rfl
theorem rn_val (k : Kd) : ∀ l : List Int, valR (rr k (rn l)) = (rd k l).sum
  | [] => rfl
  | s :: l => rg_val k l s 1 (Nat.le_refl 1)
theorem rep_bad {v : Int} (hv : 1 ≤ v) (t : List Int) (s : Int) : ∀ c : Nat, 1 ≤ c → v ≠ s → bad (rd .single (List.replicate c v ++ s :: t)) = ((decide (v < s) && lessB .single s t) || bad (rd .single (s :: t)))
  | 0, h, _ => absurd h (by omega)
  | 1, _, _ => by
    show bad (rd .single (v :: s :: t)) = _
    rw [rd_cons .single v, rd_cons .single s, bad_cons]
    congr 1
    have e : lessB .single v (s :: t) = decide (v < s) := rfl
    rw [e]
    by_cases c : v < s
    · rw [if_pos (decide_eq_true c), decide_eq_true c, decide_eq_true (show 0 - v < 0 by omega)]
      cases lessB .single s t
      · rw [if_neg (by decide), decide_eq_false (show ¬ s < 0 by omega)]
      · rw [if_pos rfl, decide_eq_true (show 0 - s < 0 by omega)]
    · rw [if_neg (by rw [decide_eq_false c]; decide), decide_eq_false c, decide_eq_false (show ¬ v < 0 by omega)]
      rfl
  | c + 2, _, h => by
    have ih := rep_bad hv t s (c + 1) (by omega) h
    rw [← ih, List.replicate_succ, List.cons_append, rd_cons]
    have nl : lessB .single v (List.replicate (c + 1) v ++ s :: t) = false := by
      rw [List.replicate_succ, List.cons_append]
      exact decide_eq_false (Int.lt_irrefl v)
    rw [nl, if_neg (by decide)]
    rw [List.replicate_succ, List.cons_append, rd_cons, bad_cons, decide_eq_false (show ¬ v < 0 by omega)]
    rfl
theorem rep_ok {v : Int} (hv : 1 ≤ v) : ∀ c : Nat, bad (rd .single (List.replicate c v)) = false
  | 0 => rfl
  | 1 => rfl
  | c + 2 => by
    have ih := rep_ok hv (c + 1)
    rw [List.replicate_succ, rd_cons]
    have nl : lessB .single v (List.replicate (c + 1) v) = false := by
      rw [List.replicate_succ]
      exact decide_eq_false (Int.lt_irrefl v)
    rw [nl, if_neg (by decide)]
    rw [List.replicate_succ, rd_cons] at ih ⊢
    rw [bad_cons, ih, decide_eq_false (show ¬ v < 0 by omega)]
    rfl
theorem rr_head : ∀ (l : List Int) (s : Int) (c : Nat), 1 ≤ c → ∃ y T, rr .single (rg s c l) = y :: T ∧ decide (y.2.1 = 0) = (decide (c = 1) && lessB .single s l)
  | [], s, c, h => ⟨_, _, rfl, by
    show decide ((c : Int) - 0 = 0) = (decide (c = 1) && false)
    rw [Bool.and_false]
    exact decide_eq_false (by omega)⟩
  | t :: l, s, c, h => by
    unfold rg
    by_cases e : s = t
    · rw [if_pos e]
      obtain ⟨y, T, e1, e2⟩ := rr_head l s (c + 1) (by omega)
      refine ⟨y, T, e1, ?_⟩
      rw [e2, decide_eq_false (show ¬ c + 1 = 1 by omega), Bool.false_and]
      have : lessB .single s (t :: l) = false := by subst e; exact decide_eq_false (Int.lt_irrefl s)
      rw [this, Bool.and_false]
    · rw [if_neg e]
      refine ⟨_, _, rfl, ?_⟩
      show decide ((c : Int) - iv (hdB s ((rg t 1 l).map (·.1))) = 0) = (decide (c = 1) && decide (s < t))
      rw [rg_hd]
      by_cases q : s < t
      · rw [decide_eq_true q, Bool.and_true]
        show decide ((c : Int) - 1 = 0) = _
        by_cases w : c = 1
        · rw [decide_eq_true w]; exact decide_eq_true (by omega)
        · rw [decide_eq_false w]; exact decide_eq_false (by omega)
      · rw [decide_eq_false q, Bool.and_false]
        show decide ((c : Int) - 0 = 0) = _
        exact decide_eq_false (by omega)
theorem rg_bad : ∀ (l : List Int) (v : Int) (c : Nat), 1 ≤ c → 1 ≤ v → (∀ x ∈ l, 1 ≤ x) → badR (rr .single (rg v c l)) = bad (rd .single (List.replicate c v ++ l))
  | [], v, c, _, hv, _ => by
    rw [List.append_nil, rep_ok hv]
    rfl
  | s :: l, v, c, h, hv, hl => by
    have hs := hl s List.mem_cons_self
    have hl2 : ∀ x ∈ l, 1 ≤ x := fun x hx => hl x (List.mem_cons_of_mem _ hx)
    by_cases e : v = s
    · subst e
      have := rg_bad l v (c + 1) (by omega) hv hl2
      rw [List.replicate_succ', List.append_assoc, List.singleton_append] at this
      unfold rg
      rw [if_pos rfl]
      exact this
    · have ih := rg_bad l s 1 (Nat.le_refl 1) hs hl2
      obtain ⟨y, T, e1, e2⟩ := rr_head l s 1 (Nat.le_refl 1)
      rw [decide_eq_true rfl, Bool.true_and] at e2
      unfold rg
      rw [if_neg e, rr]
      dsimp only
      rw [rep_bad hv l s c h e]
      rw [show (List.replicate 1 s ++ l) = s :: l from rfl, e1] at ih
      rw [e1, badR_cons, ih, e2]
      congr 2
      show decide (iv (hdB v ((rg s 1 l).map (·.1))) = 1) = decide (v < s)
      rw [rg_hd]
      cases decide (v < s) <;> rfl
theorem rn_bad : ∀ {l : List Int}, (∀ x ∈ l, 1 ≤ x) → badR (rr .single (rn l)) = bad (rd .single l)
  | [], _ => rfl
  | s :: l, h => rg_bad l s 1 (Nat.le_refl 1) (h s List.mem_cons_self) fun x hx => h x (List.mem_cons_of_mem _ hx)
theorem rg_bd : ∀ (l : List Int) (v : Int) (c : Nat), ∀ p ∈ rg v c l, 0 ≤ p.2 ∧ p.2 ≤ (c : Int) + l.length
  | [], v, c, p, h => by
    rw [List.mem_singleton.mp (show p ∈ [(v, (c : Int))] from h)]
    exact ⟨by show (0 : Int) ≤ c; omega, by show (c : Int) ≤ c + ((0 : Nat) : Int); omega⟩
  | s :: l, v, c, p, h => by
    unfold rg at h
    rw [List.length_cons]
    by_cases e : v = s
    · rw [if_pos e] at h
      have := rg_bd l v (c + 1) p h
      omega
    · rw [if_neg e] at h
      rcases List.mem_cons.mp h with z | z
      · rw [z]; exact ⟨by show (0 : Int) ≤ c; omega, by show (c : Int) ≤ _; omega⟩
      · have := rg_bd l s 1 p z
        omega
theorem rg_len : ∀ (l : List Int) (v : Int) (c : Nat), (rg v c l).length ≤ l.length + 1
  | [], v, c => Nat.le_refl 1
  | s :: l, v, c => by
    unfold rg
    rw [List.length_cons]
    by_cases e : v = s
    · rw [if_pos e]; have := rg_len l v (c + 1); omega
    · rw [if_neg e, List.length_cons]; have := rg_len l s 1; omega
theorem rn_len (l : List Int) : (rn l).length ≤ l.length := by
  cases l with
  | nil => exact Nat.le_refl 0
  | cons s l => exact rg_len l s 1
theorem rn_mem (l : List Int) {p : Int × Int} (h : p ∈ rn l) : p.1 ∈ l ∧ 0 ≤ p.2 ∧ p.2 ≤ l.length := by
  cases l with
  | nil => cases h
  | cons s l =>
    have a := (rg_mem l s 1 p.1).mp (List.mem_map.mpr ⟨p, h, rfl⟩)
    have b := rg_bd l s 1 p h
    exact ⟨List.mem_cons.mpr a, b.1, by rw [List.length_cons]; omega⟩
def vO (k : Kd) (l : List Int) : Option Int := if (decide (k = .single) && bad (rd .single l)) = true then none else some (rd k l).sum
theorem vO_okW {a b : Kd} {l : List Int} (h : ∀ x ∈ l, 1 ≤ x) : ((vO a l).isSome && decide (vO a l = vO b l)) = okW a b l := by
  rw [Bool.eq_iff_iff, okW_iff l h, Bool.and_eq_true, decide_eq_true_iff, rd_sums a b h]
  unfold vO
  constructor
  · rintro ⟨h1, h2⟩
    by_cases c1 : (decide (a = .single) && bad (rd .single l)) = true
    · rw [if_pos c1] at h1; cases h1
    · rw [if_neg c1] at h2
      by_cases c2 : (decide (b = .single) && bad (rd .single l)) = true
      · rw [if_pos c2] at h2; cases h2
      · rw [if_neg c2] at h2
        refine ⟨fun q => ?_, Option.some.inj h2⟩
        cases x : bad (rd .single l)
        · rfl
        · rw [x, Bool.and_true] at c1 c2
          rcases q with q | q
          · exact absurd (decide_eq_true q) c1
          · exact absurd (decide_eq_true q) c2
  · rintro ⟨h1, h2⟩
    have n1 : ¬ (decide (a = .single) && bad (rd .single l)) = true := fun z => by
      obtain ⟨z1, z2⟩ := (Bool.and_eq_true _ _).mp z
      rw [h1 (.inl (of_decide_eq_true z1))] at z2; cases z2
    have n2 : ¬ (decide (b = .single) && bad (rd .single l)) = true := fun z => by
      obtain ⟨z1, z2⟩ := (Bool.and_eq_true _ _).mp z
      rw [h1 (.inr (of_decide_eq_true z1))] at z2; cases z2
    rw [if_neg n1, if_neg n2, h2]
    exact ⟨rfl, rfl⟩
end Sg
set_option Elab.async false
set_option linter.all false
set_option maxRecDepth 100000
set_option maxHeartbeats 1000000
namespace Sg
open PySem L2
variable {K : PySem.W.Frag}
theorem ixN_m1 (n : Nat) : ixN (n + 1) (-1) = some n := by
  unfold ixN
  rw [if_neg (by decide), if_pos (by omega)]
  congr 1
  omega
theorem ix_last (n : Nat) (h : 1 ≤ n) : ixN n (-1) = some (n - 1) := by
  have := ixN_m1 (n - 1)
  rw [show n - 1 + 1 = n from by omega] at this
  exact this
theorem set_last {α : Type} (b : α) : ∀ (R : List α) (a : α), (R ++ [a]).set R.length b = R ++ [b]
  | [], _ => rfl
  | x :: R, a => by
    show x :: (R ++ [a]).set R.length b = _
    rw [set_last b R a]; rfl
theorem at_last {α : Type} (r : α → U) (R : List α) (x : α) : atI ((R ++ [x]).map r) (-1) = some (r x) := by
  rw [List.map_append]; exact atI_last _ _
local macro_rules | `(tactic| trivial) => `(tactic| simp -implicitDefEqProofs (disch := omega) only [*, mC_m, mVar_m, mLook_m, mLet_m, mNil_m, msNil_m, msSeq_m, msAsgF_m, msDrop_m, msRet_m, msRetF_m, msRaise_m, msFor_m, mtYes_m, mLc_m, mcNil_m, mcCel_m, mCall_m, moNone_m, moSome_m, mSlL_m, mBi_m, mBiF_m, miList_m, miTup_m, miRng1_m, miEnum_m, miZip_m, mMeth_m, msSet_m, mCat_m, mRepeat_m, mChain_m, mIsi_m, mRev_m, mListRng_m, mCallF_m, msParVV_m, mMethD_m, mNew_m, mCMeth_m, mConC_m, msTry_m, mSup_m, okE_some, okE_none, opE_ok, opE_ex, opF_ok, opF_ex, mOp_e, mIx_e, unE_ok, mUn_e, coE_ok, coE_ex, coF_ok, coF_ex, mCons_e, bindAE_ok, bindAE_ex, mTup_e, tupF_e, mFr_e, lstF_ok, mLst_e, tsE_ok, tsE_ex, mTest_e, okT_some, truE_ok, truE_ex, mTru_e, anE_t, anE_f, anE_ok, orE_t, orE_f, orE_ok, mAnd_e, mOr_e, noE_ok, noE_ex, mNot_e, blV_ok, blV_ex, anV_t, anV_f, anV_ok, orV_t, orV_f, orV_ok, mAndV_e, mOrV_e, noV_ok, noV_ex, mNotV_e, ifV_t, ifV_f, ifV_ok, mIf_e, ifS_t, ifS_f, ifS_ok, ifS_ex, msIf_e, nxO_some, asE_ok, asE_ex, msAsg_e, gcE_some, mgCons_e, mgNil_e, mgTup_e, mgName_e, cvE_ok, cvE_ex, consC_ok, mcVal_e, thenS_nx, thenS_bk, thenS_ct, thenS_rt, thenS_ex, bindES_ok, bindES_ex, bindAS_ok, bindAS_ex, bindE_ok, bindE_ex, mfOf_e, mfOf0_e, noX_val, noX_cel, coM_some, fin_val, fin_cel, fin_nx, fin_ex, oAdd_i, oSub_i, oMul_l, oMul_r, oMod_i, oDiv_i, oPow_i, oLt_i, oLe_i, oGt_i, oGe_i, oEqI_i, oIx_l, oIx_f, oIx_t, at1_0, at2_0, at2_1, at3_0, at3_1, at3_2, at4_0, at4_1, at4_2, at4_3, ix3_0, ix3_1, ix3_2, oMax2_i, oMin2_i, oAbs_i, oInt_b, oLen_l, oLen_f, oLen_t, oNeg_i, truU_i, truU_l, truU_b, truU_n, lstU_l, lstU_f, oAppend_u, lstF_0, tupF_0, lstF_1, tupF_1, lstF_2, tupF_2, lstF_3, tupF_3, lstF_4, tupF_4, lstF_5, tupF_5, lstF_6, tupF_6, isi_NoneType_bool, isi_NoneType_int, isi_NoneType_str, isi_NoneType_list, isi_NoneType_tuple, isi_NoneType_dict, isi_bool_bool, isi_bool_int, isi_bool_str, isi_bool_list, isi_bool_tuple, isi_bool_dict, isi_int_bool, isi_int_int, isi_int_str, isi_int_list, isi_int_tuple, isi_int_dict, isi_str_bool, isi_str_int, isi_str_str, isi_str_list, isi_str_tuple, isi_str_dict, isi_list_bool, isi_list_int, isi_list_str, isi_list_list, isi_list_tuple, isi_list_dict, isi_tuple_bool, isi_tuple_int, isi_tuple_str, isi_tuple_list, isi_tuple_tuple, isi_tuple_dict, isi_dict_bool, isi_dict_int, isi_dict_str, isi_dict_list, isi_dict_tuple, isi_dict_dict, tyU_n, tyU_b, tyU_i, tyU_s, tyU_l, tyU_t, rngOk_i, zipU_map, intsU_map, blsU_map, oAll_l, oSum_l, cutU_1, cutU_m1, drop_map, reverse_map, length_map', dropLast_map, oEq_i, oNe_i, oEq_b, oNe_b, oEq_nn, oNe_nn, oEq_tt, oNe_tt, oEq_tn, oNe_tn, oEq_nt, oNe_nt, oEq_pp, oNe_pp, oEq_ii, oNe_ii, List.zip_cons_cons, List.zip_nil_left, mCallF_m, oMul_s, oPowX_i, mMakeS_m, mMakeL_m, mFld_m, mProp_m, mnSeq_m, mnS_m, mnF_m, at0_e, allX_const, seqU_l, seqU_f, seqU_t, pm_nil, pm_cons, List.mem_singleton, and_self, scV_b, scV_i, scV_s, scV_n, Option.isSome_some, tyU_d, mgTup_2, mgTup_3, mgTup_4, or_false, false_or, or_self, or_true, true_or, Nat.reduceBEq, bindEA_ok, bindEA_ex, unown, kills, cellAt, List.map_cons, List.map_nil, List.length_cons, List.length_nil, List.cons_append, List.nil_append, List.replicate, List.getElem?_cons_succ, List.getElem?_cons_zero, List.set_cons_zero, List.set_cons_succ, Option.map_some, Option.map_none, Option.bind_some, Option.bind_none, Nat.reduceAdd, Nat.reduceSub, Nat.reduceLeDiff, Int.reduceLT, Int.reduceLE, Int.reduceNeg, Int.reduceToNat, Int.reducePow, decide_eq_true_eq, reduceIte, eq_self, ite_true, ite_false, Bool.false_eq_true, reduceCtorEq, resolve, celJ, nCel, Slot.isC, List.filter, putJ, callM, callMF, List.append_eq, Nat.reduceLT, Int.reduceMul, Int.reduceAdd, Int.reduceSub, ne_eq, not_true_eq_false, not_false_eq_true, Bool.not_false, Bool.not_true, decide_true, decide_false, frF, Int.cast_ofNat_Int, Bool.and_true, Bool.true_and, Bool.false_and, Bool.and_false, Bool.or_false, Bool.false_or, Bool.true_or, Bool.or_true, oList_l, oLen_l, snl_n, Option.getD_none, Option.getD_some, msSet_m])
local macro_rules | `(tactic| ac_rfl) => `(tactic| (simp -implicitDefEqProofs (disch := omega) only [*, mC_m, mVar_m, mLook_m, mLet_m, mNil_m, msNil_m, msSeq_m, msAsgF_m, msDrop_m, msRet_m, msRetF_m, msRaise_m, msFor_m, mtYes_m, mLc_m, mcNil_m, mcCel_m, mCall_m, moNone_m, moSome_m, mSlL_m, mBi_m, mBiF_m, miList_m, miTup_m, miRng1_m, miEnum_m, miZip_m, mMeth_m, msSet_m, mCat_m, mRepeat_m, mChain_m, mIsi_m, mRev_m, mListRng_m, mCallF_m, msParVV_m, mMethD_m, mNew_m, mCMeth_m, mConC_m, msTry_m, mSup_m, okE_some, okE_none, opE_ok, opE_ex, opF_ok, opF_ex, mOp_e, mIx_e, unE_ok, mUn_e, coE_ok, coE_ex, coF_ok, coF_ex, mCons_e, bindAE_ok, bindAE_ex, mTup_e, tupF_e, mFr_e, lstF_ok, mLst_e, tsE_ok, tsE_ex, mTest_e, okT_some, truE_ok, truE_ex, mTru_e, anE_t, anE_f, anE_ok, orE_t, orE_f, orE_ok, mAnd_e, mOr_e, noE_ok, noE_ex, mNot_e, blV_ok, blV_ex, anV_t, anV_f, anV_ok, orV_t, orV_f, orV_ok, mAndV_e, mOrV_e, noV_ok, noV_ex, mNotV_e, ifV_t, ifV_f, ifV_ok, mIf_e, ifS_t, ifS_f, ifS_ok, ifS_ex, msIf_e, nxO_some, asE_ok, asE_ex, msAsg_e, gcE_some, mgCons_e, mgNil_e, mgTup_e, mgName_e, cvE_ok, cvE_ex, consC_ok, mcVal_e, thenS_nx, thenS_bk, thenS_ct, thenS_rt, thenS_ex, bindES_ok, bindES_ex, bindAS_ok, bindAS_ex, bindE_ok, bindE_ex, mfOf_e, mfOf0_e, noX_val, noX_cel, coM_some, fin_val, fin_cel, fin_nx, fin_ex, oAdd_i, oSub_i, oMul_l, oMul_r, oMod_i, oDiv_i, oPow_i, oLt_i, oLe_i, oGt_i, oGe_i, oEqI_i, oIx_l, oIx_f, oIx_t, at1_0, at2_0, at2_1, at3_0, at3_1, at3_2, at4_0, at4_1, at4_2, at4_3, ix3_0, ix3_1, ix3_2, oMax2_i, oMin2_i, oAbs_i, oInt_b, oLen_l, oLen_f, oLen_t, oNeg_i, truU_i, truU_l, truU_b, truU_n, lstU_l, lstU_f, oAppend_u, lstF_0, tupF_0, lstF_1, tupF_1, lstF_2, tupF_2, lstF_3, tupF_3, lstF_4, tupF_4, lstF_5, tupF_5, lstF_6, tupF_6, isi_NoneType_bool, isi_NoneType_int, isi_NoneType_str, isi_NoneType_list, isi_NoneType_tuple, isi_NoneType_dict, isi_bool_bool, isi_bool_int, isi_bool_str, isi_bool_list, isi_bool_tuple, isi_bool_dict, isi_int_bool, isi_int_int, isi_int_str, isi_int_list, isi_int_tuple, isi_int_dict, isi_str_bool, isi_str_int, isi_str_str, isi_str_list, isi_str_tuple, isi_str_dict, isi_list_bool, isi_list_int, isi_list_str, isi_list_list, isi_list_tuple, isi_list_dict, isi_tuple_bool, isi_tuple_int, isi_tuple_str, isi_tuple_list, isi_tuple_tuple, isi_tuple_dict, isi_dict_bool, isi_dict_int, isi_dict_str, isi_dict_list, isi_dict_tuple, isi_dict_dict, tyU_n, tyU_b, tyU_i, tyU_s, tyU_l, tyU_t, rngOk_i, zipU_map, intsU_map, blsU_map, oAll_l, oSum_l, cutU_1, cutU_m1, drop_map, reverse_map, length_map', dropLast_map, oEq_i, oNe_i, oEq_b, oNe_b, oEq_nn, oNe_nn, oEq_tt, oNe_tt, oEq_tn, oNe_tn, oEq_nt, oNe_nt, oEq_pp, oNe_pp, oEq_ii, oNe_ii, List.zip_cons_cons, List.zip_nil_left, mCallF_m, oMul_s, oPowX_i, mMakeS_m, mMakeL_m, mFld_m, mProp_m, mnSeq_m, mnS_m, mnF_m, at0_e, allX_const, seqU_l, seqU_f, seqU_t, pm_nil, pm_cons, List.mem_singleton, and_self, scV_b, scV_i, scV_s, scV_n, Option.isSome_some, tyU_d, mgTup_2, mgTup_3, mgTup_4, or_false, false_or, or_self, or_true, true_or, Nat.reduceBEq, bindEA_ok, bindEA_ex, unown, kills, cellAt, List.map_cons, List.map_nil, List.length_cons, List.length_nil, List.cons_append, List.nil_append, List.replicate, List.getElem?_cons_succ, List.getElem?_cons_zero, List.set_cons_zero, List.set_cons_succ, Option.map_some, Option.map_none, Option.bind_some, Option.bind_none, Nat.reduceAdd, Nat.reduceSub, Nat.reduceLeDiff, Int.reduceLT, Int.reduceLE, Int.reduceNeg, Int.reduceToNat, Int.reducePow, decide_eq_true_eq, reduceIte, eq_self, ite_true, ite_false, Bool.false_eq_true, reduceCtorEq, resolve, celJ, nCel, Slot.isC, List.filter, putJ, callM, callMF, List.append_eq, Nat.reduceLT, Int.reduceMul, Int.reduceAdd, Int.reduceSub, ne_eq, not_true_eq_false, not_false_eq_true, Bool.not_false, Bool.not_true, decide_true, decide_false, frF, Int.cast_ofNat_Int, Bool.and_true, Bool.true_and, Bool.false_and, Bool.and_false, Bool.or_false, Bool.false_or, Bool.true_or, Bool.or_true, G__law_all_rows_0, T__law_all_rows_1, E__law_all_rows_2, G__law_all_rows_3, G__law_all_rows_5, G__law_runs_0, G_is_run_0, T_is_run_1, E_is_run_2, G_are_runs_0, T_are_runs_1, E_are_runs_2, G_are_runs_3, T_are_runs_4, E_are_runs_5, G_Plain_signs_0, T_Plain_signs_1, E_Plain_signs_2, G_Next_signs_0, G_Single_signs_0, G_Block_signs_0, G_Later_signs_0, G_signs_of_0, T_signs_of_1, E_signs_of_2, G_value_of_0, T_value_of_1, E_value_of_2, G_are_values_0, T_are_values_1, E_are_values_2, G_are_values_3, T_are_values_4, E_are_values_5, G_count_agreeing_0, T_count_agreeing_1, E_count_agreeing_2, E_count_agreeing_3, G_count_agreeing_4, G_count_agreeing_6, G_count_agreeing_8, G__law_right_0, T__law_right_1, E__law_right_2, G__law_right_3, T__law_right_4, E__law_right_5, G__law_right_6, T__law_right_7, E__law_right_8, G__law_right_9, T__law_right_10, E__law_right_11, G__law_right_12, G__law_right_14, T__law_right_15, E__law_right_16, G__law_right_17, G__law_values_0, T__law_values_1, E__law_values_2, G_law_0, oList_l, oLen_l, snl_n, Option.getD_none, Option.getD_some, msSet_m]; try rfl))
theorem ru_step (L : U) (R : List (Int × Int)) (v : Int) (c : Nat) (s : Int) (hl : R.length < 1000) :
    (B__law_runs_1 K).m [.val L, .cel true ((R ++ [(v, (c : Int))]).map pU), .val (.int s)] = some (.nx [.val L, .cel true ((if v = s then R ++ [(v, ((c + 1 : Nat) : Int))] else (R ++ [(v, (c : Int))]) ++ [(s, 1)]).map pU), .val (.int s)]) := by
  have e1 := oNe_pp (K := K) (R ++ [(v, (c : Int))]) []
  rw [decide_eq_false (by simp)] at e1
  have e2 := at_last pU R (v, (c : Int))
  have a0 : ∀ a b : U, atI [a, b] 0 = some a := fun _ _ => rfl
  have a1 : ∀ a b : U, atI [a, b] 1 = some b := fun _ _ => rfl
  have e3 : ixN ((R ++ [(v, (c : Int))]).map pU).length (-1) = some R.length := by
    rw [List.length_map, List.length_append, List.length_singleton, ix_last _ (by omega)]; rfl
  have e4 : ((R ++ [(v, (c : Int))]).map pU).set R.length (.tup [.int v, .int ((c : Int) + 1)]) = (R ++ [(v, ((c + 1 : Nat) : Int))]).map pU := by
    rw [List.map_append, List.map_append, List.map_singleton, List.map_singleton]
    have := set_last (U.tup [.int v, .int ((c : Int) + 1)]) (R.map pU) (pU (v, (c : Int)))
    rw [List.length_map] at this
    exact this
  have e5 : ((R ++ [(v, (c : Int))]).map pU).length < 16777216 := by rw [List.length_map, List.length_append, List.length_singleton]; omega
  have e6 : ((R ++ [(v, (c : Int))]).map pU) ++ [.tup [.int s, .int 1]] = (R ++ [(v, (c : Int))] ++ [(s, 1)]).map pU := (List.map_append (f := pU) (l₁ := R ++ [(v, (c : Int))]) (l₂ := [(s, 1)])).symm
  rw [List.map_nil] at e1
  by_cases h : v = s
  · subst h
    rw [if_pos rfl]
    have d := decide_eq_true (show v = v from rfl)
    clear e6 hl
    generalize (R ++ [(v, ((c + 1 : Nat) : Int))]).map pU = F2 at *
    generalize (R ++ [(v, (c : Int))]).map pU = F at *
    unfold B__law_runs_1
    trivial
  · rw [if_neg h]
    have d := decide_eq_false h
    clear e3 e4 h hl
    generalize (R ++ [(v, (c : Int))] ++ [(s, 1)]).map pU = F2 at *
    generalize (R ++ [(v, (c : Int))]).map pU = F at *
    unfold B__law_runs_1
    trivial
theorem ru_loop (L : U) : ∀ (l : List Int) (R : List (Int × Int)) (v : Int) (c : Nat), R.length + l.length < 1000 →
    loopM (G__law_runs_0 K).m (B__law_runs_1 K).m [2] (l.map U.int) [.val L, .cel true ((R ++ [(v, (c : Int))]).map pU), .non] = some (.nx [.val L, .cel true ((R ++ rg v c l).map pU), .non])
  | [], R, v, c, _ => rfl
  | s :: l, R, v, c, h => by
    rw [List.length_cons] at h
    have st := ru_step (K := K) L R v c s (by omega)
    rw [List.map_cons]
    unfold loopM
    rw [show (G__law_runs_0 K).m (.int s) [.val L, .cel true ((R ++ [(v, (c : Int))]).map pU), .non] = some [.val L, .cel true ((R ++ [(v, (c : Int))]).map pU), .val (.int s)] from rfl]
    dsimp only
    rw [st]
    dsimp only
    unfold rg
    by_cases e : v = s
    · rw [if_pos e, if_pos e]
      exact ru_loop L l R v (c + 1) (by omega)
    · rw [if_neg e, if_neg e]
      have ih := ru_loop L l (R ++ [(v, (c : Int))]) s 1 (by rw [List.length_append, List.length_singleton]; omega)
      rw [List.append_assoc R [(v, (c : Int))] (rg s 1 l)] at ih
      exact ih
theorem ru_first (L : U) (s : Int) : (B__law_runs_1 K).m [.val L, .cel true [], .val (.int s)] = some (.nx [.val L, .cel true ([(s, ((1 : Nat) : Int))].map pU), .val (.int s)]) := by
  have e1 : (oNe (K := K)).f (.lst []) (.lst []) = some (.bl false) := oNe_pp (K := K) [] []
  have e2 : (oAppend (K := K)).f [] [U.tup [.int s, .int 1]] = some (.non, [U.tup [.int s, .int 1]]) := by
    have : ∀ L : List U, L.length < 16777216 → (oAppend (K := K)).f L [U.tup [.int s, .int 1]] = some (.non, L ++ [U.tup [.int s, .int 1]]) := fun L h => if_pos h
    exact this [] (by show 0 < 16777216; omega)
  show _ = some (SO.nx [.val L, .cel true [.tup [.int s, .int 1]], .val (.int s)])
  unfold B__law_runs_1
  trivial
theorem runs_k (l : List Int) (hl : l.length < 500) : mf__law_runs K [.val (.lst (l.map U.int))] = some (.val (.lst ((rn l).map pU)) none) := by
  have lp : loopM (G__law_runs_0 K).m (B__law_runs_1 K).m [2] (l.map U.int) [.val (.lst (l.map U.int)), .cel true [], .non] = some (.nx [.val (.lst (l.map U.int)), .cel true ((rn l).map pU), .non]) := by
    generalize U.lst (l.map U.int) = L
    cases l with
    | nil => rfl
    | cons s l =>
      have st := ru_first (K := K) L s
      rw [List.length_cons] at hl
      have ih := ru_loop (K := K) L l [] s 1 (by rw [List.length_nil]; omega)
      rw [List.map_cons]
      unfold loopM
      rw [show (G__law_runs_0 K).m (.int s) [.val L, .cel true [], .non] = some [.val L, .cel true [], .val (.int s)] from rfl]
      dsimp only
      rw [st]
      exact ih
  clear hl
  generalize (rn l).map pU = R at *
  generalize l.map U.int = LU at *
  unfold mf__law_runs M__law_runs
  trivial
end Sg
set_option Elab.async false
set_option linter.all false
set_option maxRecDepth 100000
set_option maxHeartbeats 1000000
namespace Sg
open PySem L2
local macro_rules | `(tactic| trivial) => `(tactic| simp -implicitDefEqProofs (disch := omega) only [*, mC_m, mVar_m, mLook_m, mLet_m, mNil_m, msNil_m, msSeq_m, msAsgF_m, msDrop_m, msRet_m, msRetF_m, msRaise_m, msFor_m, mtYes_m, mLc_m, mcNil_m, mcCel_m, mCall_m, moNone_m, moSome_m, mSlL_m, mBi_m, mBiF_m, miList_m, miTup_m, miRng1_m, miEnum_m, miZip_m, mMeth_m, msSet_m, mCat_m, mRepeat_m, mChain_m, mIsi_m, mRev_m, mListRng_m, mCallF_m, msParVV_m, mMethD_m, mNew_m, mCMeth_m, mConC_m, msTry_m, mSup_m, okE_some, okE_none, opE_ok, opE_ex, opF_ok, opF_ex, mOp_e, mIx_e, unE_ok, mUn_e, coE_ok, coE_ex, coF_ok, coF_ex, mCons_e, bindAE_ok, bindAE_ex, mTup_e, tupF_e, mFr_e, lstF_ok, mLst_e, tsE_ok, tsE_ex, mTest_e, okT_some, truE_ok, truE_ex, mTru_e, anE_t, anE_f, anE_ok, orE_t, orE_f, orE_ok, mAnd_e, mOr_e, noE_ok, noE_ex, mNot_e, blV_ok, blV_ex, anV_t, anV_f, anV_ok, orV_t, orV_f, orV_ok, mAndV_e, mOrV_e, noV_ok, noV_ex, mNotV_e, ifV_t, ifV_f, ifV_ok, mIf_e, ifS_t, ifS_f, ifS_ok, ifS_ex, msIf_e, nxO_some, asE_ok, asE_ex, msAsg_e, gcE_some, mgCons_e, mgNil_e, mgTup_e, mgName_e, cvE_ok, cvE_ex, consC_ok, mcVal_e, thenS_nx, thenS_bk, thenS_ct, thenS_rt, thenS_ex, bindES_ok, bindES_ex, bindAS_ok, bindAS_ex, bindE_ok, bindE_ex, mfOf_e, mfOf0_e, noX_val, noX_cel, coM_some, fin_val, fin_cel, fin_nx, fin_ex, oAdd_i, oSub_i, oMul_l, oMul_r, oMod_i, oDiv_i, oPow_i, oLt_i, oLe_i, oGt_i, oGe_i, oEqI_i, oIx_l, oIx_f, oIx_t, at1_0, at2_0, at2_1, at3_0, at3_1, at3_2, at4_0, at4_1, at4_2, at4_3, ix3_0, ix3_1, ix3_2, oMax2_i, oMin2_i, oAbs_i, oInt_b, oLen_l, oLen_f, oLen_t, oNeg_i, truU_i, truU_l, truU_b, truU_n, lstU_l, lstU_f, oAppend_u, lstF_0, tupF_0, lstF_1, tupF_1, lstF_2, tupF_2, lstF_3, tupF_3, lstF_4, tupF_4, lstF_5, tupF_5, lstF_6, tupF_6, isi_NoneType_bool, isi_NoneType_int, isi_NoneType_str, isi_NoneType_list, isi_NoneType_tuple, isi_NoneType_dict, isi_bool_bool, isi_bool_int, isi_bool_str, isi_bool_list, isi_bool_tuple, isi_bool_dict, isi_int_bool, isi_int_int, isi_int_str, isi_int_list, isi_int_tuple, isi_int_dict, isi_str_bool, isi_str_int, isi_str_str, isi_str_list, isi_str_tuple, isi_str_dict, isi_list_bool, isi_list_int, isi_list_str, isi_list_list, isi_list_tuple, isi_list_dict, isi_tuple_bool, isi_tuple_int, isi_tuple_str, isi_tuple_list, isi_tuple_tuple, isi_tuple_dict, isi_dict_bool, isi_dict_int, isi_dict_str, isi_dict_list, isi_dict_tuple, isi_dict_dict, tyU_n, tyU_b, tyU_i, tyU_s, tyU_l, tyU_t, rngOk_i, zipU_map, intsU_map, blsU_map, oAll_l, oSum_l, cutU_1, cutU_m1, drop_map, reverse_map, length_map', dropLast_map, oEq_i, oNe_i, oEq_b, oNe_b, oEq_nn, oNe_nn, oEq_tt, oNe_tt, oEq_tn, oNe_tn, oEq_nt, oNe_nt, oEq_pp, oNe_pp, oEq_ii, oNe_ii, List.zip_cons_cons, List.zip_nil_left, mCallF_m, oMul_s, oPowX_i, mMakeS_m, mMakeL_m, mFld_m, mProp_m, mnSeq_m, mnS_m, mnF_m, at0_e, allX_const, seqU_l, seqU_f, seqU_t, pm_nil, pm_cons, List.mem_singleton, and_self, scV_b, scV_i, scV_s, scV_n, Option.isSome_some, tyU_d, mgTup_2, mgTup_3, mgTup_4, or_false, false_or, or_self, or_true, true_or, Nat.reduceBEq, bindEA_ok, bindEA_ex, unown, kills, cellAt, List.map_cons, List.map_nil, List.length_cons, List.length_nil, List.cons_append, List.nil_append, List.replicate, List.getElem?_cons_succ, List.getElem?_cons_zero, List.set_cons_zero, List.set_cons_succ, Option.map_some, Option.map_none, Option.bind_some, Option.bind_none, Nat.reduceAdd, Nat.reduceSub, Nat.reduceLeDiff, Int.reduceLT, Int.reduceLE, Int.reduceNeg, Int.reduceToNat, Int.reducePow, decide_eq_true_eq, reduceIte, eq_self, ite_true, ite_false, Bool.false_eq_true, reduceCtorEq, resolve, celJ, nCel, Slot.isC, List.filter, putJ, callM, callMF, List.append_eq, Nat.reduceLT, Int.reduceMul, Int.reduceAdd, Int.reduceSub, ne_eq, not_true_eq_false, not_false_eq_true, Bool.not_false, Bool.not_true, decide_true, decide_false, frF, Int.cast_ofNat_Int, Bool.and_true, Bool.true_and, Bool.false_and, Bool.and_false, Bool.or_false, Bool.false_or, Bool.true_or, Bool.or_true])
local macro_rules | `(tactic| ac_rfl) => `(tactic| (simp -implicitDefEqProofs (disch := omega) only [*, mC_m, mVar_m, mLook_m, mLet_m, mNil_m, msNil_m, msSeq_m, msAsgF_m, msDrop_m, msRet_m, msRetF_m, msRaise_m, msFor_m, mtYes_m, mLc_m, mcNil_m, mcCel_m, mCall_m, moNone_m, moSome_m, mSlL_m, mBi_m, mBiF_m, miList_m, miTup_m, miRng1_m, miEnum_m, miZip_m, mMeth_m, msSet_m, mCat_m, mRepeat_m, mChain_m, mIsi_m, mRev_m, mListRng_m, mCallF_m, msParVV_m, mMethD_m, mNew_m, mCMeth_m, mConC_m, msTry_m, mSup_m, okE_some, okE_none, opE_ok, opE_ex, opF_ok, opF_ex, mOp_e, mIx_e, unE_ok, mUn_e, coE_ok, coE_ex, coF_ok, coF_ex, mCons_e, bindAE_ok, bindAE_ex, mTup_e, tupF_e, mFr_e, lstF_ok, mLst_e, tsE_ok, tsE_ex, mTest_e, okT_some, truE_ok, truE_ex, mTru_e, anE_t, anE_f, anE_ok, orE_t, orE_f, orE_ok, mAnd_e, mOr_e, noE_ok, noE_ex, mNot_e, blV_ok, blV_ex, anV_t, anV_f, anV_ok, orV_t, orV_f, orV_ok, mAndV_e, mOrV_e, noV_ok, noV_ex, mNotV_e, ifV_t, ifV_f, ifV_ok, mIf_e, ifS_t, ifS_f, ifS_ok, ifS_ex, msIf_e, nxO_some, asE_ok, asE_ex, msAsg_e, gcE_some, mgCons_e, mgNil_e, mgTup_e, mgName_e, cvE_ok, cvE_ex, consC_ok, mcVal_e, thenS_nx, thenS_bk, thenS_ct, thenS_rt, thenS_ex, bindES_ok, bindES_ex, bindAS_ok, bindAS_ex, bindE_ok, bindE_ex, mfOf_e, mfOf0_e, noX_val, noX_cel, coM_some, fin_val, fin_cel, fin_nx, fin_ex, oAdd_i, oSub_i, oMul_l, oMul_r, oMod_i, oDiv_i, oPow_i, oLt_i, oLe_i, oGt_i, oGe_i, oEqI_i, oIx_l, oIx_f, oIx_t, at1_0, at2_0, at2_1, at3_0, at3_1, at3_2, at4_0, at4_1, at4_2, at4_3, ix3_0, ix3_1, ix3_2, oMax2_i, oMin2_i, oAbs_i, oInt_b, oLen_l, oLen_f, oLen_t, oNeg_i, truU_i, truU_l, truU_b, truU_n, lstU_l, lstU_f, oAppend_u, lstF_0, tupF_0, lstF_1, tupF_1, lstF_2, tupF_2, lstF_3, tupF_3, lstF_4, tupF_4, lstF_5, tupF_5, lstF_6, tupF_6, isi_NoneType_bool, isi_NoneType_int, isi_NoneType_str, isi_NoneType_list, isi_NoneType_tuple, isi_NoneType_dict, isi_bool_bool, isi_bool_int, isi_bool_str, isi_bool_list, isi_bool_tuple, isi_bool_dict, isi_int_bool, isi_int_int, isi_int_str, isi_int_list, isi_int_tuple, isi_int_dict, isi_str_bool, isi_str_int, isi_str_str, isi_str_list, isi_str_tuple, isi_str_dict, isi_list_bool, isi_list_int, isi_list_str, isi_list_list, isi_list_tuple, isi_list_dict, isi_tuple_bool, isi_tuple_int, isi_tuple_str, isi_tuple_list, isi_tuple_tuple, isi_tuple_dict, isi_dict_bool, isi_dict_int, isi_dict_str, isi_dict_list, isi_dict_tuple, isi_dict_dict, tyU_n, tyU_b, tyU_i, tyU_s, tyU_l, tyU_t, rngOk_i, zipU_map, intsU_map, blsU_map, oAll_l, oSum_l, cutU_1, cutU_m1, drop_map, reverse_map, length_map', dropLast_map, oEq_i, oNe_i, oEq_b, oNe_b, oEq_nn, oNe_nn, oEq_tt, oNe_tt, oEq_tn, oNe_tn, oEq_nt, oNe_nt, oEq_pp, oNe_pp, oEq_ii, oNe_ii, List.zip_cons_cons, List.zip_nil_left, mCallF_m, oMul_s, oPowX_i, mMakeS_m, mMakeL_m, mFld_m, mProp_m, mnSeq_m, mnS_m, mnF_m, at0_e, allX_const, seqU_l, seqU_f, seqU_t, pm_nil, pm_cons, List.mem_singleton, and_self, scV_b, scV_i, scV_s, scV_n, Option.isSome_some, tyU_d, mgTup_2, mgTup_3, mgTup_4, or_false, false_or, or_self, or_true, true_or, Nat.reduceBEq, bindEA_ok, bindEA_ex, unown, kills, cellAt, List.map_cons, List.map_nil, List.length_cons, List.length_nil, List.cons_append, List.nil_append, List.replicate, List.getElem?_cons_succ, List.getElem?_cons_zero, List.set_cons_zero, List.set_cons_succ, Option.map_some, Option.map_none, Option.bind_some, Option.bind_none, Nat.reduceAdd, Nat.reduceSub, Nat.reduceLeDiff, Int.reduceLT, Int.reduceLE, Int.reduceNeg, Int.reduceToNat, Int.reducePow, decide_eq_true_eq, reduceIte, eq_self, ite_true, ite_false, Bool.false_eq_true, reduceCtorEq, resolve, celJ, nCel, Slot.isC, List.filter, putJ, callM, callMF, List.append_eq, Nat.reduceLT, Int.reduceMul, Int.reduceAdd, Int.reduceSub, ne_eq, not_true_eq_false, not_false_eq_true, Bool.not_false, Bool.not_true, decide_true, decide_false, frF, Int.cast_ofNat_Int, Bool.and_true, Bool.true_and, Bool.false_and, Bool.and_false, Bool.or_false, Bool.false_or, Bool.true_or, Bool.or_true, G__law_all_rows_0, T__law_all_rows_1, E__law_all_rows_2, G__law_all_rows_3, G__law_all_rows_5, G__law_runs_0, G_is_run_0, T_is_run_1, E_is_run_2, G_are_runs_0, T_are_runs_1, E_are_runs_2, G_are_runs_3, T_are_runs_4, E_are_runs_5, G_Plain_signs_0, T_Plain_signs_1, E_Plain_signs_2, G_Next_signs_0, G_Single_signs_0, G_Block_signs_0, G_Later_signs_0, G_signs_of_0, T_signs_of_1, E_signs_of_2, G_value_of_0, T_value_of_1, E_value_of_2, G_are_values_0, T_are_values_1, E_are_values_2, G_are_values_3, T_are_values_4, E_are_values_5, G_count_agreeing_0, T_count_agreeing_1, E_count_agreeing_2, E_count_agreeing_3, G_count_agreeing_4, G_count_agreeing_6, G_count_agreeing_8, G__law_right_0, T__law_right_1, E__law_right_2, G__law_right_3, T__law_right_4, E__law_right_5, G__law_right_6, T__law_right_7, E__law_right_8, G__law_right_9, T__law_right_10, E__law_right_11, G__law_right_12, G__law_right_14, T__law_right_15, E__law_right_16, G__law_right_17, G__law_values_0, T__law_values_1, E__law_values_2, G_law_0]; try rfl))
end Sg
set_option Elab.async false
set_option linter.all false
set_option maxRecDepth 100000
set_option maxHeartbeats 1000000
namespace Sg
open PySem L2
variable {K : PySem.W.Frag}
theorem rg_ok : ∀ (l : List Int) (v : Int) (c : Nat), 1 ≤ c → 1 ≤ v → (∀ x ∈ l, 1 ≤ x) → (∀ p ∈ rg v c l, 1 ≤ p.1 ∧ 1 ≤ p.2) ∧ ∀ q ∈ (rg v c l).zip ((rg v c l).drop 1), q.1.1 ≠ q.2.1
  | [], v, c, hc, hv, _ => by
    refine ⟨fun p hp => ?_, fun q hq => ?_⟩
    · have e : p = (v, (c : Int)) := by simpa [rg] using hp
      rw [e]; exact ⟨hv, by show (1 : Int) ≤ c; omega⟩
    · simp [rg] at hq
  | s :: l, v, c, hc, hv, hl => by
    have hs := hl s List.mem_cons_self
    have hl2 : ∀ x ∈ l, 1 ≤ x := fun x hx => hl x (List.mem_cons_of_mem _ hx)
    unfold rg
    by_cases e : v = s
    · rw [if_pos e]
      exact rg_ok l v (c + 1) (by omega) hv hl2
    · rw [if_neg e]
      obtain ⟨i1, i2⟩ := rg_ok l s 1 (Nat.le_refl 1) hs hl2
      refine ⟨fun p hp => ?_, fun q hq => ?_⟩
      · rcases List.mem_cons.mp hp with z | z
        · rw [z]; exact ⟨hv, by show (1 : Int) ≤ c; omega⟩
        · exact i1 p z
      · obtain ⟨d, R, er⟩ := rg_head l s 1
        rw [er] at hq i2
        rw [List.drop_succ_cons, List.drop_zero, List.zip_cons_cons] at hq
        rcases List.mem_cons.mp hq with z | z
        · rw [z]; exact e
        · exact i2 q (by rw [List.drop_succ_cons, List.drop_zero]; exact z)
theorem rn_in {vs l : List Int} (hb : ∀ x ∈ vs, 1 ≤ x ∧ x ≤ 60) (hl : ∀ x ∈ l, x ∈ vs) (hne : 1 ≤ l.length) (hn : l.length ≤ 100) : WordIn vs (rn l) := by
  match l, hne with
  | s :: r, _ =>
    have h1 : ∀ x ∈ r, 1 ≤ x := fun x hx => (hb x (hl x (List.mem_cons_of_mem _ hx))).1
    obtain ⟨a, b⟩ := rg_ok r s 1 (Nat.le_refl 1) (hb s (hl s List.mem_cons_self)).1 h1
    have lenr := rn_len (s :: r)
    refine ⟨⟨⟨?_, by omega, a, b⟩, fun p hp => ?_⟩, fun p hp => hl _ (rn_mem (s :: r) hp).1⟩
    · obtain ⟨d, R, e⟩ := rg_head r s 1
      show 1 ≤ (rg s 1 r).length
      rw [e, List.length_cons]; omega
    · obtain ⟨m1, m2, m3⟩ := rn_mem (s :: r) hp
      have := hb _ (hl _ m1)
      exact ⟨by omega, by omega⟩
theorem rowN_rr (k : Kd) : ∀ w : List (Int × Int), (∀ p ∈ w, 1 ≤ p.1) → rowN k w = rr k w
  | [], _ => by cases k <;> rfl
  | p :: r, h => by
    have hp := h p List.mem_cons_self
    have hr : ∀ q ∈ r, 1 ≤ q.1 := fun q hq => h q (List.mem_cons_of_mem _ hq)
    have ih := rowN_rr k r hr
    cases k with
    | plain =>
      show (p.1, p.2, (0 : Int)) :: plainS r = (p.1, p.2 - 0, 0) :: rr .plain r
      rw [Int.sub_zero, ← ih]; rfl
    | single =>
      have e : minusN p.1 r = iv (hdB p.1 (r.map (·.1))) := by
        cases r with
        | nil => rfl
        | cons q r => show (if p.1 < q.1 then (1 : Int) else 0) = iv (decide (p.1 < q.1)); by_cases c : p.1 < q.1 <;> simp [c, iv]
      show (p.1, p.2 - minusN p.1 r, minusN p.1 r) :: nextS r = (p.1, p.2 - iv (hdB p.1 (r.map (·.1))), iv (hdB p.1 (r.map (·.1)))) :: rr .single r
      rw [e, ← ih]; rfl
    | next =>
      have e : minusN p.1 r = iv (hdB p.1 (r.map (·.1))) := by
        cases r with
        | nil => rfl
        | cons q r => show (if p.1 < q.1 then (1 : Int) else 0) = iv (decide (p.1 < q.1)); by_cases c : p.1 < q.1 <;> simp [c, iv]
      show (p.1, p.2 - minusN p.1 r, minusN p.1 r) :: nextS r = (p.1, p.2 - iv (hdB p.1 (r.map (·.1))), iv (hdB p.1 (r.map (·.1)))) :: rr .next r
      rw [e, ← ih]; rfl
    | block =>
      have e : decide (p.1 < headv r) = hdB p.1 (r.map (·.1)) := by
        cases r with
        | nil => exact decide_eq_false (by show ¬ p.1 < 0; omega)
        | cons q r => rfl
      show sign (decide (p.1 < headv r)) p :: blockS r = (p.1, p.2 - p.2 * iv (hdB p.1 (r.map (·.1))), p.2 * iv (hdB p.1 (r.map (·.1)))) :: rr .block r
      rw [e, ← ih]
      show _ = _ :: blockS r
      congr 1
      cases hdB p.1 (r.map (·.1))
      · show (p.1, p.2, (0 : Int)) = (p.1, p.2 - p.2 * 0, p.2 * 0); rw [Int.mul_zero, Int.sub_zero]
      · show (p.1, (0 : Int), p.2) = (p.1, p.2 - p.2 * 1, p.2 * 1); rw [Int.mul_one, Int.sub_self]
    | later =>
      have mx : ∀ r : List (Int × Int), (∀ q ∈ r, 1 ≤ q.1) → (p.1 < maxv r ↔ ∃ q ∈ r, p.1 < q.1) := by
        intro r
        induction r with
        | nil => intro _; constructor
                 · intro z; have z : p.1 < 0 := z; omega
                 · rintro ⟨q, hq, _⟩; cases hq
        | cons q r ih2 =>
          intro hr
          have ih2 := ih2 fun x hx => hr x (List.mem_cons_of_mem _ hx)
          show p.1 < (if q.1 > maxv r then q.1 else maxv r) ↔ _
          constructor
          · intro z
            by_cases c : q.1 > maxv r
            · rw [if_pos c] at z; exact ⟨q, List.mem_cons_self, z⟩
            · rw [if_neg c] at z
              obtain ⟨x, hx, l⟩ := ih2.mp z
              exact ⟨x, List.mem_cons_of_mem _ hx, l⟩
          · rintro ⟨x, hx, l⟩
            rcases List.mem_cons.mp hx with z | z
            · rw [z] at l; split <;> omega
            · have := ih2.mpr ⟨x, z, l⟩; split <;> omega
      have e : decide (p.1 < maxv r) = (r.map (·.1)).any fun x => decide (p.1 < x) := by
        rw [Bool.eq_iff_iff, decide_eq_true_iff, mx r hr, List.any_eq_true]
        constructor
        · rintro ⟨q, hq, l⟩; exact ⟨q.1, List.mem_map.mpr ⟨q, hq, rfl⟩, decide_eq_true l⟩
        · rintro ⟨x, hx, l⟩
          obtain ⟨q, hq, rfl⟩ := List.mem_map.mp hx
          exact ⟨q, hq, of_decide_eq_true l⟩
      show sign (decide (p.1 < maxv r)) p :: laterS r = (p.1, p.2 - p.2 * iv ((r.map (·.1)).any fun x => decide (p.1 < x)), p.2 * iv ((r.map (·.1)).any fun x => decide (p.1 < x))) :: rr .later r
      rw [e, ← ih]
      show _ = _ :: laterS r
      congr 1
      cases (r.map (·.1)).any fun x => decide (p.1 < x)
      · show (p.1, p.2, (0 : Int)) = (p.1, p.2 - p.2 * 0, p.2 * 0); rw [Int.mul_zero, Int.sub_zero]
      · show (p.1, (0 : Int), p.2) = (p.1, p.2 - p.2 * 1, p.2 * 1); rw [Int.mul_one, Int.sub_self]
theorem rr_minus {w : List (Int × Int)} {x : Int × Int × Int} (h : x ∈ rr .single w) : x.2.2 = 0 ∨ x.2.2 = 1 := by
  induction w with
  | nil => cases h
  | cons p r ih =>
    rcases List.mem_cons.mp h with z | z
    · rw [z]
      show iv (hdB p.1 (r.map (·.1))) = 0 ∨ iv (hdB p.1 (r.map (·.1))) = 1
      cases hdB p.1 (r.map (·.1))
      · exact .inl rfl
      · exact .inr rfl
    · exact ih z
theorem clash_bad {w : List (Int × Int)} (h : ∀ p ∈ w, 1 ≤ p.1) : ((nextS w).zip ((nextS w).drop 1)).any clash = badR (rr .single w) := by
  have e : nextS w = rr .single w := rowN_rr .single w h
  rw [e]
  unfold badR
  rw [Bool.eq_iff_iff, List.any_eq_true, List.any_eq_true]
  have key : ∀ q ∈ (rr .single w).zip ((rr .single w).drop 1), clash q = (decide (q.1.2.2 = 1) && decide (q.2.2.1 = 0)) := fun q hq => by
    have := rr_minus (List.of_mem_zip hq).1
    unfold clash
    congr 1
    rw [Bool.eq_iff_iff, decide_eq_true_iff, decide_eq_true_iff]
    omega
  constructor
  · rintro ⟨q, hq, z⟩; exact ⟨q, hq, by rw [← key q hq]; exact z⟩
  · rintro ⟨q, hq, z⟩; exact ⟨q, hq, by rw [key q hq]; exact z⟩
theorem sg_row (k : Kd) {l : List Int} (h : ∀ x ∈ l, 1 ≤ x) : (signsN k (rn l)).isSome = (vO k l).isSome ∧ sumN k (rn l) = (rd k l).sum := by
  have h1 : ∀ p ∈ rn l, 1 ≤ p.1 := fun p hp => h _ (rn_mem l hp).1
  constructor
  · unfold vO
    cases k with
    | plain => rfl
    | next => rfl
    | block => rfl
    | later => rfl
    | single =>
      show (singleS (rn l)).isSome = _
      unfold singleS
      rw [clash_bad h1, rn_bad h]
      cases bad (rd .single l) <;> rfl
  · unfold sumN
    rw [rowN_rr k _ h1, ← rn_val]
    rfl
theorem word_okW {a b : Kd} {l : List Int} (h : ∀ x ∈ l, 1 ≤ x) : ((signsN a (rn l)).isSome && agreeB a b (rn l)) = okW a b l := by
  rw [← vO_okW h]
  unfold agreeB
  rw [(sg_row a h).1, (sg_row b h).1, (sg_row a h).2, (sg_row b h).2]
  unfold vO
  cases (decide (a = .single) && bad (rd .single l)) <;> cases (decide (b = .single) && bad (rd .single l)) <;> simp [eq_comm]
theorem evN_pow (vs : List Int) : ∀ n : Nat, (evN vs n).length = vs.length ^ n
  | 0 => rfl
  | n + 1 => by
    show (evS vs (evN vs n)).length = _
    rw [evS_len, evN_pow vs n, Nat.pow_succ]
theorem sum_le {α : Type} {f g : α → Int} : ∀ {l : List α}, (∀ x ∈ l, f x ≤ g x) → (l.map f).sum ≤ (l.map g).sum
  | [], _ => Int.le_refl _
  | x :: l, h => by
    have := sum_le (l := l) fun y hy => h y (List.mem_cons_of_mem _ hy)
    have := h x List.mem_cons_self
    rw [List.map_cons, List.sum_cons, List.map_cons, List.sum_cons]; omega
theorem iv_le {p q : Bool} (h : p = true → q = true) : iv p ≤ iv q := by
  cases p
  · cases q <;> decide
  · rw [h rfl]; exact Int.le_refl _
theorem ev_pos {vs : List Int} (h : ∀ x ∈ vs, 1 ≤ x) {n : Nat} {l : List Int} (hl : l ∈ evN vs n) : ∀ x ∈ l, 1 ≤ x := fun x hx => h x (((evN_mem vs n l).mp hl).2 x hx)
theorem cnt_sym (a b : Kd) {vs : List Int} (hv : vs.Nodup) (h : ∀ x ∈ vs, 1 ≤ x) {n : Nat} (n1 : 1 ≤ n) : cntA a b vs n = cntA b a vs n := by
  rw [cntA_eq a b hv n1, cntA_eq b a hv n1]
  refine sum_congr fun l hl => ?_
  have : okW a b l = okW b a l := by
    rw [Bool.eq_iff_iff, okW_iff l (ev_pos h hl), okW_iff l (ev_pos h hl)]
    exact ⟨fun ⟨x, y⟩ => ⟨fun z => x z.symm, y.symm⟩, fun ⟨x, y⟩ => ⟨fun z => x z.symm, y.symm⟩⟩
  rw [this]
theorem cnt_all {k : Kd} (hk : k ≠ .single) {vs : List Int} (hv : vs.Nodup) (h : ∀ x ∈ vs, 1 ≤ x) {n : Nat} (n1 : 1 ≤ n) : cntA k k vs n = ((vs.length ^ n : Nat) : Int) := by
  rw [cntA_eq k k hv n1, ← evN_pow vs n]
  have : ((evN vs n).map fun l => iv (okW k k l)).sum = ((evN vs n).map fun _ => (1 : Int)).sum := sum_congr fun l hl => by
    have : okW k k l = true := (okW_iff l (ev_pos h hl)).mpr ⟨fun z => absurd (z.elim id id) hk, rfl⟩
    rw [this]; rfl
  rw [this]
  generalize evN vs n = E
  induction E with
  | nil => rfl
  | cons x E ih => rw [List.map_cons, List.sum_cons, ih, List.length_cons]; omega
theorem rd_sn : ∀ l : List Int, rd .single l = rd .next l
  | [] => rfl
  | s :: l => by rw [rd_cons, rd_cons, rd_sn l]; rfl
theorem cnt_single {vs : List Int} (hv : vs.Nodup) (h : ∀ x ∈ vs, 1 ≤ x) {n : Nat} (n1 : 1 ≤ n) : cntA .single .single vs n = cntA .single .next vs n := by
  rw [cntA_eq .single .single hv n1, cntA_eq .single .next hv n1]
  refine sum_congr fun l hl => ?_
  have : okW .single .single l = okW .single .next l := by
    rw [Bool.eq_iff_iff, okW_iff l (ev_pos h hl), okW_iff l (ev_pos h hl)]
    exact ⟨fun ⟨x, _⟩ => ⟨fun _ => x (.inl rfl), rd_sn l⟩, fun ⟨x, _⟩ => ⟨fun _ => x (.inl rfl), rfl⟩⟩
  rw [this]
theorem cnt_mono {a b c : Kd} (ab : rank a ≤ rank b) (bc : rank b ≤ rank c) (ha : a ≠ .single) (hb : b ≠ .single) {vs : List Int} (hv : vs.Nodup) (h : ∀ x ∈ vs, 1 ≤ x) {n : Nat} (n1 : 1 ≤ n) : cntA a c vs n ≤ cntA a b vs n := by
  rw [cntA_eq a c hv n1, cntA_eq a b hv n1]
  refine sum_le fun l hl => iv_le fun z => ?_
  have hp := ev_pos h hl
  have e := ((okW_iff l hp).mp z).2
  refine (okW_iff l hp).mpr ⟨fun q => absurd q (by rintro (q | q); exact ha q; exact hb q), ?_⟩
  have i1 := (rd_nest ab l hp).1
  have i2 := (rd_nest bc l hp).1
  rw [← e] at i2
  exact (rd_sums a b hp).mpr (by omega)
theorem Sm_le (vs : List Int) : ∀ (n : Nat) (f g : List Int → Int), (∀ l, f l ≤ g l) → Sm vs n f ≤ Sm vs n g
  | 0, f, g, h => h []
  | n + 1, f, g, h => sum_le fun s _ => Sm_le vs n _ _ fun l => h (s :: l)
theorem Sm_more (ini : List Int) (top : Int) : ∀ (n : Nat) (f : List Int → Int), (∀ l, 0 ≤ f l) → Sm ini n f ≤ Sm (ini ++ [top]) n f ∧ (1 ≤ n → Sm ini n f + f (List.replicate n top) ≤ Sm (ini ++ [top]) n f)
  | 0, f, h => ⟨Int.le_refl _, fun z => absurd z (by omega)⟩
  | n + 1, f, h => by
    have e : Sm (ini ++ [top]) (n + 1) f = (ini.map fun s => Sm (ini ++ [top]) n fun l => f (s :: l)).sum + Sm (ini ++ [top]) n fun l => f (top :: l) := by
      show ((ini ++ [top]).map _).sum = _
      rw [List.map_append, List.sum_append]
      show _ + (_ + 0) = _
      rw [Int.add_zero]
    have a : Sm ini (n + 1) f ≤ (ini.map fun s => Sm (ini ++ [top]) n fun l => f (s :: l)).sum := sum_le fun s _ => (Sm_more ini top n (fun l => f (s :: l)) fun l => h (s :: l)).1
    have b0 : 0 ≤ Sm ini n fun l => f (top :: l) := by
      have := Sm_le ini n (fun _ => 0) (fun l => f (top :: l)) fun l => h (top :: l)
      rw [Sm_zero] at this
      exact this
    obtain ⟨b1, b2⟩ := Sm_more ini top n (fun l => f (top :: l)) fun l => h (top :: l)
    rw [e]
    refine ⟨by omega, fun _ => ?_⟩
    rw [List.replicate_succ]
    by_cases c : 1 ≤ n
    · have := b2 c; omega
    · have hn : n = 0 := by omega
      subst hn
      show _ + f [top] ≤ _ + f [top]
      omega
theorem rd_rep (k : Kd) (v : Int) : ∀ c : Nat, rd k (List.replicate c v) = List.replicate c v
  | 0 => rfl
  | c + 1 => by
    rw [List.replicate_succ, rd_cons, rd_rep k v c, if_neg]
    intro z
    obtain ⟨_, x, hx, lt⟩ := less_mem z
    rw [(List.mem_replicate.mp hx).2] at lt
    omega
theorem cnt_more {a b : Kd} {ini : List Int} {top : Int} (hv : (ini ++ [top]).Nodup) (t1 : 1 ≤ top) {n : Nat} (n1 : 1 ≤ n) : cntA a b ini n < cntA a b (ini ++ [top]) n := by
  have hi : ini.Nodup := (List.nodup_append.mp hv).1
  rw [cntA_eq a b hi n1, cntA_eq a b hv n1, evN_sum, evN_sum]
  have h := (Sm_more ini top n (fun l => iv (okW a b l)) fun l => by unfold iv; split <;> omega).2 n1
  have ok : okW a b (List.replicate n top) = true := (okW_iff _ (fun x hx => by rw [(List.mem_replicate.mp hx).2]; exact t1)).mpr ⟨fun _ => rep_ok t1 n, by rw [rd_rep, rd_rep]⟩
  rw [ok] at h
  have : iv true = 1 := rfl
  omega
end Sg
set_option Elab.async false
set_option linter.all false
set_option maxRecDepth 100000
set_option maxHeartbeats 1000000
namespace Sg
open PySem L2
variable {K : PySem.W.Frag}
def KS : List Kd := [.plain, .single, .next, .block, .later]
def ixK : Kd → Int
  | .plain => 0 | .single => 1 | .next => 2 | .block => 3 | .later => 4
def rowC (vs : List Int) (n : Nat) (a : Kd) : List Int := KS.map fun b => cntA a b vs n
def colC (vs : List Int) (n : Nat) (b : Kd) : List Int := KS.map fun a => cntA a b vs n
theorem row_at (vs : List Int) (n : Nat) (a b : Kd) : atI ((rowC vs n a).map U.int) (ixK b) = some (.int (cntA a b vs n)) := by cases b <;> rfl
theorem tab_at (f : Kd → U) (a : Kd) : atI (KS.map f) (ixK a) = some (f a) := by cases a <;> rfl
theorem col_row {vs : List Int} (hv : vs.Nodup) (h : ∀ x ∈ vs, 1 ≤ x) {n : Nat} (n1 : 1 ≤ n) (b : Kd) : colC vs n b = rowC vs n b := List.map_congr_left fun a _ => cnt_sym a b hv h n1
def RU : List U := [.str "plain", .str "single", .str "next", .str "block", .str "later"]
theorem rng_KS : rangeU 0 5 = KS.map fun k => U.int (ixK k) := rfl
abbrev idxO (us : List U) (s : Str) (ρ : Env) : Option EO := (strsU us).bind fun ss => if s ∈ ss then some (.ok (.int (ss.idxOf s : Nat)) ρ) else none
def idxP (us : List U) (s : Str) (ρ : Env) : Option EO := idxO us s ρ
theorem idx_k (k : Kd) (ρ : Env) : idxP RU k.s ρ = some (.ok (.int (ixK k)) ρ) := by
  have e : strsU RU = some [("plain" : Str), "single", "next", "block", "later"] := rfl
  unfold idxP idxO
  rw [e, Option.bind_some]
  cases k <;> (rw [if_pos (by decide +kernel)]; rfl)
theorem mIdx_m (a b : ME K) (h1 h2) (ρ : Env) : (@mIdxL K a b h1 h2).m ρ = (bindE (a.m ρ) fun u ρ1 => match u with
    | .lst us => bindE (b.m ρ1) fun y ρ2 => match y with
      | .str s => idxP us s ρ2
      | _ => none
    | _ => none) := rfl
local macro_rules | `(tactic| trivial) => `(tactic| simp -implicitDefEqProofs (disch := omega) only [*, mC_m, mVar_m, mLook_m, mLet_m, mNil_m, msNil_m, msSeq_m, msAsgF_m, msDrop_m, msRet_m, msRetF_m, msRaise_m, msFor_m, mtYes_m, mLc_m, mcNil_m, mcCel_m, mCall_m, moNone_m, moSome_m, mSlL_m, mBi_m, mBiF_m, miList_m, miTup_m, miRng1_m, miEnum_m, miZip_m, mMeth_m, msSet_m, mCat_m, mRepeat_m, mChain_m, mIsi_m, mRev_m, mListRng_m, mCallF_m, msParVV_m, mMethD_m, mNew_m, mCMeth_m, mConC_m, msTry_m, mSup_m, okE_some, okE_none, opE_ok, opE_ex, opF_ok, opF_ex, mOp_e, mIx_e, unE_ok, mUn_e, coE_ok, coE_ex, coF_ok, coF_ex, mCons_e, bindAE_ok, bindAE_ex, mTup_e, tupF_e, mFr_e, lstF_ok, mLst_e, tsE_ok, tsE_ex, mTest_e, okT_some, truE_ok, truE_ex, mTru_e, anE_t, anE_f, anE_ok, orE_t, orE_f, orE_ok, mAnd_e, mOr_e, noE_ok, noE_ex, mNot_e, blV_ok, blV_ex, anV_t, anV_f, anV_ok, orV_t, orV_f, orV_ok, mAndV_e, mOrV_e, noV_ok, noV_ex, mNotV_e, ifV_t, ifV_f, ifV_ok, mIf_e, ifS_t, ifS_f, ifS_ok, ifS_ex, msIf_e, nxO_some, asE_ok, asE_ex, msAsg_e, gcE_some, mgCons_e, mgNil_e, mgTup_e, mgName_e, cvE_ok, cvE_ex, consC_ok, mcVal_e, thenS_nx, thenS_bk, thenS_ct, thenS_rt, thenS_ex, bindES_ok, bindES_ex, bindAS_ok, bindAS_ex, bindE_ok, bindE_ex, mfOf_e, mfOf0_e, noX_val, noX_cel, coM_some, fin_val, fin_cel, fin_nx, fin_ex, oAdd_i, oSub_i, oMul_l, oMul_r, oMod_i, oDiv_i, oPow_i, oLt_i, oLe_i, oGt_i, oGe_i, oEqI_i, oIx_l, oIx_f, oIx_t, at1_0, at2_0, at2_1, at3_0, at3_1, at3_2, at4_0, at4_1, at4_2, at4_3, ix3_0, ix3_1, ix3_2, oMax2_i, oMin2_i, oAbs_i, oInt_b, oLen_l, oLen_f, oLen_t, oNeg_i, truU_i, truU_l, truU_b, truU_n, lstU_l, lstU_f, oAppend_u, lstF_0, tupF_0, lstF_1, tupF_1, lstF_2, tupF_2, lstF_3, tupF_3, lstF_4, tupF_4, lstF_5, tupF_5, lstF_6, tupF_6, isi_NoneType_bool, isi_NoneType_int, isi_NoneType_str, isi_NoneType_list, isi_NoneType_tuple, isi_NoneType_dict, isi_bool_bool, isi_bool_int, isi_bool_str, isi_bool_list, isi_bool_tuple, isi_bool_dict, isi_int_bool, isi_int_int, isi_int_str, isi_int_list, isi_int_tuple, isi_int_dict, isi_str_bool, isi_str_int, isi_str_str, isi_str_list, isi_str_tuple, isi_str_dict, isi_list_bool, isi_list_int, isi_list_str, isi_list_list, isi_list_tuple, isi_list_dict, isi_tuple_bool, isi_tuple_int, isi_tuple_str, isi_tuple_list, isi_tuple_tuple, isi_tuple_dict, isi_dict_bool, isi_dict_int, isi_dict_str, isi_dict_list, isi_dict_tuple, isi_dict_dict, tyU_n, tyU_b, tyU_i, tyU_s, tyU_l, tyU_t, rngOk_i, zipU_map, intsU_map, blsU_map, oAll_l, oSum_l, cutU_1, cutU_m1, drop_map, reverse_map, length_map', dropLast_map, oEq_i, oNe_i, oEq_b, oNe_b, oEq_nn, oNe_nn, oEq_tt, oNe_tt, oEq_tn, oNe_tn, oEq_nt, oNe_nt, oEq_pp, oNe_pp, oEq_ii, oNe_ii, List.zip_cons_cons, List.zip_nil_left, mCallF_m, oMul_s, oPowX_i, mMakeS_m, mMakeL_m, mFld_m, mProp_m, mnSeq_m, mnS_m, mnF_m, at0_e, allX_const, seqU_l, seqU_f, seqU_t, pm_nil, pm_cons, List.mem_singleton, and_self, scV_b, scV_i, scV_s, scV_n, Option.isSome_some, tyU_d, mgTup_2, mgTup_3, mgTup_4, or_false, false_or, or_self, or_true, true_or, Nat.reduceBEq, bindEA_ok, bindEA_ex, unown, kills, cellAt, List.map_cons, List.map_nil, List.length_cons, List.length_nil, List.cons_append, List.nil_append, List.replicate, List.getElem?_cons_succ, List.getElem?_cons_zero, List.set_cons_zero, List.set_cons_succ, Option.map_some, Option.map_none, Option.bind_some, Option.bind_none, Nat.reduceAdd, Nat.reduceSub, Nat.reduceLeDiff, Int.reduceLT, Int.reduceLE, Int.reduceNeg, Int.reduceToNat, Int.reducePow, decide_eq_true_eq, reduceIte, eq_self, ite_true, ite_false, Bool.false_eq_true, reduceCtorEq, resolve, celJ, nCel, Slot.isC, List.filter, putJ, callM, callMF, List.append_eq, Nat.reduceLT, Int.reduceMul, Int.reduceAdd, Int.reduceSub, ne_eq, not_true_eq_false, not_false_eq_true, Bool.not_false, Bool.not_true, decide_true, decide_false, frF, Int.cast_ofNat_Int, Bool.and_true, Bool.true_and, Bool.false_and, Bool.and_false, Bool.or_false, Bool.false_or, Bool.true_or, Bool.or_true, oList_l, oLen_l, snl_n, Option.getD_none, Option.getD_some, mIdx_m])
local macro_rules | `(tactic| ac_rfl) => `(tactic| (simp -implicitDefEqProofs (disch := omega) only [*, mC_m, mVar_m, mLook_m, mLet_m, mNil_m, msNil_m, msSeq_m, msAsgF_m, msDrop_m, msRet_m, msRetF_m, msRaise_m, msFor_m, mtYes_m, mLc_m, mcNil_m, mcCel_m, mCall_m, moNone_m, moSome_m, mSlL_m, mBi_m, mBiF_m, miList_m, miTup_m, miRng1_m, miEnum_m, miZip_m, mMeth_m, msSet_m, mCat_m, mRepeat_m, mChain_m, mIsi_m, mRev_m, mListRng_m, mCallF_m, msParVV_m, mMethD_m, mNew_m, mCMeth_m, mConC_m, msTry_m, mSup_m, okE_some, okE_none, opE_ok, opE_ex, opF_ok, opF_ex, mOp_e, mIx_e, unE_ok, mUn_e, coE_ok, coE_ex, coF_ok, coF_ex, mCons_e, bindAE_ok, bindAE_ex, mTup_e, tupF_e, mFr_e, lstF_ok, mLst_e, tsE_ok, tsE_ex, mTest_e, okT_some, truE_ok, truE_ex, mTru_e, anE_t, anE_f, anE_ok, orE_t, orE_f, orE_ok, mAnd_e, mOr_e, noE_ok, noE_ex, mNot_e, blV_ok, blV_ex, anV_t, anV_f, anV_ok, orV_t, orV_f, orV_ok, mAndV_e, mOrV_e, noV_ok, noV_ex, mNotV_e, ifV_t, ifV_f, ifV_ok, mIf_e, ifS_t, ifS_f, ifS_ok, ifS_ex, msIf_e, nxO_some, asE_ok, asE_ex, msAsg_e, gcE_some, mgCons_e, mgNil_e, mgTup_e, mgName_e, cvE_ok, cvE_ex, consC_ok, mcVal_e, thenS_nx, thenS_bk, thenS_ct, thenS_rt, thenS_ex, bindES_ok, bindES_ex, bindAS_ok, bindAS_ex, bindE_ok, bindE_ex, mfOf_e, mfOf0_e, noX_val, noX_cel, coM_some, fin_val, fin_cel, fin_nx, fin_ex, oAdd_i, oSub_i, oMul_l, oMul_r, oMod_i, oDiv_i, oPow_i, oLt_i, oLe_i, oGt_i, oGe_i, oEqI_i, oIx_l, oIx_f, oIx_t, at1_0, at2_0, at2_1, at3_0, at3_1, at3_2, at4_0, at4_1, at4_2, at4_3, ix3_0, ix3_1, ix3_2, oMax2_i, oMin2_i, oAbs_i, oInt_b, oLen_l, oLen_f, oLen_t, oNeg_i, truU_i, truU_l, truU_b, truU_n, lstU_l, lstU_f, oAppend_u, lstF_0, tupF_0, lstF_1, tupF_1, lstF_2, tupF_2, lstF_3, tupF_3, lstF_4, tupF_4, lstF_5, tupF_5, lstF_6, tupF_6, isi_NoneType_bool, isi_NoneType_int, isi_NoneType_str, isi_NoneType_list, isi_NoneType_tuple, isi_NoneType_dict, isi_bool_bool, isi_bool_int, isi_bool_str, isi_bool_list, isi_bool_tuple, isi_bool_dict, isi_int_bool, isi_int_int, isi_int_str, isi_int_list, isi_int_tuple, isi_int_dict, isi_str_bool, isi_str_int, isi_str_str, isi_str_list, isi_str_tuple, isi_str_dict, isi_list_bool, isi_list_int, isi_list_str, isi_list_list, isi_list_tuple, isi_list_dict, isi_tuple_bool, isi_tuple_int, isi_tuple_str, isi_tuple_list, isi_tuple_tuple, isi_tuple_dict, isi_dict_bool, isi_dict_int, isi_dict_str, isi_dict_list, isi_dict_tuple, isi_dict_dict, tyU_n, tyU_b, tyU_i, tyU_s, tyU_l, tyU_t, rngOk_i, zipU_map, intsU_map, blsU_map, oAll_l, oSum_l, cutU_1, cutU_m1, drop_map, reverse_map, length_map', dropLast_map, oEq_i, oNe_i, oEq_b, oNe_b, oEq_nn, oNe_nn, oEq_tt, oNe_tt, oEq_tn, oNe_tn, oEq_nt, oNe_nt, oEq_pp, oNe_pp, oEq_ii, oNe_ii, List.zip_cons_cons, List.zip_nil_left, mCallF_m, oMul_s, oPowX_i, mMakeS_m, mMakeL_m, mFld_m, mProp_m, mnSeq_m, mnS_m, mnF_m, at0_e, allX_const, seqU_l, seqU_f, seqU_t, pm_nil, pm_cons, List.mem_singleton, and_self, scV_b, scV_i, scV_s, scV_n, Option.isSome_some, tyU_d, mgTup_2, mgTup_3, mgTup_4, or_false, false_or, or_self, or_true, true_or, Nat.reduceBEq, bindEA_ok, bindEA_ex, unown, kills, cellAt, List.map_cons, List.map_nil, List.length_cons, List.length_nil, List.cons_append, List.nil_append, List.replicate, List.getElem?_cons_succ, List.getElem?_cons_zero, List.set_cons_zero, List.set_cons_succ, Option.map_some, Option.map_none, Option.bind_some, Option.bind_none, Nat.reduceAdd, Nat.reduceSub, Nat.reduceLeDiff, Int.reduceLT, Int.reduceLE, Int.reduceNeg, Int.reduceToNat, Int.reducePow, decide_eq_true_eq, reduceIte, eq_self, ite_true, ite_false, Bool.false_eq_true, reduceCtorEq, resolve, celJ, nCel, Slot.isC, List.filter, putJ, callM, callMF, List.append_eq, Nat.reduceLT, Int.reduceMul, Int.reduceAdd, Int.reduceSub, ne_eq, not_true_eq_false, not_false_eq_true, Bool.not_false, Bool.not_true, decide_true, decide_false, frF, Int.cast_ofNat_Int, Bool.and_true, Bool.true_and, Bool.false_and, Bool.and_false, Bool.or_false, Bool.false_or, Bool.true_or, Bool.or_true, G__law_all_rows_0, T__law_all_rows_1, E__law_all_rows_2, G__law_all_rows_3, G__law_all_rows_5, G__law_runs_0, G_is_run_0, T_is_run_1, E_is_run_2, G_are_runs_0, T_are_runs_1, E_are_runs_2, G_are_runs_3, T_are_runs_4, E_are_runs_5, G_Plain_signs_0, T_Plain_signs_1, E_Plain_signs_2, G_Next_signs_0, G_Single_signs_0, G_Block_signs_0, G_Later_signs_0, G_signs_of_0, T_signs_of_1, E_signs_of_2, G_value_of_0, T_value_of_1, E_value_of_2, G_are_values_0, T_are_values_1, E_are_values_2, G_are_values_3, T_are_values_4, E_are_values_5, G_count_agreeing_0, T_count_agreeing_1, E_count_agreeing_2, E_count_agreeing_3, G_count_agreeing_4, G_count_agreeing_6, G_count_agreeing_8, G__law_right_0, T__law_right_1, E__law_right_2, G__law_right_3, T__law_right_4, E__law_right_5, G__law_right_6, T__law_right_7, E__law_right_8, G__law_right_9, T__law_right_10, E__law_right_11, G__law_right_12, G__law_right_14, T__law_right_15, E__law_right_16, G__law_right_17, G__law_values_0, T__law_values_1, E__law_values_2, G_law_0, oList_l, oLen_l, snl_n, Option.getD_none, Option.getD_some, mIdx_m]; try rfl))
theorem r_inner (V0 V5 V6 : Slot) (vs : List Int) (h : ValsOk vs) (n : Nat) (n1 : 1 ≤ n) (n5 : n ≤ 5) (a : Kd) : lcM (G__law_right_0 K).m (T__law_right_1 K).m (E__law_right_2 K).m [8] RU [] [V0, .val (.lst (vs.map U.int)), .val (.int n), .val (.lst RU), .non, V5, V6, .val (.str a.s), .non, .non, .non, .non, .non, .non] =
    some (.ok ((rowC vs n a).map U.int) [V0, .val (.lst (vs.map U.int)), .val (.int n), .val (.lst RU), .non, V5, V6, .val (.str a.s), .non, .non, .non, .non, .non, .non]) := by
  have eo := of_k (K := K) vs a h
  have z := fun RR => lcM_all (g := (G__law_right_0 K).m) (tt := (T__law_right_1 K).m) (e := (E__law_right_2 K).m) (vs := [8]) (ρ := [V0, .val (.lst (vs.map U.int)), .val (.int n), .val (.lst RR), .non, V5, V6, .val (.str a.s), .non, .non, .non, .non, .non, .non]) (fun k : Kd => U.str k.s) (fun b => U.int (cntA a b vs n)) KS (by decide) fun b _ => by
    have ck := count_k (K := K) vs a b h n n1 n5
    clear h n1 n5
    generalize sysU vs a = S at *
    generalize vs.map U.int = M at *
    generalize a.s = as at *
    generalize b.s = bs at *
    generalize cntA a b vs n = c at *
    exact ⟨_, _, _, (by ac_rfl), (by ac_rfl), (by ac_rfl), rfl⟩
  unfold rowC
  rw [List.map_map]
  exact z RU
theorem r_outer (V0 V5 V6 : Slot) (vs : List Int) (h : ValsOk vs) (n : Nat) (n1 : 1 ≤ n) (n5 : n ≤ 5) : lcM (G__law_right_3 K).m (T__law_right_4 K).m (E__law_right_5 K).m [7] RU [] [V0, .val (.lst (vs.map U.int)), .val (.int n), .val (.lst RU), .non, V5, V6, .non, .non, .non, .non, .non, .non, .non] =
    some (.ok (KS.map fun a => U.lst ((rowC vs n a).map U.int)) [V0, .val (.lst (vs.map U.int)), .val (.int n), .val (.lst RU), .non, V5, V6, .non, .non, .non, .non, .non, .non, .non]) := by
  have z := lcM_all (g := (G__law_right_3 K).m) (tt := (T__law_right_4 K).m) (e := (E__law_right_5 K).m) (vs := [7]) (ρ := [V0, .val (.lst (vs.map U.int)), .val (.int n), .val (.lst RU), .non, V5, V6, .non, .non, .non, .non, .non, .non, .non]) (fun k : Kd => U.str k.s) (fun a => U.lst ((rowC vs n a).map U.int)) KS (by decide) fun a _ => by
    have e := r_inner (K := K) V0 V5 V6 vs h n n1 n5 a
    clear h n1 n5
    generalize (rowC vs n a).map U.int = R at *
    generalize vs.map U.int = M at *
    generalize a.s = as at *
    generalize RU = RR at *
    have eE : (E__law_right_5 K).m [V0, .val (.lst M), .val (.int n), .val (.lst RR), .non, V5, V6, .val (.str as), .non, .non, .non, .non, .non, .non] = some (.ok (.lst R) [V0, .val (.lst M), .val (.int n), .val (.lst RR), .non, V5, V6, .val (.str as), .non, .non, .non, .non, .non, .non]) := by
      unfold E__law_right_5
      trivial
    exact ⟨_, _, _, (by ac_rfl), (by ac_rfl), eE, rfl⟩
  exact z
theorem r_tin (V0 V1 V2 V3 V5 V6 V7 V8 V9 V10 : Slot) (vs : List Int) (n : Nat) (b : Kd) (TU : U) : lcM (G__law_right_6 K).m (T__law_right_7 K).m (E__law_right_8 K).m [11] (KS.map fun a => U.lst ((rowC vs n a).map U.int)) [] [V0, V1, V2, V3, .val TU, V5, V6, V7, V8, V9, V10, .non, .non, .val (.int (ixK b))] =
    some (.ok ((colC vs n b).map U.int) [V0, V1, V2, V3, .val TU, V5, V6, V7, V8, V9, V10, .non, .non, .val (.int (ixK b))]) := by
  unfold colC
  rw [List.map_map]
  exact lcM_all (g := (G__law_right_6 K).m) (tt := (T__law_right_7 K).m) (e := (E__law_right_8 K).m) (vs := [11]) (ρ := [V0, V1, V2, V3, .val TU, V5, V6, V7, V8, V9, V10, .non, .non, .val (.int (ixK b))]) (fun a => U.lst ((rowC vs n a).map U.int)) (fun a => U.int (cntA a b vs n)) KS (by decide) fun a _ => by
    have e := row_at vs n a b
    generalize (rowC vs n a).map U.int = R at *
    generalize ixK b = i at *
    generalize cntA a b vs n = c at *
    exact ⟨_, _, _, (by ac_rfl), (by ac_rfl), (by ac_rfl), rfl⟩
theorem r_tout (V0 V1 V2 V3 V5 V6 V7 V8 V9 V10 : Slot) (vs : List Int) (n : Nat) : lcM (G__law_right_9 K).m (T__law_right_10 K).m (E__law_right_11 K).m [13] (rangeU 0 5) [] [V0, V1, V2, V3, .val (.lst (KS.map fun a => U.lst ((rowC vs n a).map U.int))), V5, V6, V7, V8, V9, V10, .non, .non, .non] =
    some (.ok (KS.map fun b => U.lst ((colC vs n b).map U.int)) [V0, V1, V2, V3, .val (.lst (KS.map fun a => U.lst ((rowC vs n a).map U.int))), V5, V6, V7, V8, V9, V10, .non, .non, .non]) := by
  rw [rng_KS]
  exact lcM_all (g := (G__law_right_9 K).m) (tt := (T__law_right_10 K).m) (e := (E__law_right_11 K).m) (vs := [13]) (ρ := [V0, V1, V2, V3, .val (.lst (KS.map fun a => U.lst ((rowC vs n a).map U.int))), V5, V6, V7, V8, V9, V10, .non, .non, .non]) (fun b => U.int (ixK b)) (fun b => U.lst ((colC vs n b).map U.int)) KS (by decide) fun b _ => by
    have e := r_tin (K := K) V0 V1 V2 V3 V5 V6 V7 V8 V9 V10 vs n b (.lst (KS.map fun a => U.lst ((rowC vs n a).map U.int)))
    generalize (KS.map fun a => U.lst ((rowC vs n a).map U.int)) = T at *
    generalize (colC vs n b).map U.int = C at *
    generalize ixK b = i at *
    have eE : (E__law_right_11 K).m [V0, V1, V2, V3, .val (.lst T), V5, V6, V7, V8, V9, V10, .non, .non, .val (.int i)] = some (.ok (.lst C) [V0, V1, V2, V3, .val (.lst T), V5, V6, V7, V8, V9, V10, .non, .non, .val (.int i)]) := by
      unfold E__law_right_11
      trivial
    exact ⟨_, _, _, (by ac_rfl), (by ac_rfl), eE, rfl⟩
theorem r_diag (V0 V1 V2 V3 V5 V6 V7 V8 V9 V10 : Slot) (vs : List Int) (n : Nat) : lcM (G__law_right_14 K).m (T__law_right_15 K).m (E__law_right_16 K).m [13] [.int 0, .int 2, .int 3, .int 4] [] [V0, V1, V2, V3, .val (.lst (KS.map fun a => U.lst ((rowC vs n a).map U.int))), V5, V6, V7, V8, V9, V10, .non, .non, .non] =
    some (.ok ([Kd.plain, .next, .block, .later].map fun k => U.int (cntA k k vs n)) [V0, V1, V2, V3, .val (.lst (KS.map fun a => U.lst ((rowC vs n a).map U.int))), V5, V6, V7, V8, V9, V10, .non, .non, .non]) :=
  lcM_all (g := (G__law_right_14 K).m) (tt := (T__law_right_15 K).m) (e := (E__law_right_16 K).m) (vs := [13]) (ρ := [V0, V1, V2, V3, .val (.lst (KS.map fun a => U.lst ((rowC vs n a).map U.int))), V5, V6, V7, V8, V9, V10, .non, .non, .non]) (fun k => U.int (ixK k)) (fun k => U.int (cntA k k vs n)) [Kd.plain, .next, .block, .later] (by decide) fun k _ => by
    have e1 := tab_at (fun a => U.lst ((rowC vs n a).map U.int)) k
    have e2 := row_at vs n k k
    generalize (rowC vs n k).map U.int = R at *
    generalize (KS.map fun a => U.lst ((rowC vs n a).map U.int)) = T at *
    generalize ixK k = i at *
    generalize cntA k k vs n = c at *
    exact ⟨_, _, _, (by ac_rfl), (by ac_rfl), (by ac_rfl), rfl⟩
theorem r_whole (V0 V2 V3 V4 V7 V8 V9 V10 V11 V12 V13 : Slot) (vs : List Int) (h6 : vs.length ≤ 4) : ∀ (us : List U) (m : Nat), m + us.length ≤ 4 →
    loopM (G__law_right_12 K).m (B__law_right_13 K).m [6] us [V0, .val (.lst (vs.map U.int)), V2, V3, V4, .val (.int ((vs.length ^ m : Nat) : Int)), .non, V7, V8, V9, V10, V11, V12, V13] = some (.nx [V0, .val (.lst (vs.map U.int)), V2, V3, V4, .val (.int ((vs.length ^ (m + us.length) : Nat) : Int)), .non, V7, V8, V9, V10, V11, V12, V13])
  | [], m, _ => rfl
  | u :: us, m, hm => by
    rw [List.length_cons] at hm
    have b : vs.length ^ m ≤ 4 ^ 4 := Nat.le_trans (Nat.pow_le_pow_left h6 m) (Nat.pow_le_pow_right (by omega) (by omega))
    have em : (oMul (K := K)).f (.int ((vs.length ^ m : Nat) : Int)) (.int (((vs.map U.int).length : Nat) : Int)) = some (.int ((vs.length ^ (m + 1) : Nat) : Int)) := by
      rw [oMul_l _ _ (by omega) (by omega), List.length_map, Nat.pow_succ, Int.natCast_mul]
    have ih := r_whole V0 V2 V3 V4 V7 V8 V9 V10 V11 V12 V13 vs h6 us (m + 1) (by omega)
    have st : (B__law_right_13 K).m [V0, .val (.lst (vs.map U.int)), V2, V3, V4, .val (.int ((vs.length ^ m : Nat) : Int)), .val u, V7, V8, V9, V10, V11, V12, V13] = some (.nx [V0, .val (.lst (vs.map U.int)), V2, V3, V4, .val (.int ((vs.length ^ (m + 1) : Nat) : Int)), .val u, V7, V8, V9, V10, V11, V12, V13]) := by
      clear ih b hm
      generalize ((vs.length ^ (m + 1) : Nat) : Int) = w1 at *
      generalize ((vs.length ^ m : Nat) : Int) = w at *
      generalize vs.map U.int = M at *
      unfold B__law_right_13
      trivial
    unfold loopM
    rw [show (G__law_right_12 K).m u [V0, .val (.lst (vs.map U.int)), V2, V3, V4, .val (.int ((vs.length ^ m : Nat) : Int)), .non, V7, V8, V9, V10, V11, V12, V13] = some [V0, .val (.lst (vs.map U.int)), V2, V3, V4, .val (.int ((vs.length ^ m : Nat) : Int)), .val u, V7, V8, V9, V10, V11, V12, V13] from rfl]
    dsimp only
    rw [st]
    rw [List.length_cons, show m + (us.length + 1) = m + 1 + us.length from by omega]
    exact ih
theorem r_row (V0 V1 V2 V3 V4 V5 V6 V7 V13 : Slot) (vs : List Int) (a b : Kd) (h : ValsOk vs) (m : Int) (l : List Int) (hl : ∀ x ∈ l, x ∈ vs) (l1 : 1 ≤ l.length) (l2 : l.length ≤ 100) :
    ∃ y, (B__law_right_18 K).m [V0, V1, V2, V3, V4, V5, V6, V7, .val (.str b.s), .val (sysU vs a), .val (.int m), .val (llU l), .non, V13] = some (.nx [V0, V1, V2, V3, V4, V5, V6, V7, .val (.str b.s), .val (sysU vs a), .val (.int (m + iv (okW a b l))), .val (llU l), y, V13]) := by
  have w := rn_in h.bd hl l1 l2
  have er := runs_k (K := K) l (by omega)
  have ew := is_word_k (K := K) vs a (rn l) w
  have ok := word_okW (a := a) (b := b) (l := l) fun x hx => (h.bd x (hl x hx)).1
  refine ⟨.val (.lst ((rn l).map pU)), ?_⟩
  unfold llU
  cases hs : (signsN a (rn l)).isSome
  · rw [hs] at ew ok
    have : okW a b l = false := by rw [← ok]; rfl
    rw [this, show m + iv false = m from Int.add_zero m]
    clear w ok this hs hl l1 l2 h
    generalize (rn l).map pU = R at *
    generalize l.map U.int = L at *
    generalize sysU vs a = S at *
    generalize b.s = bs at *
    unfold B__law_right_18
    trivial
  · rw [hs] at ew ok
    have ea := agree_k (K := K) vs a b (rn l) h w (fun z => by rw [z] at hs; cases hs)
    have : okW a b l = agreeB a b (rn l) := by rw [← ok]; rfl
    rw [this]
    clear w ok this hs hl l1 l2 h
    generalize (rn l).map pU = R at *
    generalize l.map U.int = L at *
    generalize sysU vs a = S at *
    generalize b.s = bs at *
    cases hb : agreeB a b (rn l)
    · rw [hb] at ea
      rw [show m + iv false = m from Int.add_zero m]
      clear hb
      unfold B__law_right_18
      trivial
    · rw [hb] at ea
      rw [show m + iv true = m + 1 from rfl]
      clear hb
      unfold B__law_right_18
      trivial
theorem r_rows (V0 V1 V2 V3 V4 V5 V6 V7 V13 : Slot) (vs : List Int) (a b : Kd) (h : ValsOk vs) : ∀ (E : List (List Int)) (m : Int), (∀ l ∈ E, (∀ x ∈ l, x ∈ vs) ∧ 1 ≤ l.length ∧ l.length ≤ 100) →
    loopM (G__law_right_17 K).m (B__law_right_18 K).m [11, 12] (E.map llU) [V0, V1, V2, V3, V4, V5, V6, V7, .val (.str b.s), .val (sysU vs a), .val (.int m), .non, .non, V13] = some (.nx [V0, V1, V2, V3, V4, V5, V6, V7, .val (.str b.s), .val (sysU vs a), .val (.int (m + (E.map fun l => iv (okW a b l)).sum)), .non, .non, V13])
  | [], m, _ => by
    show some (SO.nx [_, _, _, _, _, _, _, _, _, _, .val (.int m), _, _, _]) = some (SO.nx [_, _, _, _, _, _, _, _, _, _, .val (.int (m + 0)), _, _, _])
    rw [Int.add_zero]
  | l :: E, m, hE => by
    obtain ⟨h1, h2, h3⟩ := hE l List.mem_cons_self
    obtain ⟨y, st⟩ := r_row (K := K) V0 V1 V2 V3 V4 V5 V6 V7 V13 vs a b h m l h1 h2 h3
    have ih := r_rows V0 V1 V2 V3 V4 V5 V6 V7 V13 vs a b h E (m + iv (okW a b l)) fun x hx => hE x (List.mem_cons_of_mem _ hx)
    rw [List.map_cons, List.map_cons, List.sum_cons, ← Int.add_assoc]
    unfold loopM
    rw [show (G__law_right_17 K).m (llU l) [V0, V1, V2, V3, V4, V5, V6, V7, .val (.str b.s), .val (sysU vs a), .val (.int m), .non, .non, V13] = some [V0, V1, V2, V3, V4, V5, V6, V7, .val (.str b.s), .val (sysU vs a), .val (.int m), .val (llU l), .non, V13] from rfl]
    dsimp only
    rw [st]
    exact ih
end Sg
set_option Elab.async false
set_option linter.all false
set_option maxRecDepth 100000
set_option maxHeartbeats 1000000
namespace Sg
open PySem L2
variable {K : PySem.W.Frag}
theorem asc_pw : ∀ l : List Int, (∀ p ∈ l.zip (l.drop 1), p.1 < p.2) → l.Pairwise (· < ·)
  | [], _ => .nil
  | [x], _ => List.pairwise_singleton ..
  | x :: y :: r, h => by
    have ih := asc_pw (y :: r) fun p hp => h p (List.mem_cons_of_mem _ hp)
    have hxy : x < y := h (x, y) List.mem_cons_self
    refine List.pairwise_cons.mpr ⟨fun z hz => ?_, ih⟩
    rcases List.mem_cons.mp hz with e | e
    · rw [e]; exact hxy
    · have := (List.pairwise_cons.mp ih).1 z e
      omega
theorem idxK_at (d : Int) (h0 : 0 ≤ d) (h1 : d < 5) : ∃ k : Kd, atI RU d = some (.str k.s) := by
  have : d = 0 ∨ d = 1 ∨ d = 2 ∨ d = 3 ∨ d = 4 := by omega
  rcases this with rfl | rfl | rfl | rfl | rfl
  · exact ⟨.plain, rfl⟩
  · exact ⟨.single, rfl⟩
  · exact ⟨.next, rfl⟩
  · exact ⟨.block, rfl⟩
  · exact ⟨.later, rfl⟩
local macro_rules | `(tactic| trivial) => `(tactic| simp -implicitDefEqProofs (disch := omega) only [*, mC_m, mVar_m, mLook_m, mLet_m, mNil_m, msNil_m, msSeq_m, msAsgF_m, msDrop_m, msRet_m, msRetF_m, msRaise_m, msFor_m, mtYes_m, mLc_m, mcNil_m, mcCel_m, mCall_m, moNone_m, moSome_m, mSlL_m, mBi_m, mBiF_m, miList_m, miTup_m, miRng1_m, miEnum_m, miZip_m, mMeth_m, msSet_m, mCat_m, mRepeat_m, mChain_m, mIsi_m, mRev_m, mListRng_m, mCallF_m, msParVV_m, mMethD_m, mNew_m, mCMeth_m, mConC_m, msTry_m, mSup_m, okE_some, okE_none, opE_ok, opE_ex, opF_ok, opF_ex, mOp_e, mIx_e, unE_ok, mUn_e, coE_ok, coE_ex, coF_ok, coF_ex, mCons_e, bindAE_ok, bindAE_ex, mTup_e, tupF_e, mFr_e, lstF_ok, mLst_e, tsE_ok, tsE_ex, mTest_e, okT_some, truE_ok, truE_ex, mTru_e, anE_t, anE_f, anE_ok, orE_t, orE_f, orE_ok, mAnd_e, mOr_e, noE_ok, noE_ex, mNot_e, blV_ok, blV_ex, anV_t, anV_f, anV_ok, orV_t, orV_f, orV_ok, mAndV_e, mOrV_e, noV_ok, noV_ex, mNotV_e, ifV_t, ifV_f, ifV_ok, mIf_e, ifS_t, ifS_f, ifS_ok, ifS_ex, msIf_e, nxO_some, asE_ok, asE_ex, msAsg_e, gcE_some, mgCons_e, mgNil_e, mgTup_e, mgName_e, cvE_ok, cvE_ex, consC_ok, mcVal_e, thenS_nx, thenS_bk, thenS_ct, thenS_rt, thenS_ex, bindES_ok, bindES_ex, bindAS_ok, bindAS_ex, bindE_ok, bindE_ex, mfOf_e, mfOf0_e, noX_val, noX_cel, coM_some, fin_val, fin_cel, fin_nx, fin_ex, oAdd_i, oSub_i, oMul_l, oMul_r, oMod_i, oDiv_i, oPow_i, oLt_i, oLe_i, oGt_i, oGe_i, oEqI_i, oIx_l, oIx_f, oIx_t, at1_0, at2_0, at2_1, at3_0, at3_1, at3_2, at4_0, at4_1, at4_2, at4_3, ix3_0, ix3_1, ix3_2, oMax2_i, oMin2_i, oAbs_i, oInt_b, oLen_l, oLen_f, oLen_t, oNeg_i, truU_i, truU_l, truU_b, truU_n, lstU_l, lstU_f, oAppend_u, lstF_0, tupF_0, lstF_1, tupF_1, lstF_2, tupF_2, lstF_3, tupF_3, lstF_4, tupF_4, lstF_5, tupF_5, lstF_6, tupF_6, isi_NoneType_bool, isi_NoneType_int, isi_NoneType_str, isi_NoneType_list, isi_NoneType_tuple, isi_NoneType_dict, isi_bool_bool, isi_bool_int, isi_bool_str, isi_bool_list, isi_bool_tuple, isi_bool_dict, isi_int_bool, isi_int_int, isi_int_str, isi_int_list, isi_int_tuple, isi_int_dict, isi_str_bool, isi_str_int, isi_str_str, isi_str_list, isi_str_tuple, isi_str_dict, isi_list_bool, isi_list_int, isi_list_str, isi_list_list, isi_list_tuple, isi_list_dict, isi_tuple_bool, isi_tuple_int, isi_tuple_str, isi_tuple_list, isi_tuple_tuple, isi_tuple_dict, isi_dict_bool, isi_dict_int, isi_dict_str, isi_dict_list, isi_dict_tuple, isi_dict_dict, tyU_n, tyU_b, tyU_i, tyU_s, tyU_l, tyU_t, rngOk_i, zipU_map, intsU_map, blsU_map, oAll_l, oSum_l, cutU_1, cutU_m1, drop_map, reverse_map, length_map', dropLast_map, oEq_i, oNe_i, oEq_b, oNe_b, oEq_nn, oNe_nn, oEq_tt, oNe_tt, oEq_tn, oNe_tn, oEq_nt, oNe_nt, oEq_pp, oNe_pp, oEq_ii, oNe_ii, List.zip_cons_cons, List.zip_nil_left, mCallF_m, oMul_s, oPowX_i, mMakeS_m, mMakeL_m, mFld_m, mProp_m, mnSeq_m, mnS_m, mnF_m, at0_e, allX_const, seqU_l, seqU_f, seqU_t, pm_nil, pm_cons, List.mem_singleton, and_self, scV_b, scV_i, scV_s, scV_n, Option.isSome_some, tyU_d, mgTup_2, mgTup_3, mgTup_4, or_false, false_or, or_self, or_true, true_or, Nat.reduceBEq, bindEA_ok, bindEA_ex, unown, kills, cellAt, List.map_cons, List.map_nil, List.length_cons, List.length_nil, List.cons_append, List.nil_append, List.replicate, List.getElem?_cons_succ, List.getElem?_cons_zero, List.set_cons_zero, List.set_cons_succ, Option.map_some, Option.map_none, Option.bind_some, Option.bind_none, Nat.reduceAdd, Nat.reduceSub, Nat.reduceLeDiff, Int.reduceLT, Int.reduceLE, Int.reduceNeg, Int.reduceToNat, Int.reducePow, decide_eq_true_eq, reduceIte, eq_self, ite_true, ite_false, Bool.false_eq_true, reduceCtorEq, resolve, celJ, nCel, Slot.isC, List.filter, putJ, callM, callMF, List.append_eq, Nat.reduceLT, Int.reduceMul, Int.reduceAdd, Int.reduceSub, ne_eq, not_true_eq_false, not_false_eq_true, Bool.not_false, Bool.not_true, decide_true, decide_false, frF, Int.cast_ofNat_Int, Bool.and_true, Bool.true_and, Bool.false_and, Bool.and_false, Bool.or_false, Bool.false_or, Bool.true_or, Bool.or_true, oList_l, oLen_l, snl_n, Option.getD_none, Option.getD_some, mIdx_m, mRepeat_m])
local macro_rules | `(tactic| ac_rfl) => `(tactic| (simp -implicitDefEqProofs (disch := omega) only [*, mC_m, mVar_m, mLook_m, mLet_m, mNil_m, msNil_m, msSeq_m, msAsgF_m, msDrop_m, msRet_m, msRetF_m, msRaise_m, msFor_m, mtYes_m, mLc_m, mcNil_m, mcCel_m, mCall_m, moNone_m, moSome_m, mSlL_m, mBi_m, mBiF_m, miList_m, miTup_m, miRng1_m, miEnum_m, miZip_m, mMeth_m, msSet_m, mCat_m, mRepeat_m, mChain_m, mIsi_m, mRev_m, mListRng_m, mCallF_m, msParVV_m, mMethD_m, mNew_m, mCMeth_m, mConC_m, msTry_m, mSup_m, okE_some, okE_none, opE_ok, opE_ex, opF_ok, opF_ex, mOp_e, mIx_e, unE_ok, mUn_e, coE_ok, coE_ex, coF_ok, coF_ex, mCons_e, bindAE_ok, bindAE_ex, mTup_e, tupF_e, mFr_e, lstF_ok, mLst_e, tsE_ok, tsE_ex, mTest_e, okT_some, truE_ok, truE_ex, mTru_e, anE_t, anE_f, anE_ok, orE_t, orE_f, orE_ok, mAnd_e, mOr_e, noE_ok, noE_ex, mNot_e, blV_ok, blV_ex, anV_t, anV_f, anV_ok, orV_t, orV_f, orV_ok, mAndV_e, mOrV_e, noV_ok, noV_ex, mNotV_e, ifV_t, ifV_f, ifV_ok, mIf_e, ifS_t, ifS_f, ifS_ok, ifS_ex, msIf_e, nxO_some, asE_ok, asE_ex, msAsg_e, gcE_some, mgCons_e, mgNil_e, mgTup_e, mgName_e, cvE_ok, cvE_ex, consC_ok, mcVal_e, thenS_nx, thenS_bk, thenS_ct, thenS_rt, thenS_ex, bindES_ok, bindES_ex, bindAS_ok, bindAS_ex, bindE_ok, bindE_ex, mfOf_e, mfOf0_e, noX_val, noX_cel, coM_some, fin_val, fin_cel, fin_nx, fin_ex, oAdd_i, oSub_i, oMul_l, oMul_r, oMod_i, oDiv_i, oPow_i, oLt_i, oLe_i, oGt_i, oGe_i, oEqI_i, oIx_l, oIx_f, oIx_t, at1_0, at2_0, at2_1, at3_0, at3_1, at3_2, at4_0, at4_1, at4_2, at4_3, ix3_0, ix3_1, ix3_2, oMax2_i, oMin2_i, oAbs_i, oInt_b, oLen_l, oLen_f, oLen_t, oNeg_i, truU_i, truU_l, truU_b, truU_n, lstU_l, lstU_f, oAppend_u, lstF_0, tupF_0, lstF_1, tupF_1, lstF_2, tupF_2, lstF_3, tupF_3, lstF_4, tupF_4, lstF_5, tupF_5, lstF_6, tupF_6, isi_NoneType_bool, isi_NoneType_int, isi_NoneType_str, isi_NoneType_list, isi_NoneType_tuple, isi_NoneType_dict, isi_bool_bool, isi_bool_int, isi_bool_str, isi_bool_list, isi_bool_tuple, isi_bool_dict, isi_int_bool, isi_int_int, isi_int_str, isi_int_list, isi_int_tuple, isi_int_dict, isi_str_bool, isi_str_int, isi_str_str, isi_str_list, isi_str_tuple, isi_str_dict, isi_list_bool, isi_list_int, isi_list_str, isi_list_list, isi_list_tuple, isi_list_dict, isi_tuple_bool, isi_tuple_int, isi_tuple_str, isi_tuple_list, isi_tuple_tuple, isi_tuple_dict, isi_dict_bool, isi_dict_int, isi_dict_str, isi_dict_list, isi_dict_tuple, isi_dict_dict, tyU_n, tyU_b, tyU_i, tyU_s, tyU_l, tyU_t, rngOk_i, zipU_map, intsU_map, blsU_map, oAll_l, oSum_l, cutU_1, cutU_m1, drop_map, reverse_map, length_map', dropLast_map, oEq_i, oNe_i, oEq_b, oNe_b, oEq_nn, oNe_nn, oEq_tt, oNe_tt, oEq_tn, oNe_tn, oEq_nt, oNe_nt, oEq_pp, oNe_pp, oEq_ii, oNe_ii, List.zip_cons_cons, List.zip_nil_left, mCallF_m, oMul_s, oPowX_i, mMakeS_m, mMakeL_m, mFld_m, mProp_m, mnSeq_m, mnS_m, mnF_m, at0_e, allX_const, seqU_l, seqU_f, seqU_t, pm_nil, pm_cons, List.mem_singleton, and_self, scV_b, scV_i, scV_s, scV_n, Option.isSome_some, tyU_d, mgTup_2, mgTup_3, mgTup_4, or_false, false_or, or_self, or_true, true_or, Nat.reduceBEq, bindEA_ok, bindEA_ex, unown, kills, cellAt, List.map_cons, List.map_nil, List.length_cons, List.length_nil, List.cons_append, List.nil_append, List.replicate, List.getElem?_cons_succ, List.getElem?_cons_zero, List.set_cons_zero, List.set_cons_succ, Option.map_some, Option.map_none, Option.bind_some, Option.bind_none, Nat.reduceAdd, Nat.reduceSub, Nat.reduceLeDiff, Int.reduceLT, Int.reduceLE, Int.reduceNeg, Int.reduceToNat, Int.reducePow, decide_eq_true_eq, reduceIte, eq_self, ite_true, ite_false, Bool.false_eq_true, reduceCtorEq, resolve, celJ, nCel, Slot.isC, List.filter, putJ, callM, callMF, List.append_eq, Nat.reduceLT, Int.reduceMul, Int.reduceAdd, Int.reduceSub, ne_eq, not_true_eq_false, not_false_eq_true, Bool.not_false, Bool.not_true, decide_true, decide_false, frF, Int.cast_ofNat_Int, Bool.and_true, Bool.true_and, Bool.false_and, Bool.and_false, Bool.or_false, Bool.false_or, Bool.true_or, Bool.or_true, G__law_all_rows_0, T__law_all_rows_1, E__law_all_rows_2, G__law_all_rows_3, G__law_all_rows_5, G__law_runs_0, G_is_run_0, T_is_run_1, E_is_run_2, G_are_runs_0, T_are_runs_1, E_are_runs_2, G_are_runs_3, T_are_runs_4, E_are_runs_5, G_Plain_signs_0, T_Plain_signs_1, E_Plain_signs_2, G_Next_signs_0, G_Single_signs_0, G_Block_signs_0, G_Later_signs_0, G_signs_of_0, T_signs_of_1, E_signs_of_2, G_value_of_0, T_value_of_1, E_value_of_2, G_are_values_0, T_are_values_1, E_are_values_2, G_are_values_3, T_are_values_4, E_are_values_5, G_count_agreeing_0, T_count_agreeing_1, E_count_agreeing_2, E_count_agreeing_3, G_count_agreeing_4, G_count_agreeing_6, G_count_agreeing_8, G__law_right_0, T__law_right_1, E__law_right_2, G__law_right_3, T__law_right_4, E__law_right_5, G__law_right_6, T__law_right_7, E__law_right_8, G__law_right_9, T__law_right_10, E__law_right_11, G__law_right_12, G__law_right_14, T__law_right_15, E__law_right_16, G__law_right_17, G__law_values_0, T__law_values_1, E__law_values_2, G_law_0, oList_l, oLen_l, snl_n, Option.getD_none, Option.getD_some, mIdx_m, mRepeat_m]; try rfl))
theorem ne_lists (T : List (List Int)) : (oNe (K := K)).f (.lst (T.map fun r => U.lst (r.map U.int))) (.lst (T.map fun r => U.lst (r.map U.int))) = some (.bl false) := by
  have := oNe_u (K := K) _ _ _ ((eqLst (eqLst eqInt)).eq (by decide) T T)
  rw [decide_eq_true rfl] at this
  exact this
theorem right_k (own : Bool) (m0 : Nat) (f : List U) (hf : Well m0 f) (hm0 : m0 < 800000) (vs : List Int) (h : ValsOk vs) (h4 : vs.length ≤ 4) (n : Nat) (n1 : 1 ≤ n) (n4 : n ≤ 4) :
    ∃ f', Well (m0 + 2) f' ∧ mf__law_right K [.cel own f, .val (.lst (vs.map U.int)), .val (.int n)] = some (.val (.bl true) (some f')) := by
  have hp : ∀ x ∈ vs, 1 ≤ x := fun x hx => (h.bd x hx).1
  have pw := asc_pw vs h.asc
  have hv : vs.Nodup := pw.imp fun l => Int.ne_of_lt l
  have l3 := fun V0 V5 V6 => r_outer (K := K) V0 V5 V6 vs h n n1 (by omega)
  have l9 := fun V0 V1 V2 V3 V5 V6 V7 V8 V9 V10 => r_tout (K := K) V0 V1 V2 V3 V5 V6 V7 V8 V9 V10 vs n
  have ec : (KS.map fun b => U.lst ((colC vs n b).map U.int)) = KS.map fun a => U.lst ((rowC vs n a).map U.int) := List.map_congr_left fun b _ => by rw [col_row hv hp n1 b]
  rw [ec] at l9
  have eT : (KS.map fun a => U.lst ((rowC vs n a).map U.int)) = (KS.map (rowC vs n)).map fun r => U.lst (r.map U.int) := by rw [List.map_map]; rfl
  have ene := ne_lists (K := K) (KS.map (rowC vs n))
  rw [← eT] at ene
  have lw := fun V0 V2 V3 V4 V7 V8 V9 V10 V11 V12 V13 => r_whole (K := K) V0 V2 V3 V4 V7 V8 V9 V10 V11 V12 V13 vs h4 (rangeU 0 n) 0 (by unfold rangeU; rw [List.length_map, List.length_range]; omega)
  have lr : 0 + (rangeU 0 n).length = n := by unfold rangeU; rw [List.length_map, List.length_range]; omega
  rw [lr, show ((vs.length ^ 0 : Nat) : Int) = 1 from by rw [Nat.pow_zero]; rfl] at lw
  have ld := fun V0 V1 V2 V3 V5 V6 V7 V8 V9 V10 => r_diag (K := K) V0 V1 V2 V3 V5 V6 V7 V8 V9 V10 vs n
  have eD : ([Kd.plain, .next, .block, .later].map fun k => U.int (cntA k k vs n)) = [((vs.length ^ n : Nat) : Int), ((vs.length ^ n : Nat) : Int), ((vs.length ^ n : Nat) : Int), ((vs.length ^ n : Nat) : Int)].map U.int := by
    show [U.int (cntA .plain .plain vs n), .int (cntA .next .next vs n), .int (cntA .block .block vs n), .int (cntA .later .later vs n)] = _
    rw [cnt_all (by decide) hv hp n1, cnt_all (by decide) hv hp n1, cnt_all (by decide) hv hp n1, cnt_all (by decide) hv hp n1]
    rfl
  rw [eD] at ld
  have end2 : ∀ w : Int, (oNe (K := K)).f (.lst [.int w, .int w, .int w, .int w]) (.lst [.int w, .int w, .int w, .int w]) = some (.bl false) := fun w => by
    have := oNe_ii (K := K) [w, w, w, w] [w, w, w, w]
    rw [decide_eq_true rfl] at this
    exact this
  have erep : ∀ w : U, [[w], [w], [w], [w]].flatten = [w, w, w, w] := fun _ => rfl
  have ecnd : (True ∧ True ∧ 1 * 4 ≤ 16777216) = True := by simp
  have t0 := tab_at (fun a => U.lst ((rowC vs n a).map U.int)) .plain
  have t1 := tab_at (fun a => U.lst ((rowC vs n a).map U.int)) .single
  rw [show ixK .plain = 0 from rfl] at t0
  rw [show ixK .single = 1 from rfl] at t1
  have c11 := row_at vs n .single .single
  have c12 := row_at vs n .single .next
  have c04 := row_at vs n .plain .later
  have c03 := row_at vs n .plain .block
  have c02 := row_at vs n .plain .next
  rw [show ixK .single = 1 from rfl] at c11
  rw [show ixK .next = 2 from rfl] at c12 c02
  rw [show ixK .later = 4 from rfl] at c04
  rw [show ixK .block = 3 from rfl] at c03
  have q1 : (oNe (K := K)).f (.int (cntA .single .single vs n)) (.int (cntA .single .next vs n)) = some (.bl false) := by
    rw [oNe_i, cnt_single hv hp n1, decide_eq_true rfl]; rfl
  have q2 : decide (cntA .plain .later vs n > cntA .plain .block vs n) = false := decide_eq_false (by
    have := cnt_mono (a := .plain) (b := .block) (c := .later) (by decide) (by decide) (by decide) (by decide) hv hp n1
    omega)
  have q3 : decide (cntA .plain .block vs n > cntA .plain .next vs n) = false := decide_eq_false (by
    have := cnt_mono (a := .plain) (b := .next) (c := .block) (by decide) (by decide) (by decide) (by decide) hv hp n1
    omega)
  obtain ⟨d1, f1, p0, p1, hf1, e1⟩ := dip_k (K := K) false m0 f 5 hf (by omega) (by omega) (by omega)
  obtain ⟨a, ea⟩ := idxK_at d1 p0 p1
  obtain ⟨d2, f2, p2, p3, hf2, e2⟩ := dip_k (K := K) false _ f1 5 hf1 (by omega) (by omega) (by omega)
  obtain ⟨b, eb⟩ := idxK_at d2 p2 p3
  have eo := of_k (K := K) vs a h
  have er := rows_k (K := K) vs h.top n (by omega) (fun m hm => by
    rw [evN_pow]
    have : vs.length ^ m ≤ 4 ^ 4 := Nat.le_trans (Nat.pow_le_pow_left h4 m) (Nat.pow_le_pow_right (by omega) (by omega))
    omega)
  have lm := fun V0 V1 V2 V3 V4 V5 V6 V7 V13 => r_rows (K := K) V0 V1 V2 V3 V4 V5 V6 V7 V13 vs a b h (evN vs n) 0 (fun l hl => by
    obtain ⟨x, y⟩ := (evN_mem vs n l).mp hl
    exact ⟨y, by omega, by omega⟩)
  rw [Int.zero_add, ← cntA_eq a b hv n1] at lm
  have ia := idx_k a
  have ib := idx_k b
  have ta := tab_at (fun a => U.lst ((rowC vs n a).map U.int)) a
  have tb := row_at vs n a b
  have hr5 : rngOk 0 5 = true := by decide
  have hrn : rngOk 0 (n : Int) = true := rngOk_i 0 _ (by omega) (by omega) (by omega) (by omega)
  have en : ((n : Int)).toNat = n := by omega
  have n5 : (5 : Int).toNat = 5 := rfl
  refine ⟨f2, hf2, ?_⟩
  clear ec eT eD lr pw hv hp h h4 n1 n4 hf hf1 hf2 hm0 p0 p1 p2 p3
  generalize (rowC vs n a).map U.int = RA at *
  generalize (rowC vs n .plain).map U.int = R0 at *
  generalize (rowC vs n .single).map U.int = R1 at *
  generalize (KS.map fun a => U.lst ((rowC vs n a).map U.int)) = T at *
  generalize cntA a b vs n = cab at *
  generalize cntA .single .single vs n = c1 at *
  generalize cntA .single .next vs n = c2 at *
  generalize cntA .plain .later vs n = c4 at *
  generalize cntA .plain .block vs n = c3 at *
  generalize cntA .plain .next vs n = c5 at *
  generalize ((vs.length ^ n : Nat) : Int) = W at *
  generalize (evN vs n).map llU = E at *
  generalize sysU vs a = S at *
  generalize vs.map U.int = M at *
  unfold RU at *
  generalize a.s = as at *
  generalize b.s = bs at *
  generalize ixK a = xa at *
  generalize ixK b = xb at *
  unfold mf__law_right M__law_right
  trivial
end Sg
set_option Elab.async false
set_option linter.all false
set_option maxRecDepth 100000
set_option maxHeartbeats 1000000
namespace Sg
open PySem L2
variable {K : PySem.W.Frag}
theorem sub_ok {vs ws : List Int} (h : ValsOk vs) (s : ws.Sublist vs) (p : 1 ≤ ws.length) : ValsOk ws := by
  have pw := (asc_pw vs h.asc).sublist s
  exact ⟨p, Nat.le_trans s.length_le h.top, fun x hx => h.bd x (s.subset hx), zip_asc _ (pw.imp fun l => Int.le_of_lt l) (pw.imp fun l => Int.ne_of_lt l)⟩
theorem cutU_to (us : List U) (i : Int) (h0 : 0 ≤ i) : cutU us none (some i) = us.take i.toNat := by
  have e : i = ((i.toNat : Nat) : Int) := (Int.toNat_of_nonneg h0).symm
  unfold cutU
  rw [e, HT.sIx_nat, HT.sIx_none, Int.toNat_natCast, List.drop_zero, Nat.sub_zero]
  by_cases c : i.toNat ≤ us.length
  · rw [Nat.min_eq_left c]
  · rw [Nat.min_eq_right (by omega), List.take_of_length_le (Nat.le_refl _), List.take_of_length_le (by omega)]
local macro_rules | `(tactic| trivial) => `(tactic| simp -implicitDefEqProofs (disch := omega) only [*, mC_m, mVar_m, mLook_m, mLet_m, mNil_m, msNil_m, msSeq_m, msAsgF_m, msDrop_m, msRet_m, msRetF_m, msRaise_m, msFor_m, mtYes_m, mLc_m, mcNil_m, mcCel_m, mCall_m, moNone_m, moSome_m, mSlL_m, mBi_m, mBiF_m, miList_m, miTup_m, miRng1_m, miEnum_m, miZip_m, mMeth_m, msSet_m, mCat_m, mRepeat_m, mChain_m, mIsi_m, mRev_m, mListRng_m, mCallF_m, msParVV_m, mMethD_m, mNew_m, mCMeth_m, mConC_m, msTry_m, mSup_m, okE_some, okE_none, opE_ok, opE_ex, opF_ok, opF_ex, mOp_e, mIx_e, unE_ok, mUn_e, coE_ok, coE_ex, coF_ok, coF_ex, mCons_e, bindAE_ok, bindAE_ex, mTup_e, tupF_e, mFr_e, lstF_ok, mLst_e, tsE_ok, tsE_ex, mTest_e, okT_some, truE_ok, truE_ex, mTru_e, anE_t, anE_f, anE_ok, orE_t, orE_f, orE_ok, mAnd_e, mOr_e, noE_ok, noE_ex, mNot_e, blV_ok, blV_ex, anV_t, anV_f, anV_ok, orV_t, orV_f, orV_ok, mAndV_e, mOrV_e, noV_ok, noV_ex, mNotV_e, ifV_t, ifV_f, ifV_ok, mIf_e, ifS_t, ifS_f, ifS_ok, ifS_ex, msIf_e, nxO_some, asE_ok, asE_ex, msAsg_e, gcE_some, mgCons_e, mgNil_e, mgTup_e, mgName_e, cvE_ok, cvE_ex, consC_ok, mcVal_e, thenS_nx, thenS_bk, thenS_ct, thenS_rt, thenS_ex, bindES_ok, bindES_ex, bindAS_ok, bindAS_ex, bindE_ok, bindE_ex, mfOf_e, mfOf0_e, noX_val, noX_cel, coM_some, fin_val, fin_cel, fin_nx, fin_ex, oAdd_i, oSub_i, oMul_l, oMul_r, oMod_i, oDiv_i, oPow_i, oLt_i, oLe_i, oGt_i, oGe_i, oEqI_i, oIx_l, oIx_f, oIx_t, at1_0, at2_0, at2_1, at3_0, at3_1, at3_2, at4_0, at4_1, at4_2, at4_3, ix3_0, ix3_1, ix3_2, oMax2_i, oMin2_i, oAbs_i, oInt_b, oLen_l, oLen_f, oLen_t, oNeg_i, truU_i, truU_l, truU_b, truU_n, lstU_l, lstU_f, oAppend_u, lstF_0, tupF_0, lstF_1, tupF_1, lstF_2, tupF_2, lstF_3, tupF_3, lstF_4, tupF_4, lstF_5, tupF_5, lstF_6, tupF_6, isi_NoneType_bool, isi_NoneType_int, isi_NoneType_str, isi_NoneType_list, isi_NoneType_tuple, isi_NoneType_dict, isi_bool_bool, isi_bool_int, isi_bool_str, isi_bool_list, isi_bool_tuple, isi_bool_dict, isi_int_bool, isi_int_int, isi_int_str, isi_int_list, isi_int_tuple, isi_int_dict, isi_str_bool, isi_str_int, isi_str_str, isi_str_list, isi_str_tuple, isi_str_dict, isi_list_bool, isi_list_int, isi_list_str, isi_list_list, isi_list_tuple, isi_list_dict, isi_tuple_bool, isi_tuple_int, isi_tuple_str, isi_tuple_list, isi_tuple_tuple, isi_tuple_dict, isi_dict_bool, isi_dict_int, isi_dict_str, isi_dict_list, isi_dict_tuple, isi_dict_dict, tyU_n, tyU_b, tyU_i, tyU_s, tyU_l, tyU_t, rngOk_i, zipU_map, intsU_map, blsU_map, oAll_l, oSum_l, cutU_1, cutU_m1, drop_map, reverse_map, length_map', dropLast_map, oEq_i, oNe_i, oEq_b, oNe_b, oEq_nn, oNe_nn, oEq_tt, oNe_tt, oEq_tn, oNe_tn, oEq_nt, oNe_nt, oEq_pp, oNe_pp, oEq_ii, oNe_ii, List.zip_cons_cons, List.zip_nil_left, mCallF_m, oMul_s, oPowX_i, mMakeS_m, mMakeL_m, mFld_m, mProp_m, mnSeq_m, mnS_m, mnF_m, at0_e, allX_const, seqU_l, seqU_f, seqU_t, pm_nil, pm_cons, List.mem_singleton, and_self, scV_b, scV_i, scV_s, scV_n, Option.isSome_some, tyU_d, mgTup_2, mgTup_3, mgTup_4, or_false, false_or, or_self, or_true, true_or, Nat.reduceBEq, bindEA_ok, bindEA_ex, unown, kills, cellAt, List.map_cons, List.map_nil, List.length_cons, List.length_nil, List.cons_append, List.nil_append, List.replicate, List.getElem?_cons_succ, List.getElem?_cons_zero, List.set_cons_zero, List.set_cons_succ, Option.map_some, Option.map_none, Option.bind_some, Option.bind_none, Nat.reduceAdd, Nat.reduceSub, Nat.reduceLeDiff, Int.reduceLT, Int.reduceLE, Int.reduceNeg, Int.reduceToNat, Int.reducePow, decide_eq_true_eq, reduceIte, eq_self, ite_true, ite_false, Bool.false_eq_true, reduceCtorEq, resolve, celJ, nCel, Slot.isC, List.filter, putJ, callM, callMF, List.append_eq, Nat.reduceLT, Int.reduceMul, Int.reduceAdd, Int.reduceSub, ne_eq, not_true_eq_false, not_false_eq_true, Bool.not_false, Bool.not_true, decide_true, decide_false, frF, Int.cast_ofNat_Int, Bool.and_true, Bool.true_and, Bool.false_and, Bool.and_false, Bool.or_false, Bool.false_or, Bool.true_or, Bool.or_true, oList_l, oLen_l, snl_n, Option.getD_none, Option.getD_some, ptab_row_S, ptab_rule_S, look_hv, look_hr, cutU_m1])
local macro_rules | `(tactic| ac_rfl) => `(tactic| (simp -implicitDefEqProofs (disch := omega) only [*, mC_m, mVar_m, mLook_m, mLet_m, mNil_m, msNil_m, msSeq_m, msAsgF_m, msDrop_m, msRet_m, msRetF_m, msRaise_m, msFor_m, mtYes_m, mLc_m, mcNil_m, mcCel_m, mCall_m, moNone_m, moSome_m, mSlL_m, mBi_m, mBiF_m, miList_m, miTup_m, miRng1_m, miEnum_m, miZip_m, mMeth_m, msSet_m, mCat_m, mRepeat_m, mChain_m, mIsi_m, mRev_m, mListRng_m, mCallF_m, msParVV_m, mMethD_m, mNew_m, mCMeth_m, mConC_m, msTry_m, mSup_m, okE_some, okE_none, opE_ok, opE_ex, opF_ok, opF_ex, mOp_e, mIx_e, unE_ok, mUn_e, coE_ok, coE_ex, coF_ok, coF_ex, mCons_e, bindAE_ok, bindAE_ex, mTup_e, tupF_e, mFr_e, lstF_ok, mLst_e, tsE_ok, tsE_ex, mTest_e, okT_some, truE_ok, truE_ex, mTru_e, anE_t, anE_f, anE_ok, orE_t, orE_f, orE_ok, mAnd_e, mOr_e, noE_ok, noE_ex, mNot_e, blV_ok, blV_ex, anV_t, anV_f, anV_ok, orV_t, orV_f, orV_ok, mAndV_e, mOrV_e, noV_ok, noV_ex, mNotV_e, ifV_t, ifV_f, ifV_ok, mIf_e, ifS_t, ifS_f, ifS_ok, ifS_ex, msIf_e, nxO_some, asE_ok, asE_ex, msAsg_e, gcE_some, mgCons_e, mgNil_e, mgTup_e, mgName_e, cvE_ok, cvE_ex, consC_ok, mcVal_e, thenS_nx, thenS_bk, thenS_ct, thenS_rt, thenS_ex, bindES_ok, bindES_ex, bindAS_ok, bindAS_ex, bindE_ok, bindE_ex, mfOf_e, mfOf0_e, noX_val, noX_cel, coM_some, fin_val, fin_cel, fin_nx, fin_ex, oAdd_i, oSub_i, oMul_l, oMul_r, oMod_i, oDiv_i, oPow_i, oLt_i, oLe_i, oGt_i, oGe_i, oEqI_i, oIx_l, oIx_f, oIx_t, at1_0, at2_0, at2_1, at3_0, at3_1, at3_2, at4_0, at4_1, at4_2, at4_3, ix3_0, ix3_1, ix3_2, oMax2_i, oMin2_i, oAbs_i, oInt_b, oLen_l, oLen_f, oLen_t, oNeg_i, truU_i, truU_l, truU_b, truU_n, lstU_l, lstU_f, oAppend_u, lstF_0, tupF_0, lstF_1, tupF_1, lstF_2, tupF_2, lstF_3, tupF_3, lstF_4, tupF_4, lstF_5, tupF_5, lstF_6, tupF_6, isi_NoneType_bool, isi_NoneType_int, isi_NoneType_str, isi_NoneType_list, isi_NoneType_tuple, isi_NoneType_dict, isi_bool_bool, isi_bool_int, isi_bool_str, isi_bool_list, isi_bool_tuple, isi_bool_dict, isi_int_bool, isi_int_int, isi_int_str, isi_int_list, isi_int_tuple, isi_int_dict, isi_str_bool, isi_str_int, isi_str_str, isi_str_list, isi_str_tuple, isi_str_dict, isi_list_bool, isi_list_int, isi_list_str, isi_list_list, isi_list_tuple, isi_list_dict, isi_tuple_bool, isi_tuple_int, isi_tuple_str, isi_tuple_list, isi_tuple_tuple, isi_tuple_dict, isi_dict_bool, isi_dict_int, isi_dict_str, isi_dict_list, isi_dict_tuple, isi_dict_dict, tyU_n, tyU_b, tyU_i, tyU_s, tyU_l, tyU_t, rngOk_i, zipU_map, intsU_map, blsU_map, oAll_l, oSum_l, cutU_1, cutU_m1, drop_map, reverse_map, length_map', dropLast_map, oEq_i, oNe_i, oEq_b, oNe_b, oEq_nn, oNe_nn, oEq_tt, oNe_tt, oEq_tn, oNe_tn, oEq_nt, oNe_nt, oEq_pp, oNe_pp, oEq_ii, oNe_ii, List.zip_cons_cons, List.zip_nil_left, mCallF_m, oMul_s, oPowX_i, mMakeS_m, mMakeL_m, mFld_m, mProp_m, mnSeq_m, mnS_m, mnF_m, at0_e, allX_const, seqU_l, seqU_f, seqU_t, pm_nil, pm_cons, List.mem_singleton, and_self, scV_b, scV_i, scV_s, scV_n, Option.isSome_some, tyU_d, mgTup_2, mgTup_3, mgTup_4, or_false, false_or, or_self, or_true, true_or, Nat.reduceBEq, bindEA_ok, bindEA_ex, unown, kills, cellAt, List.map_cons, List.map_nil, List.length_cons, List.length_nil, List.cons_append, List.nil_append, List.replicate, List.getElem?_cons_succ, List.getElem?_cons_zero, List.set_cons_zero, List.set_cons_succ, Option.map_some, Option.map_none, Option.bind_some, Option.bind_none, Nat.reduceAdd, Nat.reduceSub, Nat.reduceLeDiff, Int.reduceLT, Int.reduceLE, Int.reduceNeg, Int.reduceToNat, Int.reducePow, decide_eq_true_eq, reduceIte, eq_self, ite_true, ite_false, Bool.false_eq_true, reduceCtorEq, resolve, celJ, nCel, Slot.isC, List.filter, putJ, callM, callMF, List.append_eq, Nat.reduceLT, Int.reduceMul, Int.reduceAdd, Int.reduceSub, ne_eq, not_true_eq_false, not_false_eq_true, Bool.not_false, Bool.not_true, decide_true, decide_false, frF, Int.cast_ofNat_Int, Bool.and_true, Bool.true_and, Bool.false_and, Bool.and_false, Bool.or_false, Bool.false_or, Bool.true_or, Bool.or_true, G__law_all_rows_0, T__law_all_rows_1, E__law_all_rows_2, G__law_all_rows_3, G__law_all_rows_5, G__law_runs_0, G_is_run_0, T_is_run_1, E_is_run_2, G_are_runs_0, T_are_runs_1, E_are_runs_2, G_are_runs_3, T_are_runs_4, E_are_runs_5, G_Plain_signs_0, T_Plain_signs_1, E_Plain_signs_2, G_Next_signs_0, G_Single_signs_0, G_Block_signs_0, G_Later_signs_0, G_signs_of_0, T_signs_of_1, E_signs_of_2, G_value_of_0, T_value_of_1, E_value_of_2, G_are_values_0, T_are_values_1, E_are_values_2, G_are_values_3, T_are_values_4, E_are_values_5, G_count_agreeing_0, T_count_agreeing_1, E_count_agreeing_2, E_count_agreeing_3, G_count_agreeing_4, G_count_agreeing_6, G_count_agreeing_8, G__law_right_0, T__law_right_1, E__law_right_2, G__law_right_3, T__law_right_4, E__law_right_5, G__law_right_6, T__law_right_7, E__law_right_8, G__law_right_9, T__law_right_10, E__law_right_11, G__law_right_12, G__law_right_14, T__law_right_15, E__law_right_16, G__law_right_17, G__law_values_0, T__law_values_1, E__law_values_2, G_law_0, oList_l, oLen_l, snl_n, Option.getD_none, Option.getD_some, ptab_row_S, ptab_rule_S, look_hv, look_hr, cutU_m1]; try rfl))
theorem rule_k (own : Bool) (n : Nat) (f : List U) (hf : Well n f) (hn : n < 900000) :
    ∃ (k : Kd) (f' : List U), Well (n + 1) f' ∧ mf__law_rule K [.cel own f] = some (.val (.str k.s) (some f')) := by
  obtain ⟨d, g, a, b, hg, e⟩ := dip_k (K := K) false n f 5 hf (by omega) (by omega) (by omega)
  have key : ∃ k : Kd, atI [U.str "plain", .str "single", .str "next", .str "block", .str "later"] d = some (.str k.s) := by
    have : d = 0 ∨ d = 1 ∨ d = 2 ∨ d = 3 ∨ d = 4 := by omega
    rcases this with rfl | rfl | rfl | rfl | rfl
    · exact ⟨.plain, rfl⟩
    · exact ⟨.single, rfl⟩
    · exact ⟨.next, rfl⟩
    · exact ⟨.block, rfl⟩
    · exact ⟨.later, rfl⟩
  obtain ⟨k, ek⟩ := key
  refine ⟨k, g, hg, ?_⟩
  clear hf hn hg
  unfold mf__law_rule M__law_rule
  trivial
theorem turn_k (ns : List Int) (i : Int) (i0 : 0 ≤ i) (i1 : i < 1000) : ∃ (f' : List U) (t3 t4 t5 t6 : Slot), (B_law_1 K).m [.val (.frl (ns.map U.int)), .val (.int i), .non, .non, .non, .non, .non] = some (.nx [.val (.frl (ns.map U.int)), .val (.int i), .cel true f', t3, t4, t5, t6]) := by
  obtain ⟨f, hf, e1⟩ := well_k (K := K) ns i i0 i1
  obtain ⟨ws, f1, hws, _, hf1, e2⟩ := values_k (K := K) true 0 f 60 hf (by omega) (by omega) (by omega)
  obtain ⟨d, f2, d0, d1, hf2, e3⟩ := dip_k (K := K) true _ f1 4 hf1 (by omega) (by omega) (by omega)
  obtain ⟨n, hn⟩ : ∃ n : Nat, 1 + d = (n : Int) := ⟨(1 + d).toNat, by omega⟩
  have ct : cutU (ws.map U.int) none (some 4) = (ws.take 4).map U.int := by rw [cutU_to _ _ (by decide), ← List.map_take]; rfl
  have ok := sub_ok hws (List.take_sublist 4 ws) (by have := hws.pos; rw [List.length_take]; omega)
  have l4 : (ws.take 4).length ≤ 4 := by rw [List.length_take]; omega
  generalize ws.take 4 = vs at *
  obtain ⟨f3, hf3, e4⟩ := right_k (K := K) true _ f2 hf2 (by omega) vs ok l4 n (by omega) (by omega)
  obtain ⟨k, f4, hf4, e5⟩ := rule_k (K := K) true _ f3 hf3 (by omega)
  obtain ⟨j, f5, hf5, e6⟩ := rule_k (K := K) true _ f4 hf4 (by omega)
  have ln : (((vs.map U.int).length : Nat) : Int) = (vs.length : Int) := by rw [List.length_map]
  by_cases c : 1 < vs.length
  · have cd : decide ((vs.length : Int) > 1) = true := decide_eq_true (by omega)
    have hne : vs ≠ [] := fun z => by rw [z] at c; exact absurd c (by decide)
    have hs : vs.dropLast ++ [vs.getLast hne] = vs := List.dropLast_concat_getLast hne
    have ok2 := sub_ok ok (List.dropLast_sublist vs) (by rw [List.length_dropLast]; omega)
    have eo := of_k (K := K) vs.dropLast k ok2
    have eo2 := of_k (K := K) vs k ok
    have k1 := count_k (K := K) vs.dropLast k j ok2 n (by omega) (by omega)
    have k2 := count_k (K := K) vs k j ok n (by omega) (by omega)
    have er := ruleP_k (K := K) vs.dropLast k
    have nd : vs.Nodup := (asc_pw vs ok.asc).imp fun l => Int.ne_of_lt l
    have cm : decide (cntA k j vs.dropLast n ≥ cntA k j vs n) = false := decide_eq_false (by
      have h := cnt_more (a := k) (b := j) (ini := vs.dropLast) (top := vs.getLast hne) (by rw [hs]; exact nd) (ok.bd _ (List.getLast_mem hne)).1 (n := n) (by omega)
      rw [hs] at h
      omega)
    have ed : (vs.map U.int).dropLast = vs.dropLast.map U.int := List.map_dropLast.symm
    refine ⟨f5, .val (.lst (vs.map U.int)), .val (.int n), .val (sysU vs.dropLast k), .val (.str j.s), ?_⟩
    clear hf hf1 hf2 hf3 hf4 hf5 hws ok ok2 nd c hs d0 d1 i0 i1 l4
    generalize cntA k j vs.dropLast n = c1 at *
    generalize cntA k j vs n = c2 at *
    generalize sysU vs k = S2 at *
    generalize hS : sysU vs.dropLast k = S1 at *
    generalize vs.dropLast.map U.int = M1 at *
    generalize vs.map U.int = M at *
    generalize (vs.length : Int) = vl at *
    generalize ws.map U.int = M0 at *
    generalize ns.map U.int = N at *
    generalize k.s = ks at *
    generalize j.s = js at *
    subst hS
    unfold B_law_1
    trivial
  · have cd : decide ((vs.length : Int) > 1) = false := decide_eq_false (by omega)
    refine ⟨f3, .val (.lst (vs.map U.int)), .val (.int n), .non, .non, ?_⟩
    clear hf hf1 hf2 hf3 hf4 hf5 hws ok c d0 d1 i0 i1 l4 e5 e6
    generalize vs.map U.int = M at *
    generalize (vs.length : Int) = vl at *
    generalize ws.map U.int = M0 at *
    generalize ns.map U.int = N at *
    unfold B_law_1
    trivial
theorem law_loop (ns : List Int) : ∀ l : List Int, (∀ i ∈ l, 0 ≤ i ∧ i < 1000) →
    loopM (G_law_0 K).m (B_law_1 K).m [1, 2, 3, 4, 5, 6] (l.map U.int) [.val (.frl (ns.map U.int)), .non, .non, .non, .non, .non, .non] = some (.nx [.val (.frl (ns.map U.int)), .non, .non, .non, .non, .non, .non])
  | [], _ => rfl
  | i :: l, h => by
    obtain ⟨i0, i1⟩ := h i List.mem_cons_self
    obtain ⟨f', t3, t4, t5, t6, st⟩ := turn_k (K := K) ns i i0 i1
    rw [List.map_cons]
    unfold loopM
    rw [show (G_law_0 K).m (.int i) [.val (.frl (ns.map U.int)), .non, .non, .non, .non, .non, .non] = some [.val (.frl (ns.map U.int)), .val (.int i), .non, .non, .non, .non, .non] from rfl]
    dsimp only
    rw [st]
    exact law_loop ns l fun j hj => h j (List.mem_cons_of_mem _ hj)
theorem law_true (ns : List Int) (hl : ns.length ≤ 63) : mf_law K [.val (.frl (ns.map U.int))] = some (.val (.bl true) none) := by
  generalize hm : (if ((ns.length : Nat) : Int) < 3 then ((ns.length : Nat) : Int) else 3) = m
  generalize hm2 : (if 1 < m then m else 1) = m2
  have m0 : 0 ≤ m2 ∧ m2 ≤ 3 := by rw [← hm2, ← hm]; split <;> split <;> omega
  have hr : rngOk 0 m2 = true := rngOk_i 0 m2 (by omega) (by omega) (by omega) (by omega)
  have eL := law_loop (K := K) ns ((List.range m2.toNat).map fun i => (0 + (i : Nat) : Int)) fun i hi => by
    obtain ⟨j, hj, rfl⟩ := List.mem_map.mp hi
    have := List.mem_range.mp hj
    omega
  have er : ((List.range m2.toNat).map fun i => (0 + (i : Nat) : Int)).map U.int = rangeU 0 m2.toNat := by rw [rangeU_map, List.map_map]; rfl
  rw [er] at eL
  have el : (((ns.map U.int).length : Nat) : Int) = (ns.length : Int) := by rw [List.length_map]
  clear er m0 hl
  generalize ns.map U.int = N at *
  generalize (ns.length : Int) = ln at *
  unfold mf_law M_law
  trivial
end Sg
set_option Elab.async false
set_option linter.all false
set_option maxRecDepth 100000
set_option maxHeartbeats 4000000
namespace Sg
open PySem L2
end Sg
open PySem PySem.W PySem.Calls PyProof.Rows Sg
theorem joint (hT : ∀ (K : PySem.W.Frag) (ns : List Int), ns.length ≤ 63 → mf_law K [.val (.frl (ns.map U.int))] = some (.val (.bl true) none)) : PySem.Challenge.rw_signsheets_k27_whole_words_that_agree.Holds := by
  w_on; o_law
  refine HandSHeadRun.head_any (r := PySem.W.OpenLaw.row PySem.Challenge.rw_signsheets_k27_whole_words_that_agree) (q := PySem.W.view (PySem.W.OpenLaw.row PySem.Challenge.rw_signsheets_k27_whole_words_that_agree).prog [47]) (H := hk) (ob := ob) (M := 9000) (loose := (("_wall" : Str) :: ("SignError" : Str) :: ("InvalidValues" : Str) :: ("InvalidWord" : Str) :: ("InvalidLength" : Str) :: ("MOST_RUNS" : Str) :: ("PLAIN" : Str) :: ("SINGLE" : Str) :: ("NEXT" : Str) :: ("BLOCK" : Str) :: ("LATER" : Str) :: ("is_integer" : Str) :: ("is_run" : Str) :: ("are_runs" : Str) :: ("need_runs" : Str) :: ("Rule" : Str) :: ("Plain" : Str) :: ("Next" : Str) :: ("Single" : Str) :: ("Block" : Str) :: ("Later" : Str) :: ("rule_of" : Str) :: ("MOST_VALUE" : Str) :: ("are_values" : Str) :: ("is_rule" : Str) :: ("System" : Str) :: ("signs_of" : Str) :: ("is_word" : Str) :: ("value_of" : Str) :: ("MOST_LENGTH" : Str) :: ("agree" : Str) :: ("Tail" : Str) :: ("fits_before" : Str) :: ("count_agreeing" : Str) :: ("_law_well" : Str) :: ("_law_dip" : Str) :: ("_law_values" : Str) :: ("_law_rule" : Str) :: ("_law_all_rows" : Str) :: ("_law_runs" : Str) :: ("_law_right" : Str) :: [])) (d := HandSHeadRun.topDef (PySem.W.OpenLaw.row PySem.Challenge.rw_signsheets_k27_whole_words_that_agree).prog 47) (kwd := []) ob_eq
    (by kernel_rfl) (fun s => by kernel_rfl) run (by kernel_rfl) (by kernel_rfl) (by kernel_rfl) (by rfl) (by first | assumption | decide +kernel) (by decide +kernel) ⟨rfl, rfl, rfl, rfl, rfl, by decide +kernel⟩ ?hw ?hc
  case hw => w_witness2
  case hc =>
    refine L2.walk_ofE (l := PySem.Challenge.rw_signsheets_k27_whole_words_that_agree) (n := 63) (k := 11) (x := "_law_script") (CX := L2.CX0) rfl (by decide) (by kernel_rfl) ⟨rfl, by decide, by decide⟩ ?F (fun _ _ _ _ z => z)
    intro w mg fa h Y G hmg0
    obtain ⟨K, KX, c⟩ := Y
    have hmg : mg ("law" : PySem.Str) = some (.ref fa) := by
      have e : (HandSHeadRun.topDef (PySem.W.OpenLaw.row PySem.Challenge.rw_signsheets_k27_whole_words_that_agree).prog 47).name = ("law" : PySem.Str) := by kernel_rfl
      rw [← e]
      exact hmg0
    have T := top_of KX G c
    have e2 := hmg.symm.trans T.g_law
    cases e2
    obtain ⟨fd, hb, F⟩ := c_law (P := PySem.Challenge.pw_signsheets_k27_whole_words_that_agree) (w := w) T
    exact ⟨K, fd, _, KX, hb, fun H a ns hl _ hS => spM_law (hT K ns hl) hS, fun base _ _ => law0 (F base)⟩
theorem PySem.Challenge.cw_signsheets_k27_whole_words_that_agree_holds : PySem.Challenge.rw_signsheets_k27_whole_words_that_agree.Holds := by
  exact joint fun K ns hl => Sg.law_true ns hl
